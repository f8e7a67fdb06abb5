import PyProof.Rows.All
import Wide.All
import OpenK.AllK
import Wide.FinOn
import PyProof.EqAt
import PyProof.EqKinds
import PyProof.TupleCall
import HandS.ForMost
import HandS.ForExc
import HandS.Walk
import HandS.Zip
import HandS.TupAny
import HandS.TupMul
import HandS.Style
import HandS.IsInst
import HandS.Deep
import HandS.Codes
import HandS.CallSlots
import HandS.List
import KE.GoesEnum
import HandS.Iter
import PyProof.AttrMissHeap
import HandS.Dict
import HandS.SetKeys
import HandS.More
import HandS.Strs
import HandS.ExcIs
import HandS.ExcOwn
import HandS.TryMany
import HandS.ExcCtx
import HandS.Hot
import HandS.HotCalls
import HandS.Defaults
import HandS.HeadHook1
import KE.KStateDown
import HandS.Flow
import HandS.Comp
import HandS.Lambda
import HandS.Words
import HandS.Ends
import HandS.HeadHook2
import HandS.HeadHook3
import HandS.HeadHook4
import Lean
import HandS.Base
import HandS.Call
import HandS.WordsExc
import HandS.Head0
import HandS.Head1
import HandS.Head2
import HandS.HeadEnd
import PySem.Challenge.RW_mendrules_k10_whole_mends
/-! Eng1 -/
set_option linter.all false
/-! The evaluator: plain Lean, no library. -/
namespace Eng

def szL : Nat := 16777216
def dpL : Nat := 190

/-- values; texts are lists of code points; lst: a list that is not changed any more; loc: an object of the store; scr: the law's script -/
inductive D where
  | non
  | bl (b : Bool)
  | int (i : Int)
  | str (s : List Nat)
  | tup (xs : List D)
  | lst (xs : List D)
  | loc (n : Nat)
  | scr (ns : List Int)

mutual
def D.dec : (a b : D) → Decidable (a = b)
  | .non, .non => isTrue rfl
  | .bl a, .bl b => if h : a = b then isTrue (by rw [h]) else isFalse (fun e => h (D.bl.inj e))
  | .int a, .int b => if h : a = b then isTrue (by rw [h]) else isFalse (fun e => h (D.int.inj e))
  | .str a, .str b => if h : a = b then isTrue (by rw [h]) else isFalse (fun e => h (D.str.inj e))
  | .loc a, .loc b => if h : a = b then isTrue (by rw [h]) else isFalse (fun e => h (D.loc.inj e))
  | .tup a, .tup b => match D.decs a b with
    | isTrue h => isTrue (by rw [h])
    | isFalse h => isFalse (fun e => h (D.tup.inj e))
  | .lst a, .lst b => match D.decs a b with
    | isTrue h => isTrue (by rw [h])
    | isFalse h => isFalse (fun e => h (D.lst.inj e))
  | .scr a, .scr b => if h : a = b then isTrue (by rw [h]) else isFalse (fun e => h (D.scr.inj e))
  | .non, .bl _ | .non, .int _ | .non, .str _ | .non, .tup _ | .non, .lst _ | .non, .loc _ | .non, .scr _ => isFalse (fun e => nomatch e)
  | .bl _, .non | .bl _, .int _ | .bl _, .str _ | .bl _, .tup _ | .bl _, .lst _ | .bl _, .loc _ | .bl _, .scr _ => isFalse (fun e => nomatch e)
  | .int _, .non | .int _, .bl _ | .int _, .str _ | .int _, .tup _ | .int _, .lst _ | .int _, .loc _ | .int _, .scr _ => isFalse (fun e => nomatch e)
  | .str _, .non | .str _, .bl _ | .str _, .int _ | .str _, .tup _ | .str _, .lst _ | .str _, .loc _ | .str _, .scr _ => isFalse (fun e => nomatch e)
  | .tup _, .non | .tup _, .bl _ | .tup _, .int _ | .tup _, .str _ | .tup _, .lst _ | .tup _, .loc _ | .tup _, .scr _ => isFalse (fun e => nomatch e)
  | .lst _, .non | .lst _, .bl _ | .lst _, .int _ | .lst _, .str _ | .lst _, .tup _ | .lst _, .loc _ | .lst _, .scr _ => isFalse (fun e => nomatch e)
  | .loc _, .non | .loc _, .bl _ | .loc _, .int _ | .loc _, .str _ | .loc _, .tup _ | .loc _, .lst _ | .loc _, .scr _ => isFalse (fun e => nomatch e)
  | .scr _, .non | .scr _, .bl _ | .scr _, .int _ | .scr _, .str _ | .scr _, .tup _ | .scr _, .lst _ | .scr _, .loc _ => isFalse (fun e => nomatch e)
def D.decs : (a b : List D) → Decidable (a = b)
  | [], [] => isTrue rfl
  | [], _ :: _ => isFalse (fun e => nomatch e)
  | _ :: _, [] => isFalse (fun e => nomatch e)
  | x :: xs, y :: ys => match D.dec x y with
    | isFalse h => isFalse (fun e => h (List.cons.inj e).1)
    | isTrue h => match D.decs xs ys with
      | isTrue h' => isTrue (by rw [h, h'])
      | isFalse h' => isFalse (fun e => h' (List.cons.inj e).2)
end
instance : DecidableEq D := D.dec

/-- a changeable object: a list, a dict with text keys, a dict with keys that are tuples of texts -/
inductive MO where
  | lst (xs : List D)
  | dct (kvs : List (List Nat × D))
  | dtt (kvs : List (List (List Nat) × D))
  deriving DecidableEq

abbrev Sto := List MO
abbrev Env := List (Option D)

inductive Res (a : Type) where
  | ok (x : a) (S : Sto)
  | exc (c : Nat) (S : Sto)
  | no

def Res.bind {a b : Type} : Res a → (a → Sto → Res b) → Res b
  | .ok x S, f => f x S
  | .exc c S, _ => .exc c S
  | .no, _ => .no
/-- within a comprehension nothing is raised -/
def Res.calm {a : Type} : Res a → Res a
  | .exc _ _ => .no
  | r => r
def ofO {a : Type} (o : Option a) (S : Sto) : Res a := match o with
  | some x => .ok x S
  | none => .no

/- how deep; a loc is too deep for any comparison -/
mutual
def D.dp : D → Nat
  | .tup xs => D.dps xs + 1
  | .lst xs => D.dps xs + 1
  | .loc _ => 1000
  | .scr _ => 1000
  | _ => 0
def D.dps : List D → Nat
  | [] => 0
  | x :: xs => max x.dp (D.dps xs)
end
/- no loc within -/
mutual
def D.pure : D → Bool
  | .tup xs => D.pures xs
  | .lst xs => D.pures xs
  | .loc _ => false
  | _ => true
def D.pures : List D → Bool
  | [] => true
  | x :: xs => x.pure && D.pures xs
end
/- == -/
mutual
def D.eqv : D → D → Bool
  | .non, .non => true
  | .bl a, .bl b => a == b
  | .bl a, .int i => (if a then 1 else 0) == i
  | .int i, .bl a => i == (if a then 1 else 0)
  | .int i, .int j => i == j
  | .str a, .str b => a == b
  | .tup xs, .tup ys => D.eqvs xs ys
  | .lst xs, .lst ys => D.eqvs xs ys
  | _, _ => false
def D.eqvs : List D → List D → Bool
  | [], [] => true
  | x :: xs, y :: ys => x.eqv y && D.eqvs xs ys
  | _, _ => false
end

inductive Ty where
  | str | tup | int | bool | list
  deriving DecidableEq

def isT : D → Ty → Option Bool
  | .loc _, _ => none
  | .scr _, _ => none
  | .str _, .str => some true
  | .tup _, .tup => some true
  | .int _, .int => some true
  | .bl _, .int => some true
  | .bl _, .bool => some true
  | .lst _, .list => some true
  | _, _ => some false
def isTs (d : D) : List Ty → Option Bool
  | [] => some false
  | t :: ts => match isT d t with
    | some true => some true
    | some false => isTs d ts
    | none => none

inductive Pr where
  | add | sub | mul | fdiv | mod | neg
  | eq | ne | lt | le | gt | ge | isin | notin
  | isc (c : D) | isntc (c : D)
  | not
  | idx | slc (lo hi : Bool) | rev
  | len | all | any | sum | tuple | list | sorted | sset | lset | min2 | max2 | maxl | int
  | isi (ts : List Ty)
  | upper | join | split | count | index
  | get | setd | dnew | dictp | dlit | app | ext | pop | seti | asint
  deriving DecidableEq

inductive SK where
  | seq | rng | enum | zip
  deriving DecidableEq

inductive E where
  | var (i : Nat)
  | con (d : D)
  | tup (es : List E)
  | lst (es : List E)
  | pr (p : Pr) (es : List E)
  | and (a b : E)
  | or (a b : E)
  | ite (c a b : E)
  | chn (o1 o2 : Pr) (a b c : E)
  | call (f : Nat) (es : List E)
  | mth (p : Pr) (o : E) (es : List E)
  | comp (own : List Nat) (tg : List Nat) (un : Bool) (k : SK) (srcs : List E) (ifs : List E) (elt : E)

inductive St where
  | set (i : Nat) (e : E)
  | setM (i : Nat) (e : E)
  | par (tg : List Nat) (es : List E)
  | unp (tg : List Nat) (e : E)
  | ret (e : E)
  | retN
  | expr (e : E)
  | pass
  | ite (c : E) (a b : List St)
  | for (tg : List Nat) (un : Bool) (k : SK) (srcs : List E) (body : List St)
  | while (c : E) (body : List St)
  | raise (c : Nat)
  | tryw (body : List St) (ws : List (List Nat))
  | setI (o k e : E)
  | parL (i j : Nat) (e : E)
  | parLL (i j : Nat)

/-- a list of the store, seen as one -/
def rs (S : Sto) : D → D
  | .loc n => match S[n]? with
    | some (.lst xs) => .lst xs
    | _ => .loc n
  | d => d

def truth (S : Sto) : D → Option Bool
  | .non => some false
  | .bl b => some b
  | .int i => some (i != 0)
  | .str s => some (!s.isEmpty)
  | .tup xs => some (!xs.isEmpty)
  | .lst xs => some (!xs.isEmpty)
  | .loc n => match S[n]? with
    | some (.lst xs) => some (!xs.isEmpty)
    | some (.dct kvs) => some (!kvs.isEmpty)
    | _ => none
  | .scr _ => none

def sIx (n d : Nat) : Option Int → Nat
  | none => d
  | some i => if i < 0 then (i + n).toNat else min i.toNat n
def cut {a : Type} (xs : List a) (lo hi : Option Int) : List a := (xs.drop (sIx xs.length 0 lo)).take (sIx xs.length xs.length hi - sIx xs.length 0 lo)
def ixN (n : Nat) (i : Int) : Option Nat := if 0 ≤ i then (if i < n then some i.toNat else none) else if -(n : Int) ≤ i then some (i + n).toNat else none
def atI {a : Type} (xs : List a) (i : Int) : Option a := (ixN xs.length i).bind fun j => xs[j]?

def boolsD : List D → Option (List Bool)
  | [] => some []
  | .bl b :: r => (boolsD r).map (b :: ·)
  | _ => none
def intsD : List D → Option (List Int)
  | [] => some []
  | .int i :: r => (intsD r).map (i :: ·)
  | _ => none
def strsD : List D → Option (List (List Nat))
  | [] => some []
  | .str s :: r => (strsD r).map (s :: ·)
  | _ => none

def strLt (x y : List Nat) : Bool := decide (x < y)

def insS (x : List Nat) : List (List Nat) → List (List Nat)
  | [] => [x]
  | y :: ys => if strLt y x then y :: insS x ys else x :: y :: ys
/-- rising by code points; equal ones stay beside one another -/
def sortS : List (List Nat) → List (List Nat)
  | [] => []
  | x :: xs => insS x (sortS xs)
def nubS : List (List Nat) → List (List Nat)
  | [] => []
  | x :: xs => x :: (nubS xs).filter (fun y => y != x)

def lookD {k : Type} [DecidableEq k] (x : k) : List (k × D) → Option D
  | [] => none
  | (y, d) :: r => if y = x then some d else lookD x r
def putD {k : Type} [DecidableEq k] (x : k) (d : D) (kvs : List (k × D)) : List (k × D) :=
  if (lookD x kvs).isSome = true then kvs.map (fun kv => if kv.1 = x then (kv.1, d) else kv) else kvs ++ [(x, d)]

def pairsD : List D → Option (List (List Nat × D))
  | [] => some []
  | .tup [.str k, d] :: r => (pairsD r).map ((k, d) :: ·)
  | _ => none
def pairsF : List D → Option (List (List Nat × D))
  | [] => some []
  | .str k :: d :: r => (pairsF r).map ((k, d) :: ·)
  | _ => none
def mergeD (kvs more : List (List Nat × D)) : List (List Nat × D) := more.foldl (fun acc kv => putD kv.1 kv.2 acc) kvs

def joinS (sep : List Nat) : List (List Nat) → List Nat
  | [] => []
  | [x] => x
  | x :: y :: r => x ++ sep ++ joinS sep (y :: r)
def splitS (c : Nat) : List Nat → List Nat → List (List Nat)
  | acc, [] => [acc]
  | acc, x :: r => if x = c then acc :: splitS c [] r else splitS c (acc ++ [x]) r

def upC (c : Nat) : Nat := if 97 ≤ c ∧ c ≤ 122 then c - 32 else c

def gd {a : Type} (c : Prop) [Decidable c] (x : a) (S : Sto) : Res a := if c then .ok x S else .no

def maxL : List Int → Int
  | [] => 0
  | [x] => x
  | x :: y :: r => max x (maxL (y :: r))

/-- one operation, by the values -/
def pr : Pr → List D → Sto → Res D
  | .add, [a, b], S => match rs S a, rs S b with
    | .int i, .int j => .ok (.int (i + j)) S
    | .str x, .str y => gd (x.length + y.length ≤ szL) (.str (x ++ y)) S
    | .tup x, .tup y => gd (x.length + y.length ≤ szL) (.tup (x ++ y)) S
    | .lst x, .lst y => gd (x.length + y.length ≤ szL) (.lst (x ++ y)) S
    | _, _ => .no
  | .sub, [.int i, .int j], S => .ok (.int (i - j)) S
  | .mul, [a, b], S => match rs S a, rs S b with
    | .int i, .int j => gd ((-(2 ^ 64) < i ∧ i < 2 ^ 64) ∨ (-(2 ^ 64) < j ∧ j < 2 ^ 64)) (.int (i * j)) S
    | .str x, .int j => gd (2 ≤ j ∧ j ≤ 1000 ∧ x.length ≤ 1000) (.str (List.replicate j.toNat x).flatten) S
    | .tup x, .int j => gd (2 ≤ j ∧ j ≤ 1000 ∧ x.length ≤ 1000) (.tup (List.replicate j.toNat x).flatten) S
    | .lst x, .int j => gd (0 ≤ j ∧ j ≤ 1000 ∧ x.length ≤ 1000) (.lst (List.replicate j.toNat x).flatten) S
    | _, _ => .no
  | .fdiv, [.int i, .int j], S => gd (0 < j ∧ j < 1073741824) (.int (i / j)) S
  | .mod, [.int i, .int j], S => gd (0 < j) (.int (i % j)) S
  | .neg, [.int i], S => .ok (.int (-i)) S
  | .eq, [a, b], S => gd ((rs S a).dp ≤ dpL ∧ (rs S b).dp ≤ dpL) (.bl ((rs S a).eqv (rs S b))) S
  | .ne, [a, b], S => gd ((rs S a).dp ≤ dpL ∧ (rs S b).dp ≤ dpL) (.bl (!(rs S a).eqv (rs S b))) S
  | .lt, [.int i, .int j], S => .ok (.bl (decide (i < j))) S
  | .lt, [.str x, .str y], S => .ok (.bl (strLt x y)) S
  | .le, [.int i, .int j], S => .ok (.bl (decide (i ≤ j))) S
  | .le, [.str x, .str y], S => .ok (.bl (!strLt y x)) S
  | .gt, [.int i, .int j], S => .ok (.bl (decide (j < i))) S
  | .ge, [.int i, .int j], S => .ok (.bl (decide (j ≤ i))) S
  | .isin, [a, b], S => isIn a (rs S b) S true
  | .notin, [a, b], S => isIn a (rs S b) S false
  | .isc c, [a], S => isC a c S true
  | .isntc c, [a], S => isC a c S false
  | .not, [a], S => ofO ((truth S a).map fun b => .bl (!b)) S
  | .idx, [a, i], S => match rs S a, i with
    | .tup xs, .int i => ofO (atI xs i) S
    | .lst xs, .int i => ofO (atI xs i) S
    | .str x, .int i => ofO ((atI x i).map fun c => .str [c]) S
    | .scr ns, .int i => ofO ((atI ns i).map fun n => .int n) S
    | .loc n, .str k => match S[n]? with
      | some (.dct kvs) => ofO (lookD k kvs) S
      | _ => .no
    | _, _ => .no
  | .slc lo hi, a :: r, S => match lo, hi, r with
    | false, false, [] => cutD (rs S a) none none S
    | true, false, [.int i] => cutD (rs S a) (some i) none S
    | false, true, [.int j] => cutD (rs S a) none (some j) S
    | true, true, [.int i, .int j] => cutD (rs S a) (some i) (some j) S
    | _, _, _ => .no
  | .rev, [a], S => match rs S a with
    | .tup xs => .ok (.tup xs.reverse) S
    | .lst xs => .ok (.lst xs.reverse) S
    | _ => .no
  | .len, [a], S => match rs S a with
    | .tup xs => .ok (.int xs.length) S
    | .lst xs => .ok (.int xs.length) S
    | .str s => .ok (.int s.length) S
    | .scr ns => .ok (.int ns.length) S
    | .loc n => match S[n]? with
      | some (.dct kvs) => .ok (.int kvs.length) S
      | _ => .no
    | _ => .no
  | .all, [a], S => match rs S a with
    | .lst xs => ofO ((boolsD xs).map fun bs => .bl (bs.all id)) S
    | _ => .no
  | .any, [a], S => match rs S a with
    | .lst xs => ofO ((boolsD xs).map fun bs => .bl (bs.any id)) S
    | _ => .no
  | .sum, [a], S => match rs S a with
    | .lst xs => ofO ((intsD xs).map fun ns => .int ns.sum) S
    | _ => .no
  | .tuple, [a], S => match rs S a with
    | .lst xs => .ok (.tup xs) S
    | .tup xs => .ok (.tup xs) S
    | _ => .no
  | .list, [a], S => match rs S a with
    | .lst xs => .ok (.lst xs) S
    | .tup xs => .ok (.lst xs) S
    | _ => .no
  | .upper, [.str s], S => gd (s.all (· < 128) = true ∧ s.length ≤ 5592405) (.str (s.map upC)) S
  | .int, [.bl b], S => .ok (.int (if b then 1 else 0)) S
  | .int, [.int i], S => .ok (.int i) S
  | .min2, [.int i, .int j], S => .ok (.int (if j < i then j else i)) S
  | .max2, [.int i, .int j], S => .ok (.int (if j > i then j else i)) S
  | .maxl, [a], S => match rs S a with
    | .lst xs => match intsD xs with
      | some (n :: ns) => .ok (.int (maxL (n :: ns))) S
      | _ => .no
    | _ => .no
  | .isi ts, [a], S => ofO ((isTs (rs S a) ts).map D.bl) S
  | .app, [.loc n, x], S => match S[n]? with
    | some (.lst xs) => gd (xs.length < szL) .non (S.set n (.lst (xs ++ [x])))
    | _ => .no
  | .ext, [.loc n, y], S => match S[n]?, rs S y with
    | some (.lst xs), .lst ys => gd (xs.length + ys.length ≤ szL) .non (S.set n (.lst (xs ++ ys)))
    | _, _ => .no
  | .asint, [.int i], S => .ok (.int i) S
  | .sorted, [a], S => match rs S a with
    | .lst xs => match strsD xs with
      | some ss => gd (ss.length < 64) (.lst ((sortS ss).map D.str)) S
      | none => .no
    | .loc n => match S[n]? with
      | some (.dct kvs) => gd (kvs.length < 64) (.lst ((sortS (kvs.map (·.1))).map D.str)) S
      | _ => .no
    | _ => .no
  | .dictp, [a], S => match rs S a with
    | .lst xs => match pairsD xs with
      | some kvs => gd (kvs.length ≤ szL) (.loc S.length) (S ++ [.dct (mergeD [] kvs)])
      | none => .no
    | .tup xs => match pairsD xs with
      | some kvs => gd (kvs.length ≤ szL) (.loc S.length) (S ++ [.dct (mergeD [] kvs)])
      | none => .no
    | _ => .no
  | .dlit, ds, S => match pairsF ds with
    | some kvs => gd (kvs.length ≤ 15) (.loc S.length) (S ++ [.dct (mergeD [] kvs)])
    | none => .no
  | .count, [a, x], S => match rs S a with
    | .lst xs => gd (x.dp ≤ dpL ∧ D.dps xs ≤ dpL) (.int (xs.countP fun y => y.eqv x)) S
    | _ => .no
  | .index, [a, x], S => match rs S a with
    | .lst xs => match xs.findIdx? (fun y => y.eqv x) with
      | some j => gd (x.dp ≤ dpL ∧ D.dps xs ≤ dpL) (.int j) S
      | none => .no
    | .tup xs => match xs.findIdx? (fun y => y.eqv x) with
      | some j => gd (x.dp ≤ dpL ∧ D.dps xs ≤ dpL) (.int j) S
      | none => .no
    | _ => .no
  | .join, [.str a, b], S => match rs S b with
    | .lst xs => match strsD xs with
      | some ss => gd ((ss.map List.length).sum + ss.length * a.length ≤ szL) (.str (joinS a ss)) S
      | none => .no
    | .tup xs => match strsD xs with
      | some ss => gd ((ss.map List.length).sum + ss.length * a.length ≤ szL) (.str (joinS a ss)) S
      | none => .no
    | _ => .no
  | .dnew, [], S => .ok (.loc S.length) (S ++ [.dct []])
  | .get, [.loc n, .str k, d], S => match S[n]? with
    | some (.dct kvs) => .ok ((lookD k kvs).getD d) S
    | _ => .no
  | .setd, [.loc n, .str k, d], S => match S[n]? with
    | some (.dct kvs) => if kvs.length < szL then (match lookD k kvs with
      | some e => .ok e S
      | none => .ok d (S.set n (.dct (putD k d kvs)))) else .no
    | _ => .no
  | .seti, [.loc n, .str k, d], S => match S[n]? with
    | some (.dct kvs) => gd (kvs.length < szL) .non (S.set n (.dct (putD k d kvs)))
    | _ => .no
  | _, _, _ => .no
where
  isIn (a b : D) (S : Sto) (pos : Bool) : Res D := match a, b with
    | .str [c], .str s => .ok (.bl (if pos then decide (c ∈ s) else !decide (c ∈ s))) S
    | a, .lst xs => gd (a.dp ≤ dpL ∧ (D.lst xs).dp ≤ dpL) (.bl (if pos then xs.any (fun y => y.eqv a) else !xs.any (fun y => y.eqv a))) S
    | a, .tup xs => gd (a.dp ≤ dpL ∧ (D.tup xs).dp ≤ dpL) (.bl (if pos then xs.any (fun y => y.eqv a) else !xs.any (fun y => y.eqv a))) S
    | .str k, .loc n => match S[n]? with
      | some (.dct kvs) => .ok (.bl (if pos then (lookD k kvs).isSome else !(lookD k kvs).isSome)) S
      | _ => .no
    | _, _ => .no
  isC (a c : D) (S : Sto) (pos : Bool) : Res D := match c with
    | .non => .ok (.bl (if pos then decide (a = .non) else !decide (a = .non))) S
    | .bl b => match a with
      | .bl b' => .ok (.bl (if pos then decide (b' = b) else !decide (b' = b))) S
      | _ => .no
    | _ => .no
  cutD (a : D) (lo hi : Option Int) (S : Sto) : Res D := match a with
    | .tup xs => .ok (.tup (cut xs lo hi)) S
    | .lst xs => .ok (.lst (cut xs lo hi)) S
    | .str x => .ok (.str (cut x lo hi)) S
    | _ => .no

/-- the receiver of a method, ahead of the arguments -/
def okM : Pr → D → Sto → Bool
  | .app, d, S => match rs S d with
    | .lst _ => true
    | _ => false
  | .ext, d, S => match rs S d with
    | .lst _ => true
    | _ => false
  | .count, d, S => match rs S d with
    | .lst _ => true
    | _ => false
  | .index, d, S => match rs S d with
    | .lst _ => true
    | .tup _ => true
    | _ => false
  | .get, .loc n, S => match S[n]? with
    | some (.dct _) => true
    | _ => false
  | .setd, .loc n, S => match S[n]? with
    | some (.dct _) => true
    | _ => false
  | .upper, .str _, _ => true
  | _, _, _ => false

/-- range with a step: how many -/
def rgN (i j c : Int) : Option Nat := if c = -1 then (if -(2 ^ 62) ≤ i ∧ i < 2 ^ 62 ∧ -(2 ^ 62) ≤ j ∧ j < 2 ^ 62 then some (i - j).toNat else none)
  else if c = 3 ∧ 0 ≤ i ∧ i < 2 ^ 30 ∧ 0 ≤ j ∧ j < 2 ^ 30 then some (if i < j then (j - i - 1) / 3 + 1 else 0).toNat else none
/-- what a for walks: its items, and the store's list that must stay -/
def items : SK → List D → Sto → Option (List D × Option Nat)
  | .seq, [.loc n], S => match S[n]? with
    | some (.lst xs) => some (xs, some n)
    | _ => none
  | .seq, [.lst xs], _ => some (xs, none)
  | .seq, [.tup xs], _ => some (xs, none)
  | .seq, [.str s], _ => some (s.map fun c => .str [c], none)
  | .rng, [.int j], _ => if -(2 ^ 62) ≤ j ∧ j < 2 ^ 62 then some ((List.range j.toNat).map fun (i : Nat) => .int i, none) else none
  | .rng, [.int i, .int j], _ => if -(2 ^ 62) ≤ i ∧ i < 2 ^ 62 ∧ -(2 ^ 62) ≤ j ∧ j < 2 ^ 62 then some ((List.range (j - i).toNat).map fun (k : Nat) => .int (i + k), none) else none
  | .rng, [.int i, .int j, .int c], _ => (rgN i j c).map fun n => ((List.range n).map fun (k : Nat) => .int (i + k * c), none)
  | .enum, [.tup xs], _ => some (xs.zipIdx.map fun p => .tup [.int p.2, p.1], none)
  | .enum, [.lst xs], _ => some (xs.zipIdx.map fun p => .tup [.int p.2, p.1], none)
  | .zip, [.tup xs, .tup ys], _ => some ((xs.zip ys).map fun p => .tup [p.1, p.2], none)
  | .zip, [.lst xs, .lst ys], _ => some ((xs.zip ys).map fun p => .tup [p.1, p.2], none)
  | _, _, _ => none
def chk (xs : List D) : Option Nat → Sto → Bool
  | none, _ => true
  | some n, S => decide (S[n]? = some (.lst xs))

def sets : List Nat → List D → Env → Env
  | i :: is, d :: ds, s => sets is ds (s.set i (some d))
  | _, _, s => s
def bindT (tg : List Nat) (un : Bool) (d : D) (s : Env) : Option Env := match un with
  | false => match tg with
    | [i] => some (s.set i (some d))
    | _ => none
  | true => match d with
    | .tup xs => if xs.length = tg.length then some (sets tg xs s) else none
    | _ => none
def wipe (s : Env) : List Nat → Env
  | [] => s
  | v :: vs => (wipe s vs).set v none

inductive Out where
  | nx (s : Env) (S : Sto)
  | rt (d : D) (S : Sto)
  | exc (c : Nat) (s : Env) (S : Sto)
  | no

def getV (s : Env) (i : Nat) (S : Sto) : Res D := match s[i]? with
  | some (some d) => .ok d S
  | _ => .no

/-- a comprehension's loop -/
def compL (b : D → Option Env) (c : Env → Sto → Res Bool) (e : Env → Sto → Res D) (k : Sto → Bool) : List D → Sto → Res (List D)
  | [], S => .ok [] S
  | d :: ds, S => match b d with
    | none => .no
    | some s1 => (c s1 S).calm.bind fun t S1 => match t with
      | true => (e s1 S1).calm.bind fun y S2 => if k S2 = true then (compL b c e k ds S2).bind fun ys S3 => .ok (y :: ys) S3 else .no
      | false => if k S1 = true then compL b c e k ds S1 else .no
/-- a for's loop -/
def forL (b : D → Env → Option Env) (f : Env → Sto → Out) (k : Sto → Bool) : List D → Env → Sto → Out
  | [], s, S => .nx s S
  | d :: ds, s, S => match b d s with
    | none => .no
    | some s1 => match f s1 S with
      | .nx s2 S2 => if k S2 = true then forL b f k ds s2 S2 else .no
      | o => o
def whileL (c : Env → Sto → Res Bool) (f : Env → Sto → Out) : Nat → Env → Sto → Out
  | 0, _, _ => .no
  | n + 1, s, S => match c s S with
    | .ok false S1 => .nx s S1
    | .ok true S1 => match f s S1 with
      | .nx s2 S2 => whileL c f n s2 S2
      | o => o
    | .exc x S1 => .exc x s S1
    | .no => .no
def whileMost : Nat := 4096

def tst (r : Res D) : Res Bool := r.bind fun d S => ofO (truth S d) S

section
variable (G : Nat → List D → Sto → Res D)
mutual
def ev : E → Env → Sto → Res D
  | .var i, s, S => getV s i S
  | .con d, _, S => .ok d S
  | .tup es, s, S => (evs es s S).bind fun ds S => .ok (.tup ds) S
  | .lst es, s, S => (evs es s S).bind fun ds S => .ok (.lst ds) S
  | .pr p es, s, S => (evs es s S).bind fun ds S => pr p ds S
  | .and a b, s, S => (ev a s S).bind fun d S1 => match truth S1 d with
    | some true => ev b s S1
    | some false => .ok d S1
    | none => .no
  | .or a b, s, S => (ev a s S).bind fun d S1 => match truth S1 d with
    | some true => .ok d S1
    | some false => ev b s S1
    | none => .no
  | .ite c a b, s, S => (tst (ev c s S)).bind fun t S1 => match t with
    | true => ev a s S1
    | false => ev b s S1
  | .chn o1 o2 a b c, s, S => (ev a s S).bind fun x S1 => (ev b s S1).bind fun y S2 => (pr o1 [x, y] S2).bind fun t S3 => match t with
    | .bl true => (ev c s S3).bind fun z S4 => pr o2 [y, z] S4
    | .bl false => .ok (.bl false) S3
    | _ => .no
  | .call f es, s, S => (evs es s S).bind fun ds S => G f ds S
  | .mth p o es, s, S => (ev o s S).bind fun d S1 => if okM p d S1 = true then (evs es s S1).bind fun ds S2 => pr p (d :: ds) S2 else .no
  | .comp own tg un k srcs ifs elt, s, S => (evs srcs s S).bind fun ds S1 => match items k ds S1 with
    | none => .no
    | some (xs, l) => if xs.length ≤ szL then (compL (fun d => bindT tg un d (wipe s own)) (fun s S => evT ifs s S) (fun s S => ev elt s S) (chk xs l) xs S1).bind fun ys S2 => .ok (.lst ys) S2 else .no
def evs : List E → Env → Sto → Res (List D)
  | [], _, S => .ok [] S
  | e :: es, s, S => (ev e s S).bind fun d S1 => (evs es s S1).bind fun ds S2 => .ok (d :: ds) S2
/-- the tests of a comprehension: none or one -/
def evT : List E → Env → Sto → Res Bool
  | [], _, S => .ok true S
  | [e], s, S => tst (ev e s S)
  | _, _, _ => .no
end

def outE (s : Env) (r : Res D) (f : D → Sto → Out) : Out := match r with
  | .ok d S => f d S
  | .exc c S => .exc c s S
  | .no => .no
def outB (s : Env) (r : Res Bool) (f : Bool → Sto → Out) : Out := match r with
  | .ok d S => f d S
  | .exc c S => .exc c s S
  | .no => .no
def outL (s : Env) (r : Res (List D)) (f : List D → Sto → Out) : Out := match r with
  | .ok d S => f d S
  | .exc c S => .exc c s S
  | .no => .no

mutual
def ex : St → Env → Sto → Out
  | .set i e, s, S => outE s (ev G e s S) fun d S => .nx (s.set i (some d)) S
  | .setM i e, s, S => outE s (ev G e s S) fun d S => match d with
    | .lst xs => .nx (s.set i (some (.loc S.length))) (S ++ [.lst xs])
    | _ => .no
  | .par tg es, s, S => outL s (evs G es s S) fun ds S => if ds.length = tg.length then .nx (sets tg ds s) S else .no
  | .unp tg e, s, S => outE s (ev G e s S) fun d S => match bindT tg true d s with
    | some s1 => .nx s1 S
    | none => .no
  | .ret e, s, S => outE s (ev G e s S) fun d S => .rt d S
  | .retN, _, S => .rt .non S
  | .expr e, s, S => outE s (ev G e s S) fun _ S => .nx s S
  | .pass, s, S => .nx s S
  | .ite c a b, s, S => outB s (tst (ev G c s S)) fun t S => match t with
    | true => exs a s S
    | false => exs b s S
  | .for tg un k srcs body, s, S => outL s (evs G srcs s S) fun ds S1 => match items k ds S1 with
    | none => .no
    | some (xs, l) => forL (fun d s => bindT tg un d s) (fun s S => exs body s S) (chk xs l) xs s S1
  | .while c body, s, S => whileL (fun s S => tst (ev G c s S)) (fun s S => exs body s S) whileMost s S
  | .raise c, s, S => .exc c s S
  | .tryw b ws, s, S => match exs b s S with
    | .exc c s1 S1 => (match ws[c]? with
      | some t => .rt (.str t) S1
      | none => .no)
    | o => o
  | .setI o k e, s, S => outE s (ev G e s S) fun d S1 => outE s (ev G o s S1) fun x S2 => outE s (ev G k s S2) fun y S3 => outE s (pr .seti [x, y, d] S3) fun _ S4 => .nx s S4
  | .parL i j e, s, S => outE s (ev G e s (S ++ [.lst []])) fun d S1 => .nx ((s.set i (some (.loc S.length))).set j (some d)) S1
  | .parLL i j, s, S => .nx ((s.set i (some (.loc S.length))).set j (some (.loc (S.length + 1)))) (S ++ [.lst [], .lst []])
def exs : List St → Env → Sto → Out
  | [], s, S => .nx s S
  | t :: ts, s, S => match ex t s S with
    | .nx s1 S1 => exs ts s1 S1
    | o => o
end
end

structure Fn where
  np : Nat
  ns : Nat
  body : List St

def start (n : Nat) (ds : List D) : Env := ds.map some ++ List.replicate (n - ds.length) none

def vals {k : Type} (kvs : List (k × D)) : List D := kvs.map (·.2)
def MO.pure : MO → Bool
  | .lst xs => D.pures xs
  | .dct kvs => D.pures (vals kvs)
  | .dtt kvs => D.pures (vals kvs)
def keepS (S S' : Sto) : Bool := decide (S'.take S.length = S) || (S'.take S.length).all MO.pure
/-- a def ends: its own objects are left behind; a list that it hands back is a plain one from there on, a dict goes over to the caller -/
def retD (S : Sto) (d : D) (S' : Sto) : Res D :=
  if S'.length = S.length then .ok d S'
  else if keepS S S' = true then (match d with
    | .loc l => if l < S.length then .ok (.loc l) (S'.take S.length) else match S'[l]? with
      | some (.lst xs) => if D.pures xs = true then .ok (.lst xs) (S'.take S.length) else .no
      | some (.dct kvs) => if D.pures (vals kvs) = true then .ok (.loc S.length) (S'.take S.length ++ [.dct kvs]) else .no
      | some (.dtt kvs) => if D.pures (vals kvs) = true then .ok (.loc S.length) (S'.take S.length ++ [.dtt kvs]) else .no
      | none => .no
    | d => if d.pure = true then .ok d (S'.take S.length) else .no)
  else .no
def fin (S : Sto) : Out → Res D
  | .nx _ S' => retD S .non S'
  | .rt d S' => retD S d S'
  | .exc c _ S' => if S'.length = S.length then .exc c S' else if keepS S S' = true then .exc c (S'.take S.length) else .no
  | .no => .no

def run (P : Nat → Option Fn) : Nat → Nat → List D → Sto → Res D
  | 0, _, _, _ => .no
  | n + 1, f, ds, S => match P f with
    | none => .no
    | some F => if ds.length = F.np then fin S (exs (run P n) F.body (start F.ns ds) S) else .no

end Eng

/-! Eng2 -/
set_option Elab.async false
set_option linter.all false
set_option maxRecDepth 100000
set_option maxHeartbeats 4000000
/-! The evaluator's data over the layer's heap. -/
namespace Eng
open PySem PySem.Spec PyProof.Rows L2

theorem szL_eq : szL = sizeLine := by rw [sizeLine_eq]; rfl

/-- the heap as the layer sees it; lists that stay as they are; where the store's objects stand -/
structure Wd where
  H : Hp
  F : Addr → Prop
  r : List Addr

def LsA (w : Wd) (a : Addr) (vs : List V) : Prop := w.F a ∧ w.H a = some (.lst vs)
/-- the script: a list that nobody writes -/
def ScA (K : PySem.W.Frag) (w : Wd) (a : Addr) (vs : List V) : Prop :=
  (∃ o, w.H a = some (.frz o (.lst vs))) ∨
    ∃ (o : Obj) (its : Array Value) (n : Nat), K.lookup a = some o ∧ o.cls = .type "list" ∧ o.dict = none ∧ o.data = .seq its n ∧ its.size ≤ sizeLine ∧ Vals vs its.toList

/-- a tuple, the very object known: it has no dict of its own -/
def TpA (w : Wd) (a : Addr) (vs : List V) : Prop := ∃ o : Obj, w.H a = some (.frz o (.tup vs)) ∧ o.dict = none

def sv (s : List Nat) : Str := ⟨s.toArray⟩
def okS (s : List Nat) : Prop := s.length ≤ szL ∧ s.all (· < 1114112) = true

mutual
def RD (K : PySem.W.Frag) (w : Wd) : D → V → Prop
  | .non, v => v = .non
  | .bl b, v => v = .bl b
  | .int i, v => v = .int i
  | .str s, v => v = .str (sv s) ∧ okS s
  | .tup xs, v => ∃ a vs, v = .ref a ∧ TpA w a vs ∧ xs.length ≤ szL ∧ RDs K w xs vs
  | .lst xs, v => ∃ a vs, v = .ref a ∧ LsA w a vs ∧ xs.length ≤ szL ∧ RDs K w xs vs
  | .loc n, v => ∃ a, v = .ref a ∧ w.r[n]? = some a
  | .scr ns, v => ∃ a, v = .ref a ∧ ScA K w a (ns.map V.int)
def RDs (K : PySem.W.Frag) (w : Wd) : List D → List V → Prop
  | [], vs => vs = []
  | x :: xs, vs => ∃ v r, vs = v :: r ∧ RD K w x v ∧ RDs K w xs r
end

/-- what is known goes on -/
structure Wk (w w' : Wd) : Prop where
  tup : ∀ b xs, w.H b = some (.tup xs) → w'.H b = some (.tup xs)
  frz : ∀ b o u, w.H b = some (.frz o u) → w'.H b = some (.frz o u)
  lst : ∀ b xs, w.F b → w.H b = some (.lst xs) → w'.H b = some (.lst xs)
  phi : ∀ b, w.F b → w'.F b
  rho : ∃ more, w'.r = w.r ++ more
/-- .. and nothing else is touched -/
structure Ext (w w' : Wd) : Prop extends Wk w w' where
  frm : ∀ b, ¬ w.F b → b ∉ w.r → w.H b ≠ none → w'.H b = w.H b ∧ ¬ w'.F b ∧ b ∉ w'.r

theorem Wk.refl (w : Wd) : Wk w w := ⟨fun _ _ h => h, fun _ _ _ h => h, fun _ _ _ h => h, fun _ h => h, ⟨[], by simp⟩⟩
theorem Ext.refl (w : Wd) : Ext w w := ⟨Wk.refl w, fun b h1 h2 h3 => ⟨rfl, h1, h2⟩⟩
theorem Wk.trans {a b c : Wd} (x : Wk a b) (y : Wk b c) : Wk a c := by
  refine ⟨fun b xs h => y.tup _ _ (x.tup _ _ h), fun b o u h => y.frz _ _ _ (x.frz _ _ _ h), fun b xs f h => y.lst _ _ (x.phi _ f) (x.lst _ _ f h), fun b f => y.phi _ (x.phi _ f), ?_⟩
  obtain ⟨m, e⟩ := x.rho
  obtain ⟨m', e'⟩ := y.rho
  exact ⟨m ++ m', by rw [e', e, List.append_assoc]⟩
theorem Ext.trans {a b c : Wd} (x : Ext a b) (y : Ext b c) : Ext a c := by
  refine ⟨x.toWk.trans y.toWk, fun b h1 h2 h3 => ?_⟩
  obtain ⟨e1, e2, e3⟩ := x.frm b h1 h2 h3
  obtain ⟨f1, f2, f3⟩ := y.frm b e2 e3 (by rw [e1]; exact h3)
  exact ⟨f1.trans e1, f2, f3⟩

theorem TpA.wk {w w' : Wd} {a : Addr} {vs : List V} (h : TpA w a vs) (x : Wk w w') : TpA w' a vs := let ⟨o, h1, h2⟩ := h; ⟨o, x.frz _ _ _ h1, h2⟩
theorem TpA.ext {w w' : Wd} {a : Addr} {vs : List V} (h : TpA w a vs) (x : Ext w w') : TpA w' a vs := h.wk x.toWk
theorem TpA.sq {K : PySem.W.Frag} {w : Wd} {a : Addr} {vs : List V} (h : TpA w a vs) : SqT K w.H a vs := let ⟨o, h1, _⟩ := h; .inl (.inr ⟨o, h1⟩)
theorem LsA.wk {w w' : Wd} {a : Addr} {vs : List V} (h : LsA w a vs) (x : Wk w w') : LsA w' a vs := ⟨x.phi _ h.1, x.lst _ _ h.1 h.2⟩
theorem LsA.ext {w w' : Wd} {a : Addr} {vs : List V} (h : LsA w a vs) (x : Ext w w') : LsA w' a vs := h.wk x.toWk
theorem ScA.wk {K : PySem.W.Frag} {w w' : Wd} {a : Addr} {vs : List V} (h : ScA K w a vs) (x : Wk w w') : ScA K w' a vs := by
  rcases h with ⟨o, h⟩ | h
  · exact .inl ⟨o, x.frz _ _ _ h⟩
  · exact .inr h
theorem ScA.sq {K : PySem.W.Frag} {w : Wd} {a : Addr} {vs : List V} (h : ScA K w a vs) : SqL K w.H a vs := by
  rcases h with ⟨o, h⟩ | h
  · exact .inl (.inr ⟨o, h⟩)
  · exact .inr h
theorem rho_wk {w w' : Wd} (x : Wk w w') {n : Nat} {a : Addr} (h : w.r[n]? = some a) : w'.r[n]? = some a := by
  obtain ⟨m, e⟩ := x.rho
  rw [e, List.getElem?_append_left (List.getElem?_eq_some_iff.mp h).1]
  exact h
theorem rho_get {w w' : Wd} (x : Ext w w') {n : Nat} {a : Addr} (h : w.r[n]? = some a) : w'.r[n]? = some a := rho_wk x.toWk h

mutual
theorem RD.wk {K : PySem.W.Frag} {w w' : Wd} (x : Wk w w') : ∀ (d : D) (v : V), RD K w d v → RD K w' d v
  | .non, _, h => by simpa only [RD] using h
  | .bl _, _, h => by simpa only [RD] using h
  | .int _, _, h => by simpa only [RD] using h
  | .str _, _, h => by simpa only [RD] using h
  | .tup xs, v, h => by
    simp only [RD] at h ⊢
    obtain ⟨a, vs, e, h1, h2, h3⟩ := h
    exact ⟨a, vs, e, h1.wk x, h2, RDs.wk x xs vs h3⟩
  | .lst xs, v, h => by
    simp only [RD] at h ⊢
    obtain ⟨a, vs, e, h1, h2, h3⟩ := h
    exact ⟨a, vs, e, h1.wk x, h2, RDs.wk x xs vs h3⟩
  | .loc n, v, h => by
    simp only [RD] at h ⊢
    obtain ⟨a, e, h1⟩ := h
    exact ⟨a, e, rho_wk x h1⟩
  | .scr ns, v, h => by
    simp only [RD] at h ⊢
    obtain ⟨a, e, h1⟩ := h
    exact ⟨a, e, h1.wk x⟩
theorem RDs.wk {K : PySem.W.Frag} {w w' : Wd} (x : Wk w w') : ∀ (ds : List D) (vs : List V), RDs K w ds vs → RDs K w' ds vs
  | [], _, h => by simpa only [RDs] using h
  | d :: ds, vs, h => by
    simp only [RDs] at h ⊢
    obtain ⟨v, r, e, h1, h2⟩ := h
    exact ⟨v, r, e, RD.wk x d v h1, RDs.wk x ds r h2⟩
end
theorem RD.ext {K : PySem.W.Frag} {w w' : Wd} (x : Ext w w') (d : D) (v : V) (h : RD K w d v) : RD K w' d v := RD.wk x.toWk d v h
theorem RDs.ext {K : PySem.W.Frag} {w w' : Wd} (x : Ext w w') (d : List D) (v : List V) (h : RDs K w d v) : RDs K w' d v := RDs.wk x.toWk d v h

section
variable {K : PySem.W.Frag} {w : Wd}
theorem RDs.nil : RDs K w [] [] := by simp only [RDs]
theorem RDs.cons {d : D} {ds : List D} {v : V} {vs : List V} (h : RD K w d v) (hs : RDs K w ds vs) : RDs K w (d :: ds) (v :: vs) := by
  simp only [RDs]; exact ⟨v, vs, rfl, h, hs⟩
theorem RDs.nil_inv {vs : List V} (h : RDs K w [] vs) : vs = [] := by simpa only [RDs] using h
theorem RDs.cons_inv {d : D} {ds : List D} {vs : List V} (h : RDs K w (d :: ds) vs) : ∃ v r, vs = v :: r ∧ RD K w d v ∧ RDs K w ds r := by simpa only [RDs] using h
theorem RDs.length : ∀ {ds : List D} {vs : List V}, RDs K w ds vs → vs.length = ds.length
  | [], vs, h => by rw [h.nil_inv] <;> rfl
  | d :: ds, vs, h => by
    obtain ⟨v, r, rfl, _, h2⟩ := h.cons_inv
    simp [RDs.length h2]
theorem RDs.append : ∀ {ds es : List D} {vs us : List V}, RDs K w ds vs → RDs K w es us → RDs K w (ds ++ es) (vs ++ us)
  | [], es, vs, us, h, h' => by rw [h.nil_inv]; simpa using h'
  | d :: ds, es, vs, us, h, h' => by
    obtain ⟨v, r, rfl, h1, h2⟩ := h.cons_inv
    exact RDs.cons h1 (RDs.append h2 h')
theorem RDs.get : ∀ {ds : List D} {vs : List V} {i : Nat} {d : D}, RDs K w ds vs → ds[i]? = some d → ∃ v, vs[i]? = some v ∧ RD K w d v
  | [], vs, i, d, h, e => by simp at e
  | x :: ds, vs, 0, d, h, e => by
    obtain ⟨v, r, rfl, h1, h2⟩ := h.cons_inv
    simp at e; subst e; exact ⟨v, rfl, h1⟩
  | x :: ds, vs, i + 1, d, h, e => by
    obtain ⟨v, r, rfl, h1, h2⟩ := h.cons_inv
    obtain ⟨u, e1, e2⟩ := RDs.get (i := i) h2 (by simpa using e)
    exact ⟨u, by simpa using e1, e2⟩
theorem RDs.getV : ∀ {ds : List D} {vs : List V} {i : Nat} {v : V}, RDs K w ds vs → vs[i]? = some v → ∃ d, ds[i]? = some d ∧ RD K w d v
  | [], vs, i, v, h, e => by rw [h.nil_inv] at e; simp at e
  | x :: ds, vs, 0, v, h, e => by
    obtain ⟨v, r, rfl, h1, h2⟩ := h.cons_inv
    simp at e; subst e; exact ⟨x, rfl, h1⟩
  | x :: ds, vs, i + 1, v, h, e => by
    obtain ⟨v, r, rfl, h1, h2⟩ := h.cons_inv
    obtain ⟨u, e1, e2⟩ := RDs.getV (i := i) h2 (by simpa using e)
    exact ⟨u, by simpa using e1, e2⟩
theorem RDs.take : ∀ {ds : List D} {vs : List V} (n : Nat), RDs K w ds vs → RDs K w (ds.take n) (vs.take n)
  | _, _, 0, _ => by simpa using RDs.nil
  | [], vs, n + 1, h => by rw [h.nil_inv]; simpa using RDs.nil
  | x :: ds, vs, n + 1, h => by
    obtain ⟨v, r, rfl, h1, h2⟩ := h.cons_inv
    simpa using RDs.cons h1 (RDs.take n h2)
theorem RDs.drop : ∀ {ds : List D} {vs : List V} (n : Nat), RDs K w ds vs → RDs K w (ds.drop n) (vs.drop n)
  | _, _, 0, h => by simpa using h
  | [], vs, n + 1, h => by rw [h.nil_inv]; simpa using RDs.nil
  | x :: ds, vs, n + 1, h => by
    obtain ⟨v, r, rfl, h1, h2⟩ := h.cons_inv
    simpa using RDs.drop n h2
theorem RDs.reverse : ∀ {ds : List D} {vs : List V}, RDs K w ds vs → RDs K w ds.reverse vs.reverse
  | [], vs, h => by rw [h.nil_inv]; simpa using RDs.nil
  | x :: ds, vs, h => by
    obtain ⟨v, r, rfl, h1, h2⟩ := h.cons_inv
    simpa using RDs.append (RDs.reverse h2) (RDs.cons h1 RDs.nil)
theorem RDs.rep {ds : List D} {vs : List V} (h : RDs K w ds vs) : ∀ k : Nat, RDs K w (List.replicate k ds).flatten (List.replicate k vs).flatten
  | 0 => by simpa using RDs.nil
  | k + 1 => by simpa [List.replicate_succ] using RDs.append h (RDs.rep h k)
end

/-- a changeable object as the heap has it -/
def KVs (K : PySem.W.Frag) (w : Wd) : List (List Nat × D) → List (Key × V) → Prop
  | [], ks => ks = []
  | (s, d) :: r, ks => ∃ v r', ks = (Sum.inr (sv s), v) :: r' ∧ (okS s ∧ RD K w d v) ∧ KVs K w r r'
def KTs (K : PySem.W.Frag) (w : Wd) : List (List (List Nat) × D) → List (List Key × V) → Prop
  | [], ks => ks = []
  | (s, d) :: r, ks => ∃ v r', ks = (s.map (fun x => Sum.inr (sv x)), v) :: r' ∧ RD K w d v ∧ KTs K w r r'
def MOk (K : PySem.W.Frag) (w : Wd) (a : Addr) : MO → Prop
  | .lst xs => ∃ vs, w.H a = some (.lst vs) ∧ xs.length ≤ szL ∧ RDs K w xs vs
  | .dct kvs => ∃ ks, w.H a = some (.dK ks) ∧ kvs.length ≤ szL ∧ KVs K w kvs ks
  | .dtt kvs => ∃ ks, w.H a = some (.dT ks) ∧ kvs.length ≤ szL ∧ KTs K w kvs ks
structure RS (K : PySem.W.Frag) (w : Wd) (S : Sto) : Prop where
  len : w.r.length = S.length
  nd : w.r.Nodup
  apart : ∀ a ∈ w.r, ¬ w.F a
  live : ∀ a, w.F a → w.H a ≠ none
  obj : ∀ (n : Nat) (a : Addr) (o : MO), w.r[n]? = some a → S[n]? = some o → MOk K w a o

/-- the slots -/
structure StR (K : PySem.W.Frag) (w : Wd) (σ : L2.St) (s : Env) : Prop where
  len : σ.length = s.length
  at_ : ∀ (i : Nat) (d : D), s[i]? = some (some d) → ∃ v, σ[i]? = some (some v) ∧ RD K w d v
theorem StR.ext {K : PySem.W.Frag} {w w' : Wd} {σ : L2.St} {s : Env} (h : StR K w σ s) (x : Ext w w') : StR K w' σ s :=
  ⟨h.len, fun i d e => let ⟨v, e1, e2⟩ := h.at_ i d e; ⟨v, e1, RD.ext x d v e2⟩⟩

theorem RS.mem {K : PySem.W.Frag} {w : Wd} {S : Sto} (h : RS K w S) {a : Addr} (ha : a ∈ w.r) : w.H a ≠ none := by
  obtain ⟨n, hn, e⟩ := List.mem_iff_getElem.mp ha
  have hs : n < S.length := by rw [← h.len]; exact hn
  have q := h.obj n a S[n] (by rw [List.getElem?_eq_getElem hn, e]) (List.getElem?_eq_getElem hs)
  cases ho : S[n] with
  | lst xs => rw [ho] at q; obtain ⟨vs, e, _⟩ := q; rw [e]; simp
  | dct xs => rw [ho] at q; obtain ⟨vs, e, _⟩ := q; rw [e]; simp
  | dtt xs => rw [ho] at q; obtain ⟨vs, e, _⟩ := q; rw [e]; simp
theorem RS.notIn {K : PySem.W.Frag} {w : Wd} {S : Sto} (h : RS K w S) {p : Addr} (hp : w.H p = none) : p ∉ w.r := fun hm => h.mem hm hp
theorem RS.notF {K : PySem.W.Frag} {w : Wd} {S : Sto} (h : RS K w S) {p : Addr} (hp : w.H p = none) : ¬ w.F p := fun hf => h.live p hf hp
theorem RS.loc {K : PySem.W.Frag} {w : Wd} {S : Sto} (h : RS K w S) {n : Nat} {a : Addr} (e : w.r[n]? = some a) : ∃ o, S[n]? = some o ∧ MOk K w a o := by
  have hn := (List.getElem?_eq_some_iff.mp e).1
  have hs : n < S.length := by rw [← h.len]; exact hn
  exact ⟨S[n], List.getElem?_eq_getElem hs, h.obj n a _ e (List.getElem?_eq_getElem hs)⟩

/-- a new thing at p -/
def Wd.new (w : Wd) (p : Addr) (o : HO) : Wd := ⟨upd w.H p o, w.F, w.r⟩
/-- .. that stays as it is -/
def Wd.newF (w : Wd) (p : Addr) (o : HO) : Wd := ⟨upd w.H p o, fun b => w.F b ∨ b = p, w.r⟩
/-- .. of the store -/
def Wd.newM (w : Wd) (p : Addr) (o : HO) : Wd := ⟨upd w.H p o, w.F, w.r ++ [p]⟩
/-- a thing of the store changes -/
def Wd.put (w : Wd) (p : Addr) (o : HO) : Wd := ⟨upd w.H p o, w.F, w.r⟩

section
variable {K : PySem.W.Frag} {w : Wd} {S : Sto} {p : Addr} {o : HO}
theorem Ext.new (hp : w.H p = none) : Ext w (w.new p o) :=
  ⟨⟨fun b xs h => by show upd w.H p o b = _; rw [upd_ne (ne_of_none h hp)]; exact h, fun b o' u h => by show upd w.H p o b = _; rw [upd_ne (ne_of_none h hp)]; exact h,
    fun b xs _ h => by show upd w.H p o b = _; rw [upd_ne (ne_of_none h hp)]; exact h, fun b h => h, ⟨[], by simp [Wd.new]⟩⟩, fun b h1 h2 h3 => ⟨upd_ne (fun z => h3 (z ▸ hp)), h1, h2⟩⟩
theorem Ext.newF (hp : w.H p = none) : Ext w (w.newF p o) :=
  ⟨⟨fun b xs h => by show upd w.H p o b = _; rw [upd_ne (ne_of_none h hp)]; exact h, fun b o' u h => by show upd w.H p o b = _; rw [upd_ne (ne_of_none h hp)]; exact h,
    fun b xs _ h => by show upd w.H p o b = _; rw [upd_ne (ne_of_none h hp)]; exact h, fun b h => .inl h, ⟨[], by simp [Wd.newF]⟩⟩, fun b h1 h2 h3 => ⟨upd_ne (fun z => h3 (z ▸ hp)), fun f => f.elim h1 (fun z => h3 (z ▸ hp)), h2⟩⟩
theorem Ext.newM (hp : w.H p = none) : Ext w (w.newM p o) :=
  ⟨⟨fun b xs h => by show upd w.H p o b = _; rw [upd_ne (ne_of_none h hp)]; exact h, fun b o' u h => by show upd w.H p o b = _; rw [upd_ne (ne_of_none h hp)]; exact h,
    fun b xs _ h => by show upd w.H p o b = _; rw [upd_ne (ne_of_none h hp)]; exact h, fun b h => h, ⟨[p], rfl⟩⟩, fun b h1 h2 h3 => ⟨upd_ne (fun z => h3 (z ▸ hp)), h1, fun m => by
      have m : b ∈ w.r ++ [p] := m
      rcases List.mem_append.mp m with m | m
      · exact h2 m
      · simp at m; subst m; exact h3 hp⟩⟩
theorem KVs.wk {w' : Wd} (x : Wk w w') : ∀ (kvs : List (List Nat × D)) (ks : List (Key × V)), KVs K w kvs ks → KVs K w' kvs ks
  | [], _, h => h
  | (s, d) :: r, ks, h => by
    obtain ⟨v, r', e, h1, h2⟩ := h
    exact ⟨v, r', e, ⟨h1.1, RD.wk x d v h1.2⟩, KVs.wk x r r' h2⟩
theorem KTs.wk {w' : Wd} (x : Wk w w') : ∀ (kvs : List (List (List Nat) × D)) (ks : List (List Key × V)), KTs K w kvs ks → KTs K w' kvs ks
  | [], _, h => h
  | (s, d) :: r, ks, h => by
    obtain ⟨v, r', e, h1, h2⟩ := h
    exact ⟨v, r', e, RD.wk x d v h1, KTs.wk x r r' h2⟩
theorem KVs.ext {w' : Wd} (x : Ext w w') (kvs : List (List Nat × D)) (ks : List (Key × V)) (h : KVs K w kvs ks) : KVs K w' kvs ks := KVs.wk x.toWk kvs ks h
theorem KTs.ext {w' : Wd} (x : Ext w w') (kvs : List (List (List Nat) × D)) (ks : List (List Key × V)) (h : KTs K w kvs ks) : KTs K w' kvs ks := KTs.wk x.toWk kvs ks h
theorem MOk.wk {w' : Wd} {a : Addr} {m : MO} (h : MOk K w a m) (x : Wk w w') (e : w'.H a = w.H a) : MOk K w' a m := by
  cases m with
  | lst xs => obtain ⟨vs, h1, h2, h3⟩ := h; exact ⟨vs, by rw [e]; exact h1, h2, RDs.wk x xs vs h3⟩
  | dct xs => obtain ⟨vs, h1, h2, h3⟩ := h; exact ⟨vs, by rw [e]; exact h1, h2, KVs.wk x xs vs h3⟩
  | dtt xs => obtain ⟨vs, h1, h2, h3⟩ := h; exact ⟨vs, by rw [e]; exact h1, h2, KTs.wk x xs vs h3⟩
theorem MOk.ext {w' : Wd} {a : Addr} {m : MO} (h : MOk K w a m) (x : Ext w w') (e : w'.H a = w.H a) : MOk K w' a m := h.wk x.toWk e
/-- an object that nobody knows is another one -/
theorem Wk.side (hF : ¬ w.F p) {xs : List V} (hp : w.H p = some (.lst xs)) : Wk w (w.put p o) := by
  refine ⟨fun b xs q => ?_, fun b ob u q => ?_, fun b xs f q => ?_, fun b f => f, ⟨[], by simp [Wd.put]⟩⟩
  · show upd w.H p o b = _
    have hb : b ≠ p := fun z => by rw [z, hp] at q; cases q
    rw [upd_ne hb]; exact q
  · show upd w.H p o b = _
    have hb : b ≠ p := fun z => by rw [z, hp] at q; cases q
    rw [upd_ne hb]; exact q
  · show upd w.H p o b = _
    have hb : b ≠ p := fun z => hF (z ▸ f)
    rw [upd_ne hb]; exact q
theorem RS.side (h : RS K w S) (hF : ¬ w.F p) (hr : p ∉ w.r) {xs : List V} (hp : w.H p = some (.lst xs)) : RS K (w.put p o) S :=
  ⟨h.len, h.nd, h.apart, fun a f => by
    show upd w.H p o a ≠ none
    unfold upd; split
    · simp
    · exact h.live a f, fun n a m e1 e2 => (h.obj n a m e1 e2).wk (Wk.side hF hp) (upd_ne fun z => hr (z ▸ List.mem_of_getElem? e1))⟩
theorem RS.upd_at (h : RS K w S) {n : Nat} {a : Addr} (e : w.r[n]? = some a) (hp : w.H p = none) : upd w.H p o a = w.H a :=
  upd_ne fun z => h.notIn hp (z ▸ List.mem_of_getElem? e)
theorem RS.new (h : RS K w S) (hp : w.H p = none) : RS K (w.new p o) S :=
  ⟨h.len, h.nd, h.apart, fun a f => by
    show upd w.H p o a ≠ none
    unfold upd; split
    · simp
    · exact h.live a f, fun n a m e1 e2 => (h.obj n a m e1 e2).ext (Ext.new hp) (h.upd_at e1 hp)⟩
theorem RS.newF (h : RS K w S) (hp : w.H p = none) : RS K (w.newF p o) S :=
  ⟨h.len, h.nd, fun a ha f => by
    rcases f with f | f
    · exact h.apart a ha f
    · exact h.notIn hp (f ▸ ha), fun a f => by
    show upd w.H p o a ≠ none
    unfold upd; split
    · simp
    · rename_i hne
      rcases f with f | f
      · exact h.live a f
      · exact absurd f hne, fun n a m e1 e2 => (h.obj n a m e1 e2).ext (Ext.newF hp) (h.upd_at e1 hp)⟩
theorem RS.newM (h : RS K w S) (hp : w.H p = none) {m : MO} (hm : MOk K (w.newM p o) p m) : RS K (w.newM p o) (S ++ [m]) := by
  refine ⟨by simp [Wd.newM, h.len], ?_, fun a ha f => ?_, fun a f => ?_, fun n a m' e1 e2 => ?_⟩
  · show (w.r ++ [p]).Nodup
    rw [List.nodup_append]
    exact ⟨h.nd, by simp, fun a ha b hb e => by simp at hb; subst hb; subst e; exact h.notIn hp ha⟩
  · have ha : a ∈ w.r ++ [p] := ha
    rcases List.mem_append.mp ha with ha | ha
    · exact h.apart a ha f
    · simp at ha; subst ha; exact h.notF hp f
  · show upd w.H p o a ≠ none
    unfold upd; split
    · simp
    · exact h.live a f
  · have e1 : (w.r ++ [p])[n]? = some a := e1
    by_cases hn : n < w.r.length
    · rw [List.getElem?_append_left hn] at e1
      rw [List.getElem?_append_left (by rw [← h.len]; exact hn)] at e2
      exact (h.obj n a m' e1 e2).ext (Ext.newM hp) (h.upd_at e1 hp)
    · rw [List.getElem?_append_right (by omega)] at e1
      rw [List.getElem?_append_right (by rw [← h.len]; omega)] at e2
      rw [h.len] at e1
      cases q : n - S.length with
      | zero =>
        rw [q] at e1 e2; simp at e1 e2; subst e1; subst e2; exact hm
      | succ j => rw [q] at e1; simp at e1
/-- the store's object at n is another one -/
theorem Ext.put (h : RS K w S) {n : Nat} (e : w.r[n]? = some p) : Ext w (w.put p o) := by
  obtain ⟨m, hs, hm⟩ := h.loc e
  have nt : ∀ xs, w.H p ≠ some (.tup xs) := fun xs z => by cases m <;> (obtain ⟨_, q, _⟩ := hm; rw [q] at z; cases z)
  have nf : ∀ ob u, w.H p ≠ some (.frz ob u) := fun ob u z => by cases m <;> (obtain ⟨_, q, _⟩ := hm; rw [q] at z; cases z)
  refine ⟨⟨fun b xs q => ?_, fun b ob u q => ?_, fun b xs f q => ?_, fun b f => f, ⟨[], by simp [Wd.put]⟩⟩, fun b h1 h2 h3 => ⟨upd_ne (fun z => h2 (z ▸ List.mem_of_getElem? e)), h1, h2⟩⟩
  · show upd w.H p o b = _
    have hb : b ≠ p := fun z => nt xs (by rw [← z]; exact q)
    rw [upd_ne hb]; exact q
  · show upd w.H p o b = _
    have hb : b ≠ p := fun z => nf ob u (by rw [← z]; exact q)
    rw [upd_ne hb]; exact q
  · show upd w.H p o b = _
    have hb : b ≠ p := fun z => h.apart p (List.mem_of_getElem? e) (by rw [← z]; exact f)
    rw [upd_ne hb]; exact q
theorem RS.put (h : RS K w S) {n : Nat} (e : w.r[n]? = some p) {m : MO} (hm : MOk K (w.put p o) p m) : RS K (w.put p o) (S.set n m) := by
  refine ⟨by simp [Wd.put, h.len], h.nd, h.apart, fun a f => ?_, fun j a m' e1 e2 => ?_⟩
  · show upd w.H p o a ≠ none
    unfold upd; split
    · simp
    · exact h.live a f
  · have e1 : w.r[j]? = some a := e1
    by_cases hj : j = n
    · subst hj
      rw [e] at e1; cases e1
      have hl : j < S.length := by rw [← h.len]; exact (List.getElem?_eq_some_iff.mp e).1
      rw [List.getElem?_set_self hl] at e2; cases e2
      exact hm
    · rw [List.getElem?_set_ne (Ne.symm hj)] at e2
      refine (h.obj j a m' e1 e2).ext (Ext.put h e) (upd_ne fun z => hj ?_)
      subst z
      obtain ⟨h1, q1⟩ := List.getElem?_eq_some_iff.mp e
      obtain ⟨h2, q2⟩ := List.getElem?_eq_some_iff.mp e1
      exact ((List.getElem_inj h.nd).mp (q2.trans q1.symm))
end

/-- seen as a list, a tuple, .. (a list of the store as well) -/
def RV (K : PySem.W.Frag) (w : Wd) : D → V → Prop
  | .lst xs, v => ∃ a vs, v = .ref a ∧ w.H a = some (.lst vs) ∧ xs.length ≤ szL ∧ RDs K w xs vs
  | d, v => RD K w d v
theorem RD.rv {K : PySem.W.Frag} {w : Wd} {d : D} {v : V} (h : RD K w d v) : RV K w d v := by
  cases d with
  | lst xs =>
    simp only [RD] at h
    obtain ⟨a, vs, e, h1, h2, h3⟩ := h
    exact ⟨a, vs, e, h1.2, h2, h3⟩
  | _ => exact h
theorem RV.of {K : PySem.W.Frag} {w : Wd} {S : Sto} {d : D} {v : V} (hs : RS K w S) (h : RD K w d v) : RV K w (rs S d) v := by
  cases d with
  | loc n =>
    simp only [RD] at h
    obtain ⟨a, rfl, e⟩ := h
    obtain ⟨m, e1, e2⟩ := hs.loc e
    simp only [rs, e1]
    cases m with
    | lst xs =>
      obtain ⟨vs, h1, h2, h3⟩ := e2
      exact ⟨a, vs, rfl, h1, h2, h3⟩
    | dct xs => simp only [RV, RD]; exact ⟨a, rfl, e⟩
    | dtt xs => simp only [RV, RD]; exact ⟨a, rfl, e⟩
  | _ => exact h.rv
end Eng

/-! Srt -/
set_option linter.all false
set_option maxRecDepth 100000
/-! Sorting texts: one rising list of what is given. -/
namespace Eng
theorem lt_irr (x : List Nat) : strLt x x = false := by simp [strLt, List.lt_irrefl]
theorem lt_asymm' {x y : List Nat} (h : strLt x y = true) : strLt y x = false := by
  simp only [strLt, decide_eq_true_eq, decide_eq_false_iff_not] at h ⊢
  exact List.lt_asymm h
theorem lt_trans' {x y z : List Nat} (h : strLt x y = true) (h' : strLt y z = true) : strLt x z = true := by
  simp only [strLt, decide_eq_true_eq] at h h' ⊢
  exact List.lt_trans h h'
theorem lt_tri {x y : List Nat} (h : strLt x y = false) (h' : strLt y x = false) : x = y := by
  simp only [strLt, decide_eq_false_iff_not] at h h'
  exact List.le_antisymm (List.not_lt.mp h') (List.not_lt.mp h)
theorem le_lt {x y z : List Nat} (h : strLt y x = false) (h' : strLt y z = true) : strLt x z = true := by
  cases e : strLt x y with
  | true => exact lt_trans' e h'
  | false => rw [lt_tri e h]; exact h'
theorem ins_comm (x y : List Nat) : ∀ l : List (List Nat), insS x (insS y l) = insS y (insS x l)
  | [] => by
    simp only [insS]
    cases e : strLt y x <;> cases e' : strLt x y
    · rw [lt_tri e e']
    · simp [e]
    · simp [e]
    · rw [lt_asymm' e] at e'; cases e'
  | z :: l => by
    have ih := ins_comm x y l
    simp only [insS]
    cases ey : strLt z y <;> cases ex : strLt z x
    · simp only [Bool.false_eq_true, if_false, insS]
      cases e : strLt y x <;> cases e' : strLt x y
      · rw [lt_tri e e']
      · simp [e, e', ey, ex]
      · simp [e, e', ey, ex]
      · rw [lt_asymm' e] at e'; cases e'
    · simp only [Bool.false_eq_true, if_false, if_true, insS, ey]
      have e : strLt y x = true := le_lt ey ex
      simp [e, ex]
    · simp only [Bool.false_eq_true, if_false, if_true, insS, ex]
      have e : strLt x y = true := le_lt ex ey
      simp [e, ey]
    · simp only [if_true, insS, ey, ex, ih]
theorem sort_perm {a b : List (List Nat)} (h : a.Perm b) : sortS a = sortS b := by
  induction h with
  | nil => rfl
  | cons x _ ih => simp only [sortS, ih]
  | swap x y l => simp only [sortS]; exact ins_comm y x (sortS l)
  | trans _ _ ih1 ih2 => rw [ih1, ih2]
/-- rising -/
def risS : List (List Nat) → Bool
  | [] => true
  | [_] => true
  | x :: y :: r => !strLt y x && risS (y :: r)
theorem sort_ris : ∀ l : List (List Nat), risS l = true → sortS l = l
  | [], _ => rfl
  | [x], _ => rfl
  | x :: y :: r, h => by
    simp only [risS, Bool.and_eq_true, Bool.not_eq_true'] at h
    rw [sortS, sort_ris (y :: r) h.2, insS, h.1]
    simp
theorem sort_uniq {a b : List (List Nat)} (h : b.Perm a) (hr : risS b = true) : b = sortS a := by rw [← sort_perm h, sort_ris b hr]
end Eng

/-! EngV -/
set_option Elab.async false
set_option linter.all false
set_option maxRecDepth 100000
set_option maxHeartbeats 4000000
/-! New tuples, the very object kept (so that it is known to have no dict of its own). -/
namespace Eng
open PySem PySem.Spec PyProof.Rows L2
/-- a new tuple -/
def NewT (H : Hp) (xs : List V) (Q : VK) : Prop := ∀ (p : Addr) (o : Obj), o.dict = none → H p = none → Q (.ref p) (upd H p (.frz o (.tup xs)))
section
variable {X : Cx}
theorem laidT {pins : List (Addr × Obj)} {σ : L2.St} {H : Hp} {z : Shared} {its : List Value} {xs : List V} {Q : VK} (J : Inv X pins σ H z) (rv : Vals xs its) (hl : xs.length ≤ sizeLine) (q : NewT H xs Q) :
    EP X pins σ Q (.ref z.heap.objs.size) { z with heap := z.heap.push { cls := .type "tuple", data := .seq its.toArray } } := by
  refine ⟨.ref z.heap.objs.size, upd H z.heap.objs.size (.frz { cls := .type "tuple", data := .seq its.toArray } (.tup xs)), J.laid (t' := z.toks) (fun b u e => Heap.get?_push_of_some _ e) (Nat.le_refl _) ?_, rfl, q _ _ rfl (J.hok.fresh (Nat.le_refl _))⟩
  exact ⟨Heap.get?_push_size _ rfl, hl, its, rv, IsTup.new _ _⟩
theorem pe_tupF {es : List Expr} {t : TA} {k : Nat} {pos : Pos} (h : PA X es t) : PE X (.Tuple es k pos) (fun σ H Q => t σ H fun xs H1 => xs.length ≤ sizeLine ∧ NewT H1 xs Q) := by
  refine ⟨fun pins s σ H Q J hq => ?_⟩
  refine wpAny_Tuple_spliced (thn (h.run pos pins s σ H _ J hq) fun us s1 ⟨xs, H1, J1, rv, z, q⟩ => ⟨by rw [← rv.length]; exact z, ?_⟩)
  exact laidT J1 rv z q
def rCatF (K : PySem.W.Frag) : R2 := fun x y H Q => ∃ a b xs ys, x = .ref a ∧ y = .ref b ∧ SqT K H a xs ∧ SqT K H b ys ∧ xs.length + ys.length ≤ sizeLine ∧ (xs = [] → Q (.ref b) H) ∧ (xs ≠ [] → ys = [] → Q (.ref a) H) ∧ (xs ≠ [] → ys ≠ [] → NewT H (xs ++ ys) Q)
theorem op_catF : OpR X (binaryOp .Add) (rCatF X.K) := by
  intro pins s σ H x y v u Q J rx ry h
  obtain ⟨a, b, xs, ys, rfl, rfl, ha, hb, hz, q0, q1, q2⟩ := h
  cases rx
  cases ry
  obtain ⟨i1, r1, t1, _⟩ := J.tuple ha
  obtain ⟨i2, r2, t2, _⟩ := J.tuple hb
  by_cases hx : xs = []
  · subst hx
    cases r1
    exact cat_tup0 t1 t2 ⟨.ref b, H, J, rfl, q0 rfl⟩
  · refine HT.cat_tup t1 t2 (fun z => hx (r1.nil_iff.mp z)) (fun z => ⟨.ref a, H, J, rfl, q1 hx (r2.nil_iff.mp z)⟩) (fun z => ?_) (by rw [← r1.length, ← r2.length]; exact hz)
    have := laidT J (r1.append r2) (by rw [List.length_append]; exact hz) (q2 hx fun e => z (r2.nil_iff.mpr e))
    simpa using this
def rSlF (K : PySem.W.Frag) : V → Option Int → Option Int → Hp → VK → Prop := fun x lo hi H Q => ∃ a xs, x = .ref a ∧ SqT K H a xs ∧
  (HT.sIx xs.length 0 lo = 0 ∧ HT.sIx xs.length xs.length hi = xs.length → Q (.ref a) H) ∧ (¬ (HT.sIx xs.length 0 lo = 0 ∧ HT.sIx xs.length xs.length hi = xs.length) → NewT H (cutV xs lo hi) Q)
theorem sl_tupF : SlR X (rSlF X.K) := by
  intro pins s σ H x v vl vu lo hi sl Q J rx hs pl pu h
  obtain ⟨a, xs, rfl, hx, q1, q2⟩ := h
  cases rx
  obtain ⟨its, rv, tp, hz⟩ := J.tuple hx
  have hlen : its.toArray.size = xs.length := by rw [List.size_toArray]; exact rv.length.symm
  refine ⟨"tuple", _, PyProof.Rows.slot_tuple_getitem.lookup, tp.typeIs, ?_⟩
  by_cases hw : HT.sIx xs.length 0 lo = 0 ∧ HT.sIx xs.length xs.length hi = xs.length
  · exact getItem_tuple_whole tp hs pl pu (by rw [hlen]; exact hw) ⟨.ref a, H, J, rfl, q1 hw⟩
  · refine HT.getItem_tuple_cut tp hs pl pu (by rw [hlen]; exact hw) ?_ (by rw [hlen]; exact hz)
    rw [hlen]
    have := laidT J ((rv.drop (HT.sIx xs.length 0 lo)).take (HT.sIx xs.length xs.length hi - HT.sIx xs.length 0 lo)) (Nat.le_trans (cutV_length xs lo hi) hz) (q2 hw)
    simpa using this
theorem call_tupleF : CallR X (.type "tuple") (fun xs H Q => ∃ p ys, xs = [.ref p] ∧ ((SqL X.K H p ys ∧ NewT H ys Q) ∨ (SqT X.K H p ys ∧ Q (.ref p) H))) := by
  intro pins s σ H xs us Q J r h
  obtain ⟨p, ys, rfl, h⟩ := h
  obtain ⟨u, rfl, rx⟩ := vals1 r
  cases rx
  rcases h with ⟨hq, q⟩ | ⟨hq, q⟩
  · obtain ⟨its, rv, pl, hz⟩ := J.list hq
    have hlen := rv.length
    refine call_tuple_list pl.isList (fun h' kp => ?_) (by simp only [List.size_toArray] <;> omega)
    exact laidT (J.kept (t' := s.toks) kp) rv hz q
  · obtain ⟨its, rv, pl, hz⟩ := J.tuple hq
    exact call_tuple_same pl ⟨.ref p, H, J, rfl, q⟩
def rRepF (K : PySem.W.Frag) : R2 := fun x y H Q => ∃ (l : Addr) (k : Int) (xs : List V), x = .ref l ∧ y = .int k ∧ SqT K H l xs ∧ 2 ≤ k ∧ k ≤ 1000 ∧ xs.length ≤ 1000 ∧ (xs = [] → Q (.ref l) H) ∧ (xs ≠ [] → NewT H (List.replicate k.toNat xs).flatten Q)
theorem tuple_mulE (l : Addr) (n : Nat) (dd : Option Addr) (sl : Array (Option Value)) (x : Int) (u : Tok) (c0 : (decide (x < -(2 ^ 63)) || decide (x ≥ 2 ^ 63)) = false) :
    Meets (Builtin.«tuple.__mul__» ⟨[.ref l, .int x u], []⟩) (fun _ R s => s.heap.get? l = some { cls := .type "tuple", dict := dd, data := .seq #[] n, slots := sl } ∧ R (.ok (.ret (Value.ref l))) s) :=
  .of_wp fun prog w A R s h => by
    obtain ⟨hp, g, d, tk, os⟩ := s
    obtain ⟨hl, h⟩ := h
    have f1 := AutoSeq1.idx_int
    have c1 : ((#[] : Array Value).isEmpty || x == 1) = true := rfl
    wp_walk using wpAny_loadPart' hl
    repeat (first
      | (refine wpAny_ite_false (decide_eq_false (by rw [c0]; exact Bool.false_ne_true)) ?_; wp_walk using wpAny_loadPart' hl)
      | (refine wpAny_ite_true (decide_eq_true (by rw [c1])) ?_; wp_walk using wpAny_loadPart' hl))
    exact ⟨_, rfl, h⟩
theorem op_repF : OpR X (binaryOp .Mult) (rRepF X.K) := by
  intro pins s σ H x y v u Q J rx ry h
  obtain ⟨l, k, xs, rfl, rfl, hT, k1, k2, hz, q0, q⟩ := h
  cases rx
  obtain ⟨tk, rfl⟩ := ry
  obtain ⟨its, rv, ⟨⟨cl, dd, da, sl⟩, ho, hc, n, hd⟩, hs⟩ := J.tuple hT
  simp only at hc hd
  subst hc hd
  have le : its.length = xs.length := rv.length.symm
  have d0 : (decide (k < -(2 ^ 63)) || decide (k ≥ 2 ^ 63)) = false := by
    rw [decide_eq_false (by omega), decide_eq_false (by omega)] <;> rfl
  by_cases hne : xs = []
  · subst hne
    have ie : its = [] := List.eq_nil_of_length_eq_zero le
    subst ie
    exact wpAny_binaryOp_repeat_ref (T := "tuple") (U := "int") (by decide) ⟨_, ho, rfl⟩ (fun s' => typeIs_int s' k tk) noFill_tuple_mul F.fills_int_mul F.slot_int_rmul repeat_tuple F.slot_int_index.lookup
      (call_meets F.slot_int_rmul (typeIs_int s k tk) F.entry_int_rmul (F.args_int_rmul_2 _ _) (int_rmul_tuple k tk l #[] n dd sl)
        ⟨ho, rfl, ⟨_, ho, rfl⟩, call_meets F.slot_tuple_mul ⟨_, ho, rfl⟩ F.entry_tuple_mul (F.args_tuple_mul_2 _ _) (tuple_mulE l n dd sl k tk d0) ⟨ho, .ref l, H, J, rfl, q0 rfl⟩⟩)
  have ne : its ≠ [] := fun e => hne (by
    rw [e] at le
    exact List.eq_nil_of_length_eq_zero le.symm)
  have em : its.toArray.isEmpty = false := by
    cases its with
    | nil => exact absurd rfl ne
    | cons _ _ => rfl
  have sz0 : its.toArray.size = xs.length := by rw [List.size_toArray, le]
  have hm : ((its.toArray.size : Nat) : Int) * k ≤ 1000000 := by
    rw [sz0]
    have a1 : ((xs.length : Nat) : Int) * k ≤ 1000 * k := Int.mul_le_mul_of_nonneg_right (by omega) (by omega)
    omega
  have fl : (List.replicate k.toNat its).flatten.length ≤ sizeLine := by
    rw [PyProof.Rows.lm_len_rep_flat, le, sizeLine_eq]
    have a1 : k.toNat * xs.length ≤ 1000 * 1000 := Nat.mul_le_mul (by omega) hz
    omega
  have fl2 : (List.replicate k.toNat xs).flatten.length ≤ sizeLine := by
    rw [PyProof.Rows.lm_len_rep_flat, sizeLine_eq]
    have a1 : k.toNat * xs.length ≤ 1000 * 1000 := Nat.mul_le_mul (by omega) hz
    omega
  have d1 : (its.toArray.isEmpty || k == 1) = false := by
    rw [em, Bool.false_or]
    exact beq_eq_false_iff_ne.mpr (by omega)
  have d2 : (decide (k ≤ 0) || its.toArray.isEmpty) = false := by
    rw [em, Bool.or_false]
    exact decide_eq_false (by omega)
  have d4 : Builtin.Tuple.tupleTooMany (((its.toArray.size : Nat) : Int) * k) = false := by
    unfold Builtin.Tuple.tupleTooMany
    rw [sizeLine_eq]
    exact decide_eq_false (by omega)
  refine wpAny_binaryOp_repeat_ref (T := "tuple") (U := "int") (by decide) ⟨_, ho, rfl⟩ (fun s' => typeIs_int s' k tk) noFill_tuple_mul F.fills_int_mul F.slot_int_rmul repeat_tuple F.slot_int_index.lookup
    (call_meets F.slot_int_rmul (typeIs_int s k tk) F.entry_int_rmul (F.args_int_rmul_2 _ _) (int_rmul_tuple k tk l its.toArray n dd sl)
      ⟨ho, rfl, ⟨_, ho, rfl⟩, call_meets F.slot_tuple_mul ⟨_, ho, rfl⟩ F.entry_tuple_mul (F.args_tuple_mul_2 _ _) (tuple_mulW l its.toArray n dd sl k tk d0 d1 d2 (by omega) d4 (by rw [size_rep, List.size_toArray]; exact fl)) ⟨ho, ?_⟩⟩)
  rw [size_rep]
  exact laidT J (rv.rep _) fl2 (q hne)
end
end Eng

/-! EngT -/
set_option Elab.async false
set_option linter.all false
set_option maxRecDepth 100000
set_option maxHeartbeats 4000000
/-! enumerate over a tuple. -/
namespace Eng
open PySem PySem.Spec PyProof.Rows L2

theorem en_new {v : Value} {o : Obj} {Hh : Heap → Prop} (B : Begins v o Hh) :
    Meets (Builtin.«enumerate.__new__» ⟨[.type "enumerate", v], []⟩) (fun _ R s => Hh s.heap ∧
      R (.ok (.ret (.ref (s.heap.push o).objs.size))) { s with heap := (s.heap.push o).push { cls := .type "enumerate", data := .fields #[.none, .bool false, .ref s.heap.objs.size, rawInt 0, .none, .none] } }) :=
  .of_wp fun prog w A R s hh => by
    obtain ⟨hp, gs, dr, tk, os⟩ := s
    obtain ⟨z1, z2⟩ := hh
    have hsub := sub_enumerate
    have it1 : ∀ {A' : Around} {E : Value → Shared → Prop} {Q : Value → Shared → Prop}, Q (.ref hp.objs.size) ⟨hp.push o, gs, dr, tk, os⟩ → wpAny (model prog w) A' (pyIter v) Q E ⟨hp, gs, dr, tk, os⟩ := fun q => B.iter prog w _ _ ⟨hp, gs, dr, tk, os⟩ _ z1 q
    wp_walk using it1
    refine wpAny_stack_any fun st => wpAny_pure ?_
    split
    · rename_i cc _ _ _ _ _
      cases (cc == Value.type "enumerate")
      · wp_walk using it1
        exact ⟨_, rfl, z2⟩
      · wp_walk using it1
        exact ⟨_, rfl, z2⟩
    · wp_walk using it1
      exact ⟨_, rfl, z2⟩
theorem en_call {prog : Program} {w : World} {A : Around} {E : Value → Shared → Prop} {s : Shared} {v : Value} {o : Obj} {Hh : Heap → Prop} {Q : Value → Shared → Prop} (B : Begins v o Hh) (z1 : Hh s.heap)
    (hq : ∀ h', IsEnum h' (s.heap.objs.size + 1) s.heap.objs.size 0 .none → h'.get? s.heap.objs.size = some o → (∀ b u, s.heap.get? b = some u → h'.get? b = some u) → Q (.ref (s.heap.objs.size + 1)) { s with heap := h' }) :
    wpAny (model prog w) A (call (.type "enumerate") [v]) Q E s := by
  refine callType_new F.called_enumerate (by decide) (F.typeCall_enumerate_1 _) (F.newCall_enumerate_1 _) (fun obj => F.args_object_init_2 obj _) F.entry_enumerate_new (en_new B) ⟨z1, ?_⟩
  have sz : (s.heap.push o).objs.size = s.heap.objs.size + 1 := Heap.size_push ..
  show _ ∧ _
  rw [sz]
  have en : IsEnum ((s.heap.push o).push { cls := .type "enumerate", data := .fields #[.none, .bool false, .ref s.heap.objs.size, rawInt 0, .none, .none] }) (s.heap.objs.size + 1) s.heap.objs.size 0 .none := by
    have q := Heap.get?_push_size (s.heap.push o) (o := { cls := .type "enumerate", data := .fields #[.none, .bool false, .ref s.heap.objs.size, rawInt 0, .none, .none] }) rfl
    rw [sz] at q; exact q
  exact ⟨⟨_, en, rfl⟩, hq _ en (Heap.get?_push_of_some _ (Heap.get?_push_size _ B.free)) fun b u x => Heap.get?_push_of_some _ (Heap.get?_push_of_some _ x)⟩

/-- the tuple at a, each item in a new pair -/
def ItT (K : PySem.W.Frag) (a : Addr) : It :=
  ⟨fun i H => ∃ (xs : List V) (x : V), SqT K H a xs ∧ xs[i]? = some x, fun i H v H' => ∃ T x, v = .ref T ∧ H T = none ∧ H' = upd H T (.tup [.int (i : Nat), x]) ∧ ∀ xs, SqT K H a xs → xs[i]? = some x, fun i H => ∃ xs : List V, SqT K H a xs ∧ xs.length ≤ i⟩
theorem turn_enT {P : Program} {w : World} {K : PySem.W.Frag} {elts : List Expr} {kk : Nat} {tpos : Pos} (a e it : Addr) :
    Turn P w K (.Tuple elts kk tpos) (ItT K a) [e, it] e (fun i h => (∃ old, IsEnum h e it ((i : Nat) : Int) old) ∧ h.IsTupleIter it a i ∧ e ≠ it) where
  mem := by simp
  obj := fun i h st b hb => by
    obtain ⟨⟨old, he⟩, ⟨o, ho, hc, hd⟩, _⟩ := st
    have e' : b = e ∨ b = it := by simpa using hb
    rcases e' with z | z
    · rw [z]; exact ⟨_, he, fun v q => nomatch q⟩
    · rw [z]; exact ⟨o, ho, fun v q => by rw [hd] at q; cases q⟩
  keep := fun i h h' st k => let ⟨⟨old, he⟩, hi, hne⟩ := st; ⟨⟨old, k e (by simp) _ he⟩, hi.at fun o q => k it (by simp) o q, hne⟩
  item := by
    intro X hP hw hK hc i pins s σ H E I hf st hg
    subst hP hw hK
    obtain ⟨⟨old, he⟩, hit, hne⟩ := st
    obtain ⟨xs, x, hq, hx⟩ := hg
    obtain ⟨its, rv, p, hz⟩ := I.tuple hq
    obtain ⟨u, hu, ru⟩ := rv.get hx
    have el : e < s.heap.objs.size := Heap.lt_size he
    have il : it < s.heap.objs.size := by obtain ⟨_, q, _⟩ := hit; exact Heap.lt_size q
    have pt : s.heap.IsTuple a its.toArray := p
    have nia : a ≠ it := fun z => by
      obtain ⟨o1, q1, c1, _⟩ := hit
      obtain ⟨o2, q2, c2, _⟩ := pt
      rw [z, q1] at q2
      cases q2
      rw [c1] at c2
      exact absurd c2 (by decide)
    have nea : e ≠ a := fun z => by
      obtain ⟨o2, q2, c2, _⟩ := pt
      rw [← z, he] at q2
      cases q2
      exact absurd (show Value.type "enumerate" = Value.type "tuple" from c2) (by decide)
    have hhd : X.A.in1.handled = none := I.ok.hd hc
    have D := Draws.tuple (prog := X.prog) (w := X.w) (A := X.A.in1) hhd it a nia its.toArray
    have hlt : i < its.toArray.size := by
      have := (List.getElem?_eq_some_iff.mp hu).1
      simpa using this
    refine wpAny_pyNext_enum_itemD (i := i) D he ⟨hit, pt⟩ hlt hne (by simp [hne, nea]) fun y h' tk hy ho hit' hT hsz hk => ?_
    have ey : y = u := by
      have : its[i]? = some y := by simpa using hy
      rw [hu] at this; exact (Option.some.inj this).symm
    subst ey
    refine ⟨_, rfl, wpAny_letOwnedTupleGo_enum (s := { s with heap := h', toks := tk + 1 }) ho fun h'' he' sb => ?_⟩
    have hT2 : h''.get? s.heap.objs.size = some { cls := .type "tuple", data := .seq #[.int i tk, y] } := (sb.2 _ (Nat.ne_of_gt el)).trans hT
    have new : ObjOk X.prog X.w (upd H s.heap.objs.size (.tup [.int (i : Nat), x])) h'' s.heap.objs.size (.tup [.int (i : Nat), x]) :=
      ⟨by show 2 ≤ sizeLine; decide, [.int i tk, y], .cons ⟨_, rfl⟩ (.cons ru .nil), ⟨_, hT2, rfl, _, rfl⟩⟩
    have I1 : Inv X pins σ (upd H s.heap.objs.size (.tup [.int (i : Nat), x])) { s with heap := h'', toks := tk + 1 } :=
      I.turnedNew (ch := [e, it]) (fun b ob hb q => (sb.2 b (fun z => hb (by simp [z]))).trans (hk b ob (fun z => hb (by simp [z])) (fun z => hb (by simp [z])) q)) hf (Nat.le_refl _) new
    refine ⟨.ref s.heap.objs.size, _, I1, rfl, ⟨_, x, rfl, I.hok.fresh (Nat.le_refl _), rfl, fun ys hy' => by rw [I.tuple_inj hy' hq]; exact hx⟩, ⟨⟨y, ?_⟩, hit'.1.at fun o q => (sb.2 it (Ne.symm hne)).trans q, hne⟩, fun b hb => ?_⟩
    · have e1 : ((i + 1 : Nat) : Int) = (i : Int) + 1 := by omega
      rw [e1]; exact he'
    · have hb' : b < s.heap.objs.size := by
        have e' : b = e ∨ b = it := by simpa using hb
        rcases e' with z | z
        · rw [z]; exact el
        · rw [z]; exact il
      rw [upd_ne (Nat.ne_of_lt hb')]
      exact (hf b hb).1
  done := by
    intro X hP hw hK hc i pins s σ H E I hf st hg
    subst hP hw hK
    obtain ⟨⟨old, he⟩, hit, hne⟩ := st
    obtain ⟨xs, hq, hx⟩ := hg
    obtain ⟨its, rv, p, hz⟩ := I.tuple hq
    obtain ⟨f0, f1, f2, f3, f4, f5⟩ := hf it (by simp)
    have hl := rv.length
    have hT : s.TypeIs (.ref e) "enumerate" := ⟨_, he, rfl⟩
    unfold pyNext
    refine wpAny_bind (wpAny_attempt (wpAny_callSpecial?_slot (name := Str.ofString "__next__") hT F.slot_enumerate_next
      (wpAny_call_entry F.slot_enumerate_next hT F.entry_enumerate_next ?_ (F.args_enumerate_next_1 _))))
    show wpAny _ _ (field (.ref e) 2 >>= _) _ _ _
    refine wpAny_bind (wpAny_field he rfl (x := .ref it) rfl ?_)
    refine wpAny_bind (wpAny_nextOf_tuple_end (I.ok.hd hc) hit (show s.heap.IsTuple a its.toArray from p) (by simp; omega) fun h' x he' hx' => ?_)
    obtain ⟨o, ho, hcl⟩ := hx'
    refine wpAny_bind (wpAny_isInstance (T := "StopIteration") (b := true) ⟨o, ho, hcl⟩ isSubtype_stop ?_)
    exact wpAny_pure ⟨rfl, I.turned (t' := s.toks) (fun b o hb q => he' b o hb q) f0 f1 f3 f4 f5⟩
  self := fun A i s Q E st h => let ⟨⟨_, he⟩, _⟩ := st; wpAny_pyIter_enum he h
def iEnumA (K : PySem.W.Frag) (ta : TA) : TI := fun σ H R => ta σ H fun vs H1 => ∃ a xs, vs = [.ref a] ∧ ((SqL K H1 a xs ∧ R (Ite K a) H1) ∨ (SqT K H1 a xs ∧ R (ItT K a) H1))
theorem pi_enumA {X : Cx} {e : Expr} {ta : TA} {p pos tpos : Pos} {elts : List Expr} {kk : Nat} (hg : Gl X "enumerate") (hm : X.mg "enumerate" = none) (ha : PA X [e] ta) (hs : starEach [e] X.env = [(false, eval e X.env)]) :
    PI X (.Tuple elts kk tpos) (.Call (.Name "enumerate" p) [e] [] pos) (iEnumA X.K ta) := by
  refine ⟨fun pins s σ H R I h => ?_⟩
  refine Call_ (ld_blt I hg hm boot_enumerate (PyProof.Rows.callWith_type1 (thn (ha.run pos pins s σ H _ I h) fun us s1 ⟨vs, H1, I1, r1, q1⟩ => ?_) hs rfl))
  obtain ⟨a, xs, ex, q1⟩ := q1
  subst ex
  have fin : ∀ h' : Heap, (∀ b ob, s1.heap.get? b = some ob → h'.get? b = some ob) → ∀ b ∈ [s1.heap.objs.size + 1, s1.heap.objs.size], FpOk X pins H1 b := fun h' hk b hb => by
    have hle : s1.heap.objs.size ≤ b := by
      have e' : b = s1.heap.objs.size + 1 ∨ b = s1.heap.objs.size := by simpa using hb
      rcases e' with z | z
      · rw [z]; exact Nat.le_add_right _ _
      · rw [z]; exact Nat.le_refl _
    exact I1.fpOk hle (I1.hok.fresh hle)
  cases r1 with
  | cons r rr =>
    cases rr
    cases r
    rcases q1 with ⟨hq, q⟩ | ⟨hq, q⟩
    · obtain ⟨its, rv, p', hz⟩ := I1.list hq
      refine call_enumerate_list p'.isList fun h' he hit hsz hk => wpAny_pyIter_enum he ?_
      exact ⟨s1.heap.objs.size + 1, [s1.heap.objs.size + 1, s1.heap.objs.size], _, _, H1, rfl, I1.kept (t' := s1.toks) hk, turn_enum a (s1.heap.objs.size + 1) s1.heap.objs.size, ⟨⟨.none, he⟩, hit, Nat.succ_ne_self _⟩, fin h' hk, q⟩
    · obtain ⟨its, rv, p', hz⟩ := I1.tuple hq
      refine en_call (begins_tuple a its.toArray) (show s1.heap.IsTuple a its.toArray from p') fun h' he ho hk => wpAny_pyIter_enum he ?_
      exact ⟨s1.heap.objs.size + 1, [s1.heap.objs.size + 1, s1.heap.objs.size], _, _, H1, rfl, I1.kept (t' := s1.toks) hk, turn_enT a (s1.heap.objs.size + 1) s1.heap.objs.size, ⟨⟨.none, he⟩, ⟨_, ho, rfl, rfl⟩, Nat.succ_ne_self _⟩, fin h' hk, q⟩
end Eng

/-! EngU -/
set_option Elab.async false
set_option linter.all false
set_option maxRecDepth 100000
set_option maxHeartbeats 4000000
/-! dict(t) of a tuple of pairs. -/
namespace Eng
open PySem PySem.Spec PyProof.Rows L2
theorem tup_nokeys : typeLookup (.type "tuple") "keys" = pure none := am_miss_of_fast (by first | decide +kernel | rfl)
section
variable {prog : Program} {w : World} {A : Around} {E : Value → Shared → Prop}
theorem tup_miss {z : Shared} {t : Addr} {ob : Obj} {its : Array Value} {m : Nat} {Q : Option Value → Shared → Prop} (z1 : z.heap.get? t = some ob) (z2 : ob.cls = .type "tuple") (z3 : ob.data = .seq its m) (z4 : ob.dict = none) (z5 : A.handled = none)
    (fin : ∀ hq tq, (∀ b u, z.heap.get? b = some u → hq.get? b = some u) → Q none { z with heap := hq, toks := tq }) : wpAny (model prog w) A (getAttr? (.ref t) "keys") Q E z := by
  obtain ⟨cl, di, da, sl⟩ := ob
  simp only at z2 z3 z4
  subst z2 z3 z4
  obtain ⟨hp, gn, dr, tk, os⟩ := z
  have ty : ∀ tk', (⟨hp, gn, dr, tk', os⟩ : Shared).TypeIs (.ref t) "tuple" := fun _ => ⟨_, z1, rfl⟩
  have ms := tup_nokeys
  have nm : (["__module__", "__name__", "__qualname__", "__doc__", "__annotations__"] : List Str).contains "keys" = false := by decide +kernel
  have sz : ("keys" : Str).length + 100 ≤ sizeLine := by first | size_fits | decide +kernel
  have g1 := sub_AttributeError
  have g3 := PySem.F.slot_tuple_getattribute.lookup
  have g4 := PySem.F.slot_tuple_getattribute.bind (.ref t)
  have g5 := am_tuple_getattr_none
  unfold getAttr? getAttrBy? getAttrBy
  repeat (any_goals (first | assumption | exact ty _ | ((with_reducible show wpAny _ _ (call (Value.builtin "tuple.__getattribute__") _ _) _ _ _); refine call_meets PySem.F.slot_tuple_getattribute (ty _) am_entry_tuple_getattribute (PySem.F.args_tuple_getattribute_2 _ _) (meets_getattribute_miss_tuple t its m sl "keys" _ ms nm sz) ⟨z1, z5, fun hq tq ee hx' => ?_⟩) | wp_step))
  obtain ⟨tt, uu, the⟩ := hx'.there
  show wpAny _ _ (getattributeRaised _ _ _ _ _ _ _) _ _ _
  unfold getattributeRaised
  repeat (any_goals (first | assumption | wp_step))
  all_goals first | exact fin _ _ hx'.keeps | (dsimp only; repeat (any_goals (first | assumption | exact fin _ _ hx'.keeps | wp_step)))
theorem tup_loop {R : Result → Shared → Prop} {B I t : Addr} {its : Array Value} {res : Value} (hh : A.handled = none) (n1 : t ≠ I) (n2 : B ≠ I) (n3 : B ≠ t) :
    ∀ (more : List (Key × Value)) (i : Nat) (acc : List (Key × Value)) (ix : Int) (tk0 : Tok) (z : Shared), its.size = i + more.length → acc.length + more.length ≤ sizeLine →
      (∀ (j : Nat) (q : Key × Value), more[j]? = some q → ∃ (b : Addr) (u : Value), its[i + j]? = some (.ref b) ∧ b ≠ B ∧ b ≠ I ∧ IsTup z.heap b #[u, q.2] ∧ keyIs q.1 u = true) →
      z.heap.IsTupleIter I t i → z.heap.IsTuple t its → z.heap.DictOf (mixKind prog w) B acc →
      (∀ hq tq, hq.DictOf (mixKind prog w) B (merged acc more) → (∀ b o, b ≠ B → b ≠ I → z.heap.get? b = some o → hq.get? b = some o) → R (.ok (.ret res)) { z with heap := hq, toks := tq }) →
      codeAny (model prog w) A (.builtin "dict.update.loop" ⟨[.ref B, .ref I, .int ix tk0, res], []⟩) R z
  | [], i, acc, ix, tk0, z, c1, c2, c3, it, tp, dd, fin => by
    refine codeAny_builtin ud_entry ?_
    rw [Around.under_plainId ud_plain _]
    show wpAny _ A.in1 (pyNext (.ref I) >>= _) _ _ z
    refine wpAny_bind (wpAny_pyNext_tuple_end (A := A.in1) hh it tp (by first | exact Array.getElem?_eq_none (Nat.le_of_eq c1) | (simp at c1; simp; omega)) fun hq he => ?_)
    show wpAny _ A.in1 (Builtin.Dict.addKeywords B [] >>= _) _ _ _
    refine wpAny_bind (wpAny_pure (wpAny_pure ?_))
    exact fin hq z.toks (dd.extBut he n2) fun b o _ hb e => he b o hb e
  | q :: more, i, acc, ix, tk0, z, c1, c2, c3, it, tp, dd, fin => by
    obtain ⟨b, u, hb, bB, bI, tu, ku⟩ := c3 0 q rfl
    rw [List.length_cons] at c1 c2
    refine codeAny_builtin ud_entry ?_
    rw [Around.under_plainId ud_plain _]
    show wpAny _ A.in1 (pyNext (.ref I) >>= _) _ _ z
    refine wpAny_bind (wpAny_pyNext_tuple_item (x := .ref b) it tp (by simpa using hb) fun h1 it1 s1 => ?_)
    have tu1 : IsTup h1 b #[u, q.2] := tu.extBut s1.extBut bI
    have tp1 : h1.IsTuple t its := tp.extBut s1.extBut n1
    have dd1 : h1.DictOf (mixKind prog w) B acc := dd.extBut s1.extBut n2
    obtain ⟨ob, ho, hc, nn, hd⟩ := id tu1
    show wpAny _ A.in1 (holding [Value.ref b] _ >>= _) _ _ _
    refine wpAny_bind (wpAny_holding ?_)
    refine wpAny_bind (wpAny_tryCatch ?_)
    unfold Builtin.Dict.pairItems
    refine wpAny_bind (wpAny_typeOf (T := "tuple") ⟨ob, ho, hc⟩ ?_)
    rw [if_pos (by first | decide | rfl | simp)]
    refine wpAny_bind (wpAny_seqItems ho hd (wpAny_pure ?_))
    show wpAny _ A.in1 (holding [u, q.2] (dictSet B u q.2)) _ _ _
    refine wpAny_holding (wpAny_dictSet_pairs (knd := mixKind prog w) (k := q.1) ku dd1 (fun h2 dd2 s2 => ?_) (by omega))
    refine wpAny_pure ⟨plainId_quiet ud_plain _, tup_loop (its := its) hh n1 n2 n3 more (i + 1) (stored acc q.1 q.2) (ix + 1) 0 _ (show its.size = i + 1 + more.length by omega) ?_ (fun j q' e => ?_) ?_ ?_ dd2 fun hq tq hd' k => ?_⟩
    · have sl := stored_length_le acc q.1 q.2
      omega
    · obtain ⟨b', u', hb', bB', bI', tu', ku'⟩ := c3 (j + 1) q' (by simpa using e)
      refine ⟨b', u', ?_, bB', bI', (tu'.extBut s1.extBut bI').extBut s2.extBut bB', ku'⟩
      rw [show i + 1 + j = i + (j + 1) by omega]
      exact hb'
    · exact it1.at fun o' e => s2.extBut I o' (Ne.symm n2) e
    · exact tp1.extBut s2.extBut (Ne.symm n3)
    · exact fin hq tq hd' fun c oc h3 h4 e => k c oc h3 h4 (s2.extBut c oc h3 (s1.extBut c oc h4 e))
theorem tup_dict {z : Shared} {t : Addr} {ob : Obj} {its : Array Value} {m : Nat} {prs : List (Key × Value)} {Q : Value → Shared → Prop} (hh : A.handled = none) (z1 : z.heap.get? t = some ob) (z2 : ob.cls = .type "tuple") (z4 : ob.dict = none)
    (z3 : ob.data = .seq its m) (c1 : its.size = prs.length) (c2 : prs.length ≤ sizeLine)
    (c3 : ∀ (j : Nat) (q : Key × Value), prs[j]? = some q → ∃ (b : Addr) (u : Value), its[j]? = some (.ref b) ∧ IsTup z.heap b #[u, q.2] ∧ keyIs q.1 u = true)
    (fin : ∀ hq tq, hq.DictOf (mixKind prog w) z.heap.objs.size (merged [] prs) → (∀ b o, z.heap.get? b = some o → hq.get? b = some o) → Q (.ref z.heap.objs.size) { z with heap := hq, toks := tq }) :
    wpAny (model prog w) A (call (.type "dict") [.ref t]) Q E z := by
  refine callType_codes (Q₁ := fun obj s₁ => obj = .ref z.heap.objs.size ∧ s₁ = { z with heap := z.heap.push { cls := .type "dict", data := .dict #[] } }) PySem.F.kt_called_dict (PySem.F.kt_typeCall_dict_1 _) PySem.F.entry_dict_init (kt_code_dict_new _ ⟨rfl, rfl⟩) ?_
  rintro obj s₁ ⟨rfl, rfl⟩
  have new : (z.heap.push { cls := .type "dict", data := .dict #[] }).DictOf (mixKind prog w) z.heap.objs.size [] := Heap.DictOf.new z.heap
  have k0 : ∀ b u, z.heap.get? b = some u → (z.heap.push { cls := .type "dict", data := .dict #[] }).get? b = some u := fun b u e => Heap.get?_push_of_some _ e
  refine ⟨new.typeIs, PySem.F.args_dict_init_2 _ _, ?_⟩
  unfold Builtin.«dict.__init__»
  refine wpAny_bind ?_
  unfold Builtin.Dict.selfAndRest
  refine wpAny_bind (wpAny_notOrdered_dict new.typeIs ?_)
  show wpAny _ _ (pure (z.heap.objs.size, [Value.ref t])) _ _ _
  refine wpAny_pure ?_
  show wpAny _ _ (Builtin.Dict.updateFrom "dict.__init__" z.heap.objs.size (.ref t) [] .none) _ _ _
  unfold Builtin.Dict.updateFrom
  refine wpAny_bind (wpAny_typeOf (T := "tuple") ⟨ob, k0 _ _ z1, z2⟩ ?_)
  rw [if_pos (by first | decide | rfl | simp)]
  refine wpAny_bind (tup_miss (k0 _ _ z1) z2 z3 z4 hh fun h1 tk1 hk1 => ?_)
  rw [if_pos (show (none : Option Value).isNone = true from rfl)]
  refine wpAny_bind (wpAny_rule ?_)
  have tp1 : h1.IsTuple t its := ⟨ob, hk1 _ _ (k0 _ _ z1), z2, m, z3⟩
  have lt1 : z.heap.objs.size < h1.objs.size := by
    have e : (z.heap.push { cls := .type "dict", data := .dict #[] }).get? z.heap.objs.size = some { cls := .type "dict", data := .dict #[] } := Heap.get?_push_size _ rfl
    exact Heap.lt_size (hk1 _ _ e)
  refine wpAny_bind (wpAny_pyIter_tuple tp1 ?_)
  have k2 : ∀ b u, h1.get? b = some u → (h1.push { cls := .type "tuple_iterator", data := .fields #[.ref t, .int 0 0] }).get? b = some u := fun b u e => Heap.get?_push_of_some _ e
  have tlt : t < z.heap.objs.size := Heap.lt_size z1
  have key := tup_loop (prog := prog) (w := w) (A := A.in1) (R := wants (fun r s₂ => r = .none ∧ Q (.ref z.heap.objs.size) s₂) E) (B := z.heap.objs.size) (I := h1.objs.size) (t := t) (its := its) (res := Value.none) hh
    (Nat.ne_of_lt (Nat.lt_trans tlt lt1)) (Nat.ne_of_lt lt1) (Nat.ne_of_gt tlt) prs 0 [] 0 0
    { z with heap := h1.push { cls := .type "tuple_iterator", data := .fields #[.ref t, .int 0 0] }, toks := tk1 } (by rw [c1, Nat.zero_add]) (by rw [List.length_nil, Nat.zero_add]; exact c2)
    (fun j q e => by
      obtain ⟨b, u, e1, e2, e3⟩ := c3 j q e
      have hb : b < z.heap.objs.size := e2.lt
      exact ⟨b, u, by rw [Nat.zero_add]; exact e1, Nat.ne_of_lt hb, Nat.ne_of_lt (Nat.lt_trans hb lt1), e2.keeps fun c o y => k2 _ _ (hk1 _ _ (k0 _ _ y)), e3⟩)
    ⟨_, Heap.get?_push_size _ rfl, rfl, rfl⟩ (tp1.at fun o e => k2 _ _ e) ((new.at fun o e => hk1 _ _ e).at fun o e => k2 _ _ e)
    (fun hq tq hd' k => ⟨rfl, fin hq tq hd' fun b o e => k b o (Nat.ne_of_lt (Heap.lt_size e)) (Nat.ne_of_lt (Nat.lt_trans (Heap.lt_size e) lt1)) (k2 _ _ (hk1 _ _ (k0 _ _ e)))⟩)
  first
    | exact wpAny_pure ⟨plainId_quiet ud_plain _, key⟩
    | exact wpAny_bind (wpAny_pure (wpAny_pure ⟨plainId_quiet ud_plain _, key⟩))
end
end Eng

/-! Eng3 -/
set_option Elab.async false
set_option linter.all false
set_option maxRecDepth 100000
set_option maxHeartbeats 4000000
/-! What is wanted behind a reckoning; the operations. -/
namespace Eng
open PySem PySem.Spec PyProof.Rows L2

/-- behind a reckoning: the value with its heap, or the exception -/
def Aft {a b : Type} (kx : Nat → Value) (K : PySem.W.Frag) (W : WX) (σ : L2.St) (R : Wd → a → b → Prop) (w : Wd) (r : Res a) (Q : b → Hp → Prop) : Prop := match r with
  | .ok d S' => ∀ v w', Ext w w' → RS K w' S' → R w' d v → Q v w'.H
  | .exc c S' => ∀ w', Ext w w' → RS K w' S' → W (kx c) none σ w'.H
  | .no => False

section
variable {kx : Nat → Value} {K : PySem.W.Frag} {W : WX} {σ : L2.St} {w w' : Wd} {S : Sto}

theorem Aft.mono {a b : Type} {R : Wd → a → b → Prop} {r : Res a} {Q : b → Hp → Prop} (h : Aft kx K W σ R w r Q) (x : Ext w w') : Aft kx K W σ R w' r Q := by
  cases r with
  | ok d S' => exact fun v w2 x2 => h v w2 (x.trans x2)
  | exc c S' => exact fun w2 x2 => h w2 (x.trans x2)
  | no => exact h
theorem Aft.bind {a b a' b' : Type} {R : Wd → a → b → Prop} {R' : Wd → a' → b' → Prop} {r : Res a} {f : a → Sto → Res a'} {Q : b' → Hp → Prop} {Q1 : b → Hp → Prop} (h : Aft kx K W σ R' w (r.bind f) Q)
    (h1 : ∀ d S1 v w1, r = .ok d S1 → Ext w w1 → RS K w1 S1 → R w1 d v → Aft kx K W σ R' w1 (f d S1) Q → Q1 v w1.H) : Aft kx K W σ R w r Q1 := by
  cases r with
  | ok d S' => exact fun v w1 x rs rd => h1 d S' v w1 rfl x rs rd (Aft.mono (r := f d S') h x)
  | exc c S' => exact h
  | no => exact h
theorem Aft.imp {a b : Type} {R : Wd → a → b → Prop} {r : Res a} {Q Q' : b → Hp → Prop} (h : Aft kx K W σ R w r Q) (hq : ∀ v H, Q v H → Q' v H) : Aft kx K W σ R w r Q' := by
  cases r with
  | ok d S' => exact fun v w1 x rs rd => hq _ _ (h v w1 x rs rd)
  | exc c S' => exact h
  | no => exact h
theorem Aft.gd {a b : Type} {R : Wd → a → b → Prop} {c : Prop} [Decidable c] {x : a} {Q : b → Hp → Prop} (h : Aft kx K W σ R w (gd c x S) Q) : c ∧ Aft kx K W σ R w (.ok x S) Q := by
  unfold Eng.gd at h
  split at h
  · exact ⟨by assumption, h⟩
  · exact h.elim
theorem Aft.ofO {a b : Type} {R : Wd → a → b → Prop} {o : Option a} {Q : b → Hp → Prop} (h : Aft kx K W σ R w (ofO o S) Q) : ∃ x, o = some x ∧ Aft kx K W σ R w (.ok x S) Q := by
  cases o with
  | none => exact h.elim
  | some x => exact ⟨x, rfl, h⟩

variable {Q : VK}
theorem Aft.val {d : D} {v : V} (h : Aft kx K W σ (RD K) w (.ok d S) Q) (hs : RS K w S) (hd : RD K w d v) : Q v w.H := h v w (Ext.refl w) hs hd
theorem Aft.bl {b : Bool} (h : Aft kx K W σ (RD K) w (.ok (.bl b) S) Q) (hs : RS K w S) : Q (.bl b) w.H := h.val hs (by simp only [RD])
theorem Aft.int {b : Int} (h : Aft kx K W σ (RD K) w (.ok (.int b) S) Q) (hs : RS K w S) : Q (.int b) w.H := h.val hs (by simp only [RD])
theorem Aft.non (h : Aft kx K W σ (RD K) w (.ok .non S) Q) (hs : RS K w S) : Q .non w.H := h.val hs (by simp only [RD])
theorem Aft.str {s : List Nat} (h : Aft kx K W σ (RD K) w (.ok (.str s) S) Q) (hs : RS K w S) (ok : okS s) : Q (.str (sv s)) w.H := h.val hs (by simp only [RD, true_and]; exact ok)
theorem Aft.tup {xs : List D} {vs : List V} (h : Aft kx K W σ (RD K) w (.ok (.tup xs) S) Q) (hs : RS K w S) (hl : xs.length ≤ szL) (hr : RDs K w xs vs) : NewT w.H vs Q := fun p o ho hp =>
  h (.ref p) (w.new p (.frz o (.tup vs))) (Ext.new hp) (hs.new hp) (by simp only [RD]; exact ⟨p, vs, rfl, ⟨o, upd_same, ho⟩, hl, RDs.ext (Ext.new hp) _ _ hr⟩)
theorem Aft.lst {xs : List D} {vs : List V} (h : Aft kx K W σ (RD K) w (.ok (.lst xs) S) Q) (hs : RS K w S) (hl : xs.length ≤ szL) (hr : RDs K w xs vs) : ∀ p, w.H p = none → Q (.ref p) (upd w.H p (.lst vs)) := fun p hp =>
  h (.ref p) (w.newF p (.lst vs)) (Ext.newF hp) (hs.newF hp) (by simp only [RD]; exact ⟨p, vs, rfl, ⟨.inr rfl, upd_same⟩, hl, RDs.ext (Ext.newF hp) _ _ hr⟩)

/-! ### the kinds of values -/
theorem RV.tupI {xs : List D} {v : V} (h : RV K w (.tup xs) v) : ∃ a vs, v = .ref a ∧ TpA w a vs ∧ xs.length ≤ szL ∧ RDs K w xs vs := by simpa only [RV, RD] using h
theorem RV.lstI {xs : List D} {v : V} (h : RV K w (.lst xs) v) : ∃ a vs, v = .ref a ∧ w.H a = some (.lst vs) ∧ xs.length ≤ szL ∧ RDs K w xs vs := h
theorem RV.strI {s : List Nat} {v : V} (h : RV K w (.str s) v) : v = .str (sv s) ∧ okS s := by simpa only [RV, RD] using h
theorem RV.intI {i : Int} {v : V} (h : RV K w (.int i) v) : v = .int i := by simpa only [RV, RD] using h
theorem RV.blI {i : Bool} {v : V} (h : RV K w (.bl i) v) : v = .bl i := by simpa only [RV, RD] using h
theorem RV.nonI {v : V} (h : RV K w .non v) : v = .non := by simpa only [RV, RD] using h
theorem RV.locI {n : Nat} {v : V} (h : RV K w (.loc n) v) : ∃ a, v = .ref a ∧ w.r[n]? = some a := by simpa only [RV, RD] using h
theorem RV.scrI {ns : List Int} {v : V} (h : RV K w (.scr ns) v) : ∃ a, v = .ref a ∧ ScA K w a (ns.map V.int) := by simpa only [RV, RD] using h
theorem RD.strI {s : List Nat} {v : V} (h : RD K w (.str s) v) : v = .str (sv s) ∧ okS s := by simpa only [RD] using h
theorem RD.intI {i : Int} {v : V} (h : RD K w (.int i) v) : v = .int i := by simpa only [RD] using h
theorem RD.blI {i : Bool} {v : V} (h : RD K w (.bl i) v) : v = .bl i := by simpa only [RD] using h
theorem RD.nonI {v : V} (h : RD K w .non v) : v = .non := by simpa only [RD] using h
theorem RD.tupI {xs : List D} {v : V} (h : RD K w (.tup xs) v) : ∃ a vs, v = .ref a ∧ TpA w a vs ∧ xs.length ≤ szL ∧ RDs K w xs vs := by simpa only [RD] using h
theorem RD.lstI {xs : List D} {v : V} (h : RD K w (.lst xs) v) : ∃ a vs, v = .ref a ∧ LsA w a vs ∧ xs.length ≤ szL ∧ RDs K w xs vs := by simpa only [RD] using h
theorem RD.locI {n : Nat} {v : V} (h : RD K w (.loc n) v) : ∃ a, v = .ref a ∧ w.r[n]? = some a := by simpa only [RD] using h
theorem RV.rd_tup {xs : List D} {v : V} (h : RV K w (.tup xs) v) : RD K w (.tup xs) v := h

theorem sv_len (s : List Nat) : (sv s).length = s.length := by simp [sv, Str.length]
theorem sv_cps (s : List Nat) : (sv s).cps.toList = s := by simp [sv]
theorem sv_app (a b : List Nat) : sv a ++ sv b = sv (a ++ b) := by
  show (⟨a.toArray ++ b.toArray⟩ : Str) = ⟨(a ++ b).toArray⟩
  simp
theorem okS.len {s : List Nat} (h : okS s) : (sv s).length ≤ sizeLine := by rw [sv_len, ← szL_eq]; exact h.1
theorem okS.app {a b : List Nat} (ha : okS a) (hb : okS b) (h : a.length + b.length ≤ szL) : okS (a ++ b) := ⟨by simpa using h, by rw [List.all_append, ha.2, hb.2] <;> rfl⟩
theorem okS.sub {a b : List Nat} (ha : okS a) (h : b.Sublist a) : okS b := ⟨Nat.le_trans h.length_le ha.1, by
  rw [List.all_eq_true] at *
  have := ha.2
  rw [List.all_eq_true] at this
  exact fun x hx => this x (h.subset hx)⟩
theorem sv_inj {a b : List Nat} : sv a = sv b ↔ a = b := by
  constructor
  · intro h
    have := congrArg (fun x : Str => x.cps.toList) h
    simpa [sv] using this
  · intro h; rw [h]
theorem okS.one {s : List Nat} {c : Nat} (h : okS s) (hc : c ∈ s) : okS [c] := h.sub (List.singleton_sublist.mpr hc)

/-! ### + -/
def rAddD (K : PySem.W.Frag) : R2 := fun x y H Q => rI0 (fun i j => .int (i + j)) x y H Q ∨ (∃ i j, x = .str i ∧ y = .str j ∧ i.length + j.length ≤ sizeLine ∧ Q (.str (i ++ j)) H) ∨ rCatF K x y H Q ∨ rCat x y H Q
theorem op_addD {X : Cx} : OpR X (binaryOp .Add) (rAddD X.K) := op_add.or (op_add_str.or (op_catF.or op_cat))
theorem px_add {a b : D} {va vb : V} (hs : RS K w S) (ha : RD K w a va) (hb : RD K w b vb) (h : Aft kx K W σ (RD K) w (pr .add [a, b] S) Q) : rAddD K va vb w.H Q := by
  have ra := RV.of hs ha
  have rb := RV.of hs hb
  simp only [pr] at h
  generalize rs S a = a' at ra h
  generalize rs S b = b' at rb h
  cases a' with
  | int i =>
    cases b' with
    | int j =>
      obtain rfl := ra.intI
      obtain rfl := rb.intI
      exact .inl ⟨i, j, rfl, rfl, h.int hs⟩
    | _ => exact h.elim
  | str x =>
    cases b' with
    | str y =>
      obtain ⟨rfl, ox⟩ := ra.strI
      obtain ⟨rfl, oy⟩ := rb.strI
      obtain ⟨hl, h⟩ := h.gd
      refine .inr (.inl ⟨_, _, rfl, rfl, by rw [sv_len, sv_len, ← szL_eq]; exact hl, ?_⟩)
      rw [sv_app]
      exact h.str hs (ox.app oy hl)
    | _ => exact h.elim
  | tup x =>
    cases b' with
    | tup y =>
      obtain ⟨p, vs, rfl, h1, h2, h3⟩ := ra.tupI
      obtain ⟨q, us, rfl, g1, g2, g3⟩ := rb.tupI
      obtain ⟨hl, h⟩ := h.gd
      have l1 := h3.length
      have l2 := g3.length
      refine .inr (.inr (.inl ⟨p, q, vs, us, rfl, rfl, h1.sq, g1.sq, by rw [l1, l2, ← szL_eq]; exact hl, fun e => ?_, fun _ e => ?_, fun _ _ => ?_⟩))
      · subst e
        have : x = [] := List.eq_nil_of_length_eq_zero l1.symm
        subst this
        exact h.val hs rb
      · subst e
        have : y = [] := List.eq_nil_of_length_eq_zero l2.symm
        subst this
        rw [List.append_nil] at h
        exact h.val hs ra
      · exact h.tup hs (by simpa using hl) (h3.append g3)
    | _ => exact h.elim
  | lst x =>
    cases b' with
    | lst y =>
      obtain ⟨p, vs, rfl, h1, h2, h3⟩ := ra.lstI
      obtain ⟨q, us, rfl, g1, g2, g3⟩ := rb.lstI
      obtain ⟨hl, h⟩ := h.gd
      have l1 := h3.length
      have l2 := g3.length
      exact .inr (.inr (.inr ⟨p, q, vs, us, rfl, rfl, h1, g1, by rw [l1, l2, ← szL_eq]; exact hl, h.lst hs (by simpa using hl) (h3.append g3)⟩))
    | _ => exact h.elim
  | _ => cases b' <;> exact h.elim

/-! ### - % // unary - -/
theorem px_sub {a b : D} {va vb : V} (hs : RS K w S) (ha : RD K w a va) (hb : RD K w b vb) (h : Aft kx K W σ (RD K) w (pr .sub [a, b] S) Q) : rI0 (fun i j => .int (i - j)) va vb w.H Q := by
  cases a with
  | int i =>
    cases b with
    | int j =>
      obtain rfl := ha.intI
      obtain rfl := hb.intI
      simp only [pr] at h
      exact ⟨i, j, rfl, rfl, h.int hs⟩
    | _ => exact h.elim
  | _ => cases b <;> exact h.elim
theorem px_mod {a b : D} {va vb : V} (hs : RS K w S) (ha : RD K w a va) (hb : RD K w b vb) (h : Aft kx K W σ (RD K) w (pr .mod [a, b] S) Q) : rI (fun _ j => 0 < j) (fun i j => .int (i % j)) va vb w.H Q := by
  cases a with
  | int i =>
    cases b with
    | int j =>
      obtain rfl := ha.intI
      obtain rfl := hb.intI
      simp only [pr] at h
      obtain ⟨hc, h⟩ := h.gd
      exact ⟨i, j, rfl, rfl, hc, h.int hs⟩
    | _ => exact h.elim
  | _ => cases b <;> exact h.elim
theorem px_fdiv {a b : D} {va vb : V} (hs : RS K w S) (ha : RD K w a va) (hb : RD K w b vb) (h : Aft kx K W σ (RD K) w (pr .fdiv [a, b] S) Q) : rI CDiv (fun i j => .int (i / j)) va vb w.H Q := by
  cases a with
  | int i =>
    cases b with
    | int j =>
      obtain rfl := ha.intI
      obtain rfl := hb.intI
      simp only [pr] at h
      obtain ⟨hc, h⟩ := h.gd
      exact ⟨i, j, rfl, rfl, hc, h.int hs⟩
    | _ => exact h.elim
  | _ => cases b <;> exact h.elim
theorem px_neg {a : D} {va : V} (hs : RS K w S) (ha : RD K w a va) (h : Aft kx K W σ (RD K) w (pr .neg [a] S) Q) : rU (fun i => .int (-i)) va w.H Q := by
  cases a with
  | int i =>
    obtain rfl := ha.intI
    simp only [pr] at h
    exact ⟨i, rfl, h.int hs⟩
  | _ => exact h.elim

/-! ### * -/
theorem rep_arr (x : Str) (m : Nat) : (List.replicate m x.cps).foldl (fun a b => a ++ b) #[] = ((List.replicate m x.cps.toList).flatten).toArray := by
  have h : ∀ (m : Nat) (acc : Array Nat), (List.replicate m x.cps).foldl (fun a b => a ++ b) acc = acc ++ ((List.replicate m x.cps.toList).flatten).toArray := by
    intro m
    induction m with
    | zero => intro acc; simp
    | succ m ih =>
      intro acc
      rw [List.replicate_succ, List.foldl_cons, ih, List.replicate_succ, List.flatten_cons]
      apply Array.ext'
      simp
  rw [h m #[]]; simp
def rMulS : R2 := fun x y H Q => ∃ i j, x = .str i ∧ y = .int j ∧ 2 ≤ j ∧ j ≤ 1000 ∧ i.length ≤ 1000 ∧ Q (.str ⟨((List.replicate j.toNat i.cps.toList).flatten).toArray⟩) H
theorem op_mulS {X : Cx} : OpR X (binaryOp .Mult) rMulS := by
  intro pins s σ H x y v u Q I rx ry h
  obtain ⟨i, j, rfl, rfl, h1, h2, h3, q⟩ := h
  obtain ⟨t, rfl⟩ := rx
  obtain ⟨t', rfl⟩ := ry
  refine SB.mul (mulOk_of 1000 1000 h3 (by omega) (by omega) (by decide) (by decide)) fun t2 k => ⟨.str _, H, I.tok _, ⟨_, rfl⟩, ?_⟩
  unfold Txt.mul
  rw [if_neg (by omega)]
  by_cases h0 : i.length = 0
  · rw [if_pos (by simp [h0])]
    have e : i.cps.toList = [] := by
      have : i.cps.size = 0 := h0
      simpa using this
    rw [e] at q
    have e2 : i = ⟨#[]⟩ := by
      obtain ⟨c⟩ := i
      simp at e
      rw [e]
    rw [e2]
    simpa using q
  · rw [if_neg (by simp [h0]; omega), rep_arr]
    exact q
def rMulD (K : PySem.W.Frag) : R2 := fun x y H Q => rI CMul (fun i j => .int (i * j)) x y H Q ∨ rRep x y H Q ∨ rRepF K x y H Q ∨ rMulS x y H Q
theorem op_mulD {X : Cx} : OpR X (binaryOp .Mult) (rMulD X.K) := op_mul.or (op_rep.or (op_repF.or op_mulS))
theorem okS.rep {s : List Nat} (h : okS s) {k : Nat} (hl : k * s.length ≤ szL) : okS (List.replicate k s).flatten := by
  refine ⟨by simpa using hl, ?_⟩
  rw [List.all_eq_true]
  intro c hc
  have := h.2
  rw [List.all_eq_true] at this
  obtain ⟨l, hl, hc⟩ := List.mem_flatten.mp hc
  rw [List.eq_of_mem_replicate hl] at hc
  exact this c hc
theorem px_mul {a b : D} {va vb : V} (hs : RS K w S) (ha : RD K w a va) (hb : RD K w b vb) (h : Aft kx K W σ (RD K) w (pr .mul [a, b] S) Q) : rMulD K va vb w.H Q := by
  have ra := RV.of hs ha
  have rb := RV.of hs hb
  simp only [pr] at h
  generalize rs S a = a' at ra h
  generalize rs S b = b' at rb h
  cases b' with
  | int j =>
    obtain rfl := rb.intI
    cases a' with
    | int i =>
      obtain rfl := ra.intI
      obtain ⟨hc, h⟩ := h.gd
      exact .inl ⟨i, j, rfl, rfl, hc, h.int hs⟩
    | str x =>
      obtain ⟨rfl, ox⟩ := ra.strI
      obtain ⟨hc, h⟩ := h.gd
      refine .inr (.inr (.inr ⟨_, j, rfl, rfl, hc.1, hc.2.1, by rw [sv_len]; exact hc.2.2, ?_⟩))
      rw [sv_cps]
      refine h.str hs (ox.rep ?_)
      have : j.toNat * x.length ≤ 1000 * 1000 := Nat.mul_le_mul (by omega) hc.2.2
      unfold szL; omega
    | tup x =>
      obtain ⟨p, vs, rfl, h1, h2, h3⟩ := ra.tupI
      obtain ⟨hc, h⟩ := h.gd
      have l1 := h3.length
      refine .inr (.inr (.inl ⟨p, j, vs, rfl, rfl, h1.sq, hc.1, hc.2.1, by rw [l1]; exact hc.2.2, fun e => ?_, fun _ => h.tup hs ?_ (h3.rep _)⟩))
      · subst e
        have : x = [] := List.eq_nil_of_length_eq_zero l1.symm
        subst this
        rw [show (List.replicate j.toNat ([] : List D)).flatten = [] by simp] at h
        exact h.val hs ra
      · have : j.toNat * x.length ≤ 1000 * 1000 := Nat.mul_le_mul (by omega) hc.2.2
        rw [PyProof.Rows.lm_len_rep_flat]
        unfold szL; omega
    | lst x =>
      obtain ⟨p, vs, rfl, h1, h2, h3⟩ := ra.lstI
      obtain ⟨hc, h⟩ := h.gd
      have l1 := h3.length
      have hm : j.toNat * x.length ≤ 1000 * 1000 := Nat.mul_le_mul (by omega) hc.2.2
      refine .inr (.inl ⟨p, j, vs, rfl, rfl, h1, by omega, by omega, ?_, h.lst hs ?_ (h3.rep _)⟩)
      · rw [l1, Nat.mul_comm, sizeLine_eq]; omega
      · rw [PyProof.Rows.lm_len_rep_flat]
        unfold szL; omega
    | _ => exact h.elim
  | _ => cases a' <;> exact h.elim

/-! ### == != -/
mutual
def D.toP : D → PyData
  | .non => .none
  | .bl b => .bool b
  | .int i => .int i
  | .str s => .str (sv s)
  | .tup xs => .tuple (D.toPs xs)
  | .lst xs => .list (D.toPs xs)
  | .loc _ => .none
  | .scr _ => .none
def D.toPs : List D → List PyData
  | [] => []
  | x :: xs => x.toP :: D.toPs xs
end
mutual
theorem toP_depth : ∀ d : D, d.dp ≤ dpL → d.toP.depth = d.dp
  | .non, _ => by simp only [D.toP, D.dp, PyData.depth]
  | .bl _, _ => by simp only [D.toP, D.dp, PyData.depth]
  | .int _, _ => by simp only [D.toP, D.dp, PyData.depth]
  | .str _, _ => by simp only [D.toP, D.dp, PyData.depth]
  | .tup xs, h => by
    simp only [D.dp] at h
    simp only [D.toP, D.dp, PyData.depth, toPs_depth xs (by omega)]
  | .lst xs, h => by
    simp only [D.dp] at h
    simp only [D.toP, D.dp, PyData.depth, toPs_depth xs (by omega)]
  | .loc _, h => by simp only [D.dp, dpL] at h; omega
  | .scr _, h => by simp only [D.dp, dpL] at h; omega
theorem toPs_depth : ∀ ds : List D, D.dps ds ≤ dpL → PyData.depthAll (D.toPs ds) = D.dps ds
  | [], _ => by simp only [D.toPs, D.dps, PyData.depthAll]
  | x :: xs, h => by
    simp only [D.dps] at h
    simp only [D.toPs, D.dps, PyData.depthAll, toP_depth x (by omega), toPs_depth xs (by omega)]
end
mutual
theorem toP_eqv : ∀ d e : D, d.dp ≤ dpL → e.dp ≤ dpL → PyData.eqv d.toP e.toP = d.eqv e
  | .non, e, _, he => by cases e <;> first | (simp only [D.toP, PyData.eqv, D.eqv]; done) | (simp only [D.dp, dpL] at he; omega)
  | .bl _, e, _, he => by cases e <;> first | (simp only [D.toP, PyData.eqv, D.eqv]; done) | (simp only [D.dp, dpL] at he; omega)
  | .int _, e, _, he => by cases e <;> first | (simp only [D.toP, PyData.eqv, D.eqv]; done) | (simp only [D.dp, dpL] at he; omega)
  | .str a, e, _, he => by
    cases e with
    | str b =>
      simp only [D.toP, PyData.eqv, D.eqv]
      rw [Bool.eq_iff_iff]
      simp [sv_inj]
    | _ => first | (simp only [D.toP, PyData.eqv, D.eqv]; done) | (simp only [D.dp, dpL] at he; omega)
  | .tup xs, e, hd, he => by
    cases e with
    | tup ys =>
      simp only [D.dp] at hd he
      simp only [D.toP, PyData.eqv, D.eqv, toPs_eqv xs ys (by omega) (by omega)]
    | _ => first | (simp only [D.toP, PyData.eqv, D.eqv]; done) | (simp only [D.dp, dpL] at he; omega)
  | .lst xs, e, hd, he => by
    cases e with
    | lst ys =>
      simp only [D.dp] at hd he
      simp only [D.toP, PyData.eqv, D.eqv, toPs_eqv xs ys (by omega) (by omega)]
    | _ => first | (simp only [D.toP, PyData.eqv, D.eqv]; done) | (simp only [D.dp, dpL] at he; omega)
  | .loc _, _, h, _ => by simp only [D.dp, dpL] at h; omega
  | .scr _, _, h, _ => by simp only [D.dp, dpL] at h; omega
theorem toPs_eqv : ∀ ds es : List D, D.dps ds ≤ dpL → D.dps es ≤ dpL → PyData.eqvAll (D.toPs ds) (D.toPs es) = D.eqvs ds es
  | [], [], _, _ => by simp only [D.toPs, PyData.eqvAll, D.eqvs]
  | [], _ :: _, _, _ => by simp only [D.toPs, PyData.eqvAll, D.eqvs]
  | _ :: _, [], _, _ => by simp only [D.toPs, PyData.eqvAll, D.eqvs]
  | x :: xs, y :: ys, h, h' => by
    simp only [D.dps] at h h'
    simp only [D.toPs, PyData.eqvAll, D.eqvs, toP_eqv x y (by omega) (by omega), toPs_eqv xs ys (by omega) (by omega)]
end
mutual
theorem RD.dp : ∀ (d : D) (v : V), d.dp ≤ dpL → RD K w d v → Dp K w.H v d.toP ∧ d.toP.canLay0 = true
  | .non, v, _, h => by obtain rfl := h.nonI; simp only [D.toP, PyData.canLay0]; exact ⟨.non, trivial⟩
  | .bl _, v, _, h => by obtain rfl := h.blI; simp only [D.toP, PyData.canLay0]; exact ⟨.bl _, trivial⟩
  | .int _, v, _, h => by obtain rfl := h.intI; simp only [D.toP, PyData.canLay0]; exact ⟨.int _, trivial⟩
  | .str s, v, _, h => by
    obtain ⟨rfl, ok⟩ := h.strI
    simp only [D.toP, PyData.canLay0]
    refine ⟨.str _, ?_⟩
    have := ok.2
    unfold PyData.strOk sv
    simpa using this
  | .tup xs, v, hd, h => by
    simp only [D.dp] at hd
    obtain ⟨a, vs, rfl, h1, h2, h3⟩ := h.tupI
    obtain ⟨q1, q2⟩ := RDs.dp xs vs (by omega) h3
    simp only [D.toP, PyData.canLay0]
    exact ⟨.tup (h1.sq) q1, q2⟩
  | .lst xs, v, hd, h => by
    simp only [D.dp] at hd
    obtain ⟨a, vs, rfl, h1, h2, h3⟩ := h.lstI
    obtain ⟨q1, q2⟩ := RDs.dp xs vs (by omega) h3
    simp only [D.toP, PyData.canLay0]
    exact ⟨.lst (SqL.of h1.2) q1, q2⟩
  | .loc _, _, h, _ => by simp only [D.dp, dpL] at h; omega
  | .scr _, _, h, _ => by simp only [D.dp, dpL] at h; omega
theorem RDs.dp : ∀ (ds : List D) (vs : List V), D.dps ds ≤ dpL → RDs K w ds vs → DpAll K w.H vs (D.toPs ds) ∧ PyData.canLayAll0 (D.toPs ds) = true
  | [], vs, _, h => by rw [h.nil_inv]; simp only [D.toPs, PyData.canLayAll0]; exact ⟨.nil, trivial⟩
  | x :: xs, vs, hd, h => by
    simp only [D.dps] at hd
    obtain ⟨v, r, rfl, h1, h2⟩ := h.cons_inv
    obtain ⟨a1, a2⟩ := RD.dp x v (by omega) h1
    obtain ⟨b1, b2⟩ := RDs.dp xs r (by omega) h2
    simp only [D.toPs, PyData.canLayAll0, a2, b2]
    exact ⟨.cons a1 b1, rfl⟩
end
theorem RV.dp {d : D} {v : V} (hd : d.dp ≤ dpL) (h : RV K w d v) : Dp K w.H v d.toP ∧ d.toP.canLay0 = true := by
  cases d with
  | lst xs =>
    simp only [D.dp] at hd
    obtain ⟨a, vs, rfl, h1, h2, h3⟩ := h.lstI
    obtain ⟨q1, q2⟩ := RDs.dp xs vs (by omega) h3
    simp only [D.toP, PyData.canLay0]
    exact ⟨.lst (SqL.of h1) q1, q2⟩
  | _ => exact RD.dp _ v hd h
def rEqX (K : PySem.W.Frag) : R2 := fun x y H Q => ∃ d e, Dp K H x d ∧ Dp K H y e ∧ d.canLay0 = true ∧ e.canLay0 = true ∧ d.depth ≤ 190 ∧ Q (.bl (PyData.eqv d e)) H
def rNeX (K : PySem.W.Frag) : R2 := fun x y H Q => ∃ d e, Dp K H x d ∧ Dp K H y e ∧ d.canLay0 = true ∧ e.canLay0 = true ∧ d.depth ≤ 190 ∧ Q (.bl (!PyData.eqv d e)) H
theorem op_eqX {X : Cx} (hu : X.A.units + 200 < cLine) : OpR X (compareOp .Eq) (rEqX X.K) := by
  intro pins s σ H x y v u Q I rx ry h
  obtain ⟨d, e, hd, he, sd, se, hz, q⟩ := h
  obtain ⟨as, r1⟩ := Dp.reads I d x v hd rx
  obtain ⟨bs, r2⟩ := Dp.reads I e y u he ry
  exact SeqAt.compareEq_reads r1 r2 sd se (by have := Nat.min_le_left d.depth e.depth; omega) ⟨.bl _, H, I, rfl, q⟩
theorem op_neX {X : Cx} (hu : X.A.units + 200 < cLine) : OpR X (compareOp .NotEq) (rNeX X.K) := by
  intro pins s σ H x y v u Q I rx ry h
  obtain ⟨d, e, hd, he, sd, se, hz, q⟩ := h
  obtain ⟨as, r1⟩ := Dp.reads I d x v hd rx
  obtain ⟨bs, r2⟩ := Dp.reads I e y u he ry
  exact SeqAt.compareNe_reads r1 r2 sd se (by have := Nat.min_le_left d.depth e.depth; omega) ⟨.bl _, H, I, rfl, q⟩
theorem px_eq {a b : D} {va vb : V} (hs : RS K w S) (ha : RD K w a va) (hb : RD K w b vb) (h : Aft kx K W σ (RD K) w (pr .eq [a, b] S) Q) : rEqX K va vb w.H Q := by
  have ra := RV.of hs ha
  have rb := RV.of hs hb
  simp only [pr] at h
  obtain ⟨⟨h1, h2⟩, h⟩ := h.gd
  obtain ⟨p1, p2⟩ := ra.dp h1
  obtain ⟨q1, q2⟩ := rb.dp h2
  refine ⟨_, _, p1, q1, p2, q2, by rw [toP_depth _ h1]; exact h1, ?_⟩
  rw [toP_eqv _ _ h1 h2]
  exact h.bl hs
theorem px_ne {a b : D} {va vb : V} (hs : RS K w S) (ha : RD K w a va) (hb : RD K w b vb) (h : Aft kx K W σ (RD K) w (pr .ne [a, b] S) Q) : rNeX K va vb w.H Q := by
  have ra := RV.of hs ha
  have rb := RV.of hs hb
  simp only [pr] at h
  obtain ⟨⟨h1, h2⟩, h⟩ := h.gd
  obtain ⟨p1, p2⟩ := ra.dp h1
  obtain ⟨q1, q2⟩ := rb.dp h2
  refine ⟨_, _, p1, q1, p2, q2, by rw [toP_depth _ h1]; exact h1, ?_⟩
  rw [toP_eqv _ _ h1 h2]
  exact h.bl hs
end
end Eng

/-! Eng4 -/
set_option Elab.async false
set_option linter.all false
set_option maxRecDepth 100000
set_option maxHeartbeats 4000000
/-! More operations. -/
namespace Eng
open PySem PySem.Spec PyProof.Rows L2
section
variable {kx : Nat → Value} {K : PySem.W.Frag} {W : WX} {σ : L2.St} {w w' : Wd} {S : Sto} {Q : VK}

/-! ### < <= > >= -/
def rLtD : R2 := fun x y H Q => rI0 (fun i j => .bl (decide (i < j))) x y H Q ∨ ∃ i j, x = .str i ∧ y = .str j ∧ Q (.bl (decide (i.cps.toList < j.cps.toList))) H
def rLeD : R2 := fun x y H Q => rI0 (fun i j => .bl (decide (i ≤ j))) x y H Q ∨ ∃ i j, x = .str i ∧ y = .str j ∧ Q (.bl (!decide (j.cps.toList < i.cps.toList))) H
theorem op_ltD {X : Cx} : OpR X (compareOp .Lt) rLtD := op_lt.or op_lt_str
theorem op_leD {X : Cx} : OpR X (compareOp .LtE) rLeD := op_le.or op_le_str
theorem px_lt {a b : D} {va vb : V} (hs : RS K w S) (ha : RD K w a va) (hb : RD K w b vb) (h : Aft kx K W σ (RD K) w (pr .lt [a, b] S) Q) : rLtD va vb w.H Q := by
  cases a with
  | int i =>
    cases b with
    | int j =>
      obtain rfl := ha.intI
      obtain rfl := hb.intI
      simp only [pr] at h
      exact .inl ⟨i, j, rfl, rfl, h.bl hs⟩
    | _ => exact h.elim
  | str x =>
    cases b with
    | str y =>
      obtain ⟨rfl, ox⟩ := ha.strI
      obtain ⟨rfl, oy⟩ := hb.strI
      simp only [pr, strLt] at h
      refine .inr ⟨_, _, rfl, rfl, ?_⟩
      rw [sv_cps, sv_cps]
      exact h.bl hs
    | _ => exact h.elim
  | _ => cases b <;> exact h.elim
theorem px_le {a b : D} {va vb : V} (hs : RS K w S) (ha : RD K w a va) (hb : RD K w b vb) (h : Aft kx K W σ (RD K) w (pr .le [a, b] S) Q) : rLeD va vb w.H Q := by
  cases a with
  | int i =>
    cases b with
    | int j =>
      obtain rfl := ha.intI
      obtain rfl := hb.intI
      simp only [pr] at h
      exact .inl ⟨i, j, rfl, rfl, h.bl hs⟩
    | _ => exact h.elim
  | str x =>
    cases b with
    | str y =>
      obtain ⟨rfl, ox⟩ := ha.strI
      obtain ⟨rfl, oy⟩ := hb.strI
      simp only [pr, strLt] at h
      refine .inr ⟨_, _, rfl, rfl, ?_⟩
      rw [sv_cps, sv_cps]
      exact h.bl hs
    | _ => exact h.elim
  | _ => cases b <;> exact h.elim
theorem px_gt {a b : D} {va vb : V} (hs : RS K w S) (ha : RD K w a va) (hb : RD K w b vb) (h : Aft kx K W σ (RD K) w (pr .gt [a, b] S) Q) : rI0 (fun i j => .bl (decide (j < i))) va vb w.H Q := by
  cases a with
  | int i =>
    cases b with
    | int j =>
      obtain rfl := ha.intI
      obtain rfl := hb.intI
      simp only [pr] at h
      exact ⟨i, j, rfl, rfl, h.bl hs⟩
    | _ => exact h.elim
  | _ => cases b <;> exact h.elim
theorem px_ge {a b : D} {va vb : V} (hs : RS K w S) (ha : RD K w a va) (hb : RD K w b vb) (h : Aft kx K W σ (RD K) w (pr .ge [a, b] S) Q) : rI0 (fun i j => .bl (decide (j ≤ i))) va vb w.H Q := by
  cases a with
  | int i =>
    cases b with
    | int j =>
      obtain rfl := ha.intI
      obtain rfl := hb.intI
      simp only [pr] at h
      exact ⟨i, j, rfl, rfl, h.bl hs⟩
    | _ => exact h.elim
  | _ => cases b <;> exact h.elim

/-! ### in, not in -/
def rInX (K : PySem.W.Frag) (neg : Bool) : R2 := fun x y H Q => ∃ d ds, Dp K H x d ∧ (Dp K H y (.list ds) ∨ Dp K H y (.tuple ds)) ∧ d.canLay0 = true ∧ PyData.canLayAll0 ds = true ∧ d.depth ≤ 190 ∧
  Q (.bl (if neg then !ds.any (fun z => PyData.eqv z d) else ds.any fun z => PyData.eqv z d)) H
theorem op_inX {X : Cx} (hu : X.A.units + 200 < cLine) : OpR X (compareOp .In) (rInX X.K false) := by
  intro pins s σ H x y v u Q I rx ry h
  obtain ⟨d, ds, hd, he, sd, se, hz, q⟩ := h
  obtain ⟨as, r1⟩ := Dp.reads I d x v hd rx
  have hm : X.A.units + 1 + min (PyData.depthAll ds) d.depth < cLine := by have := Nat.min_le_right (PyData.depthAll ds) d.depth; omega
  rcases he with he | he
  · obtain ⟨bs, r2⟩ := Dp.reads I (.list ds) y u he ry
    exact SeqAt.in_list_reads r2 r1 se sd hm ⟨.bl _, H, I, rfl, q⟩
  · obtain ⟨bs, r2⟩ := Dp.reads I (.tuple ds) y u he ry
    exact SeqAt.in_tuple_reads r2 r1 se sd hm ⟨.bl _, H, I, rfl, q⟩
theorem op_notInX {X : Cx} (hu : X.A.units + 200 < cLine) : OpR X (compareOp .NotIn) (rInX X.K true) := by
  intro pins s σ H x y v u Q I rx ry h
  obtain ⟨d, ds, hd, he, sd, se, hz, q⟩ := h
  obtain ⟨as, r1⟩ := Dp.reads I d x v hd rx
  have hm : X.A.units + 1 + min (PyData.depthAll ds) d.depth < cLine := by have := Nat.min_le_right (PyData.depthAll ds) d.depth; omega
  rcases he with he | he
  · obtain ⟨bs, r2⟩ := Dp.reads I (.list ds) y u he ry
    exact SeqAt.notIn_list_reads r2 r1 se sd hm ⟨.bl _, H, I, rfl, q⟩
  · obtain ⟨bs, r2⟩ := Dp.reads I (.tuple ds) y u he ry
    exact SeqAt.notIn_tuple_reads r2 r1 se sd hm ⟨.bl _, H, I, rfl, q⟩
def rInSg (neg : Bool) : R2 := fun x y H Q => ∃ (c : Nat) (z : Str), x = .str ⟨#[c]⟩ ∧ y = .str z ∧ Q (.bl (if neg then !decide (c ∈ z.cps.toList) else decide (c ∈ z.cps.toList))) H
def rInD2 (K : PySem.W.Frag) (neg : Bool) : R2 := fun x y H Q => rInSg neg x y H Q ∨ rInX K neg x y H Q
theorem op_isin {X : Cx} (hu : X.A.units + 200 < cLine) : OpR X (compareOp .In) (rInD2 X.K false) := OpR.or (r := rInSg false) (fun pins s σ H x y v u Q I rx ry h => op_in_sign pins s σ H x y v u Q I rx ry h) (op_inX hu)
theorem op_notin {X : Cx} (hu : X.A.units + 200 < cLine) : OpR X (compareOp .NotIn) (rInD2 X.K true) := OpR.or (r := rInSg true) (fun pins s σ H x y v u Q I rx ry h => op_notIn_sign pins s σ H x y v u Q I rx ry h) (op_notInX hu)
theorem any_toP (a : D) (ha : a.dp ≤ dpL) : ∀ xs : List D, D.dps xs ≤ dpL → (D.toPs xs).any (fun z => PyData.eqv z a.toP) = xs.any (fun y => y.eqv a)
  | [], _ => by simp only [D.toPs, List.any_nil]
  | x :: xs, h => by
    simp only [D.dps] at h
    simp only [D.toPs, List.any_cons, toP_eqv x a (by omega) ha, any_toP a ha xs (by omega)]
theorem px_in {a b : D} {va vb : V} {neg : Bool} (hs : RS K w S) (ha : RD K w a va) (rb : RV K w b vb) (hb : ∀ n, b ≠ .loc n) (h : Aft kx K W σ (RD K) w (pr.isIn a b S (!neg)) Q) : rInD2 K neg va vb w.H Q := by
  cases b with
  | str s =>
    obtain ⟨rfl, ob⟩ := rb.strI
    cases a with
    | str t =>
      obtain ⟨rfl, oa⟩ := ha.strI
      cases t with
      | nil => exact h.elim
      | cons c r =>
        cases r with
        | nil =>
          simp only [pr.isIn] at h
          refine .inl ⟨c, _, rfl, rfl, ?_⟩
          rw [sv_cps]
          cases neg
          · exact h.bl hs
          · exact h.bl hs
        | cons _ _ => exact h.elim
    | _ => exact h.elim
  | lst xs =>
    have h' : Aft kx K W σ (RD K) w (gd (a.dp ≤ dpL ∧ (D.lst xs).dp ≤ dpL) (.bl (if (!neg) = true then xs.any (fun y => y.eqv a) else !xs.any (fun y => y.eqv a))) S) Q := by
      cases a <;> (try exact h)
      rename_i t
      cases t with
      | nil => exact h
      | cons _ r => cases r <;> exact h
    obtain ⟨⟨h1, h2⟩, h'⟩ := h'.gd
    obtain ⟨p1, p2⟩ := RD.dp a va h1 ha
    obtain ⟨q1, q2⟩ := rb.dp h2
    simp only [D.dp] at h2
    simp only [D.toP] at q1
    simp only [D.toP, PyData.canLay0] at q2
    refine .inr ⟨_, _, p1, .inl q1, p2, q2, by rw [toP_depth _ h1]; exact h1, ?_⟩
    rw [any_toP a h1 xs (by omega)]
    cases neg
    · exact h'.bl hs
    · exact h'.bl hs
  | tup xs =>
    have h' : Aft kx K W σ (RD K) w (gd (a.dp ≤ dpL ∧ (D.tup xs).dp ≤ dpL) (.bl (if (!neg) = true then xs.any (fun y => y.eqv a) else !xs.any (fun y => y.eqv a))) S) Q := by
      cases a <;> (try exact h)
      rename_i t
      cases t with
      | nil => exact h
      | cons _ r => cases r <;> exact h
    obtain ⟨⟨h1, h2⟩, h'⟩ := h'.gd
    obtain ⟨p1, p2⟩ := RD.dp a va h1 ha
    obtain ⟨q1, q2⟩ := rb.dp h2
    simp only [D.dp] at h2
    simp only [D.toP] at q1
    simp only [D.toP, PyData.canLay0] at q2
    refine .inr ⟨_, _, p1, .inr q1, p2, q2, by rw [toP_depth _ h1]; exact h1, ?_⟩
    rw [any_toP a h1 xs (by omega)]
    cases neg
    · exact h'.bl hs
    · exact h'.bl hs
  | loc n => exact absurd rfl (hb n)
  | _ => cases a <;> (try exact h.elim)
         rename_i t
         cases t with
         | nil => exact h.elim
         | cons _ r => cases r <;> exact h.elim

/-! ### is None, is True -/
def rIsD : R2 := fun x y H Q => (y = .non ∧ Q (.bl (decide (x = .non))) H) ∨ rIsB x y H Q
def rNotD : R2 := fun x y H Q => (y = .non ∧ Q (.bl (!decide (x = .non))) H) ∨ rNotB x y H Q
theorem op_isD {X : Cx} : OpR X (compareOp .Is) rIsD := op_isN.or op_isBl
theorem op_notD {X : Cx} : OpR X (compareOp .IsNot) rNotD := op_notN.or op_notBl
theorem RD.non_iff {d : D} {v : V} (h : RD K w d v) : decide (v = .non) = decide (d = .non) := by
  cases d with
  | non => rw [h.nonI] <;> rfl
  | bl b => rw [h.blI] <;> rfl
  | int b => rw [h.intI] <;> rfl
  | str b => rw [h.strI.1] <;> rfl
  | tup b => obtain ⟨a, vs, rfl, _⟩ := h.tupI; rfl
  | lst b => obtain ⟨a, vs, rfl, _⟩ := h.lstI; rfl
  | loc b => obtain ⟨a, rfl, _⟩ := h.locI; rfl
  | scr b => obtain ⟨a, rfl, _⟩ := h.rv.scrI; rfl
theorem px_isc {a : D} {va vc : V} {c : D} (hs : RS K w S) (ha : RD K w a va) (hc : RD K w c vc) (h : Aft kx K W σ (RD K) w (pr (.isc c) [a] S) Q) : rIsD va vc w.H Q := by
  simp only [pr, pr.isC] at h
  cases c with
  | non =>
    obtain rfl := hc.nonI
    simp only [if_true] at h
    refine .inl ⟨rfl, ?_⟩
    rw [ha.non_iff]
    exact h.bl hs
  | bl b =>
    obtain rfl := hc.blI
    cases a with
    | bl b' =>
      obtain rfl := ha.blI
      simp only [if_true] at h
      exact .inr ⟨b', b, rfl, rfl, h.bl hs⟩
    | _ => exact h.elim
  | _ => exact h.elim
theorem px_isntc {a : D} {va vc : V} {c : D} (hs : RS K w S) (ha : RD K w a va) (hc : RD K w c vc) (h : Aft kx K W σ (RD K) w (pr (.isntc c) [a] S) Q) : rNotD va vc w.H Q := by
  simp only [pr, pr.isC] at h
  cases c with
  | non =>
    obtain rfl := hc.nonI
    simp only [Bool.false_eq_true, if_false] at h
    refine .inl ⟨rfl, ?_⟩
    rw [ha.non_iff]
    exact h.bl hs
  | bl b =>
    obtain rfl := hc.blI
    cases a with
    | bl b' =>
      obtain rfl := ha.blI
      simp only [Bool.false_eq_true, if_false] at h
      exact .inr ⟨b', b, rfl, rfl, h.bl hs⟩
    | _ => exact h.elim
  | _ => exact h.elim

/-! ### truth -/
theorem tru_of {d : D} {v : V} {b : Bool} (hs : RS K w S) (h : RD K w d v) (e : truth S d = some b) : TruV K v w.H b := by
  cases d with
  | non => rw [h.nonI]; simp only [truth, Option.some.injEq] at e; exact e.symm
  | bl x => rw [h.blI]; simp only [truth, Option.some.injEq] at e; exact e.symm
  | int x => rw [h.intI]; simp only [truth, Option.some.injEq] at e; exact e.symm
  | str x =>
    obtain ⟨rfl, ok⟩ := h.strI
    simp only [truth, Option.some.injEq] at e
    refine ⟨ok.len, ?_⟩
    rw [← e, sv_len]
    cases x with
    | nil => rfl
    | cons a b => simp; omega
  | tup xs =>
    obtain ⟨a, vs, rfl, h1, h2, h3⟩ := h.tupI
    simp only [truth, Option.some.injEq] at e
    refine .inr (.inl ⟨vs, h1.sq, ?_⟩)
    rw [← e]
    have := h3.length
    cases xs <;> cases vs <;> simp at this ⊢
  | lst xs =>
    obtain ⟨a, vs, rfl, h1, h2, h3⟩ := h.lstI
    simp only [truth, Option.some.injEq] at e
    refine .inl ⟨vs, SqL.of h1.2, ?_⟩
    rw [← e]
    have := h3.length
    cases xs <;> cases vs <;> simp at this ⊢
  | scr xs => simp only [truth] at e; cases e
  | loc n =>
    obtain ⟨a, rfl, h1⟩ := h.locI
    obtain ⟨m, e1, e2⟩ := hs.loc h1
    simp only [truth, e1] at e
    cases m with
    | lst xs =>
      simp only [Option.some.injEq] at e
      obtain ⟨vs, q1, q2, q3⟩ := e2
      refine .inl ⟨vs, SqL.of q1, ?_⟩
      rw [← e]
      have := q3.length
      cases xs <;> cases vs <;> simp at this ⊢
    | dct kvs =>
      simp only [Option.some.injEq] at e
      obtain ⟨ks, q1, q2, q3⟩ := e2
      refine .inr (.inr ⟨ks, q1, ?_⟩)
      rw [← e]
      cases kvs with
      | nil => rw [show ks = [] from q3] <;> rfl
      | cons p r => obtain ⟨v, r', rfl, _⟩ := q3; rfl
    | dtt kvs => cases e
end
end Eng

/-! Eng5 -/
set_option Elab.async false
set_option linter.all false
set_option maxRecDepth 100000
set_option maxHeartbeats 4000000
/-! Subscripts, slices, built-ins. -/
namespace Eng
open PySem PySem.Spec PyProof.Rows L2
section
variable {kx : Nat → Value} {K : PySem.W.Frag} {W : WX} {σ : L2.St} {w w' : Wd} {S : Sto} {Q : VK}

/-! ### x[i] -/
theorem ixN_eq (n : Nat) (i : Int) : Eng.ixN n i = L2.ixN n i := rfl
theorem atI_rds {xs : List D} {vs : List V} {i : Int} {d : D} (h : RDs K w xs vs) (e : Eng.atI xs i = some d) : ∃ v, L2.atI vs i = some v ∧ RD K w d v := by
  unfold Eng.atI at e
  unfold L2.atI
  rw [h.length, ← ixN_eq]
  cases q : Eng.ixN xs.length i with
  | none => rw [q] at e; cases e
  | some j =>
    rw [q] at e
    obtain ⟨v, e1, e2⟩ := h.get (i := j) (d := d) e
    exact ⟨v, e1, e2⟩
theorem atI_map {a b : Type} (f : a → b) (xs : List a) (i : Int) : L2.atI (xs.map f) i = (Eng.atI xs i).map f := by
  unfold Eng.atI L2.atI
  rw [List.length_map, ← ixN_eq]
  cases Eng.ixN xs.length i with
  | none => rfl
  | some j => simp
theorem atI_same {a : Type} (xs : List a) (i : Int) : L2.atI xs i = Eng.atI xs i := rfl
theorem atI_mem {a : Type} {xs : List a} {i : Int} {x : a} (h : Eng.atI xs i = some x) : x ∈ xs := by
  unfold Eng.atI at h
  cases q : Eng.ixN xs.length i with
  | none => rw [q] at h; cases h
  | some j => rw [q] at h; exact List.mem_of_getElem? h
theorem px_idx {a i : D} {va vi : V} (hs : RS K w S) (ha : RD K w a va) (hi : RD K w i vi) (hd : ∀ n, rs S a ≠ .loc n) (h : Aft kx K W σ (RD K) w (pr .idx [a, i] S) Q) : rIx K va vi w.H Q := by
  have ra := RV.of hs ha
  simp only [pr] at h
  generalize rs S a = a' at ra h hd
  cases i with
  | int i =>
    obtain rfl := hi.intI
    cases a' with
    | tup xs =>
      obtain ⟨p, vs, rfl, h1, h2, h3⟩ := ra.tupI
      obtain ⟨x, e, h⟩ := h.ofO
      obtain ⟨v, e1, e2⟩ := atI_rds h3 e
      exact .inr (.inl ⟨p, vs, i, v, rfl, rfl, h1.sq, e1, h.val hs e2⟩)
    | lst xs =>
      obtain ⟨p, vs, rfl, h1, h2, h3⟩ := ra.lstI
      obtain ⟨x, e, h⟩ := h.ofO
      obtain ⟨v, e1, e2⟩ := atI_rds h3 e
      exact .inl ⟨p, vs, i, v, rfl, rfl, SqL.of h1, e1, h.val hs e2⟩
    | str x =>
      obtain ⟨rfl, ox⟩ := ra.strI
      obtain ⟨x', e, h⟩ := h.ofO
      obtain ⟨c, e1, rfl⟩ := Option.map_eq_some_iff.mp e
      refine .inr (.inr ⟨_, i, c, rfl, rfl, ox.len, by rw [sv_cps, atI_same]; exact e1, ?_⟩)
      exact h.str hs (ox.one (atI_mem e1))
    | scr ns =>
      obtain ⟨p, rfl, h1⟩ := ra.scrI
      obtain ⟨x', e, h⟩ := h.ofO
      obtain ⟨n, e1, rfl⟩ := Option.map_eq_some_iff.mp e
      exact .inl ⟨p, _, i, .int n, rfl, rfl, h1.sq, by rw [atI_map, e1] <;> rfl, h.int hs⟩
    | loc n => exact absurd rfl (hd n)
    | _ => exact h.elim
  | _ => cases a' <;> first | exact absurd rfl (hd _) | exact h.elim

/-! ### x[lo:hi] -/
theorem sIx_eq (n d : Nat) (o : Option Int) : HT.sIx n d o = Eng.sIx n d o := by cases o <;> rfl
theorem cutV_eq (xs : List V) (lo hi : Option Int) : cutV xs lo hi = cut xs lo hi := by
  unfold cutV cut
  rw [sIx_eq, sIx_eq]
theorem cut_sub {a : Type} (xs : List a) (lo hi : Option Int) : (cut xs lo hi).Sublist xs := by
  unfold cut
  exact (List.take_sublist _ _).trans (List.drop_sublist _ _)
theorem RDs.cut {xs : List D} {vs : List V} (h : RDs K w xs vs) (lo hi : Option Int) : RDs K w (Eng.cut xs lo hi) (Eng.cut vs lo hi) := by
  unfold Eng.cut
  rw [h.length]
  exact (h.drop _).take _
def rSlD (K : PySem.W.Frag) : V → Option Int → Option Int → Hp → VK → Prop := fun x lo hi H Q => rSlL K x lo hi H Q ∨ rSlF K x lo hi H Q ∨ rSlS x lo hi H Q
theorem sl_D {X : Cx} : SlR X (rSlD X.K) := sl_list.or (sl_tupF.or sl_str)
theorem px_slc {a : D} {va : V} {lo hi : Option Int} (hs : RS K w S) (ra : RV K w a va) (h : Aft kx K W σ (RD K) w (pr.cutD a lo hi S) Q) : rSlD K va lo hi w.H Q := by
  cases a with
  | lst xs =>
    obtain ⟨p, vs, rfl, h1, h2, h3⟩ := ra.lstI
    simp only [pr.cutD] at h
    refine .inl ⟨p, vs, rfl, SqL.of h1, ?_⟩
    rw [cutV_eq]
    exact h.lst hs (Nat.le_trans (cut_sub _ _ _).length_le h2) (h3.cut lo hi)
  | tup xs =>
    obtain ⟨p, vs, rfl, h1, h2, h3⟩ := ra.tupI
    simp only [pr.cutD] at h
    refine .inr (.inl ⟨p, vs, rfl, h1.sq, fun e => ?_, fun _ => ?_⟩)
    · have l := h3.length
      rw [sIx_eq, sIx_eq, l] at e
      have e3 : cut xs lo hi = xs := by
        unfold cut
        rw [e.1, e.2]
        simp
      rw [e3] at h
      exact h.val hs ra
    · rw [cutV_eq]
      exact h.tup hs (Nat.le_trans (cut_sub _ _ _).length_le h2) (h3.cut lo hi)
  | str x =>
    obtain ⟨rfl, ox⟩ := ra.strI
    simp only [pr.cutD] at h
    refine .inr (.inr ⟨_, rfl, ox.len, ?_⟩)
    have e : cutS (sv x) lo hi = sv (cut x lo hi) := by
      unfold cutS cut
      rw [sv_cps, sv_len, sIx_eq, sIx_eq] <;> rfl
    rw [e]
    exact h.str hs (ox.sub (cut_sub _ _ _))
  | _ => exact h.elim

/-! ### x[::-1] -/
theorem fm_congr {f g : Nat → Option Value} : ∀ l : List Nat, (∀ m ∈ l, f m = g m) → l.filterMap f = l.filterMap g
  | [], _ => rfl
  | a :: l, h => by
    rw [List.filterMap_cons, List.filterMap_cons, h a List.mem_cons_self, fm_congr l fun m hm => h m (List.mem_cons_of_mem _ hm)]
theorem pick_rev (xs : Array Value) : ((List.range xs.size).filterMap fun (m : Nat) => xs[(((xs.size : Int) - 1) + (m : Int) * (-1)).toNat]?).toArray = xs.toList.reverse.toArray := by
  have h : ∀ (l : List Value), (List.range l.length).filterMap (fun (m : Nat) => l[l.length - 1 - m]?) = l.reverse := by
    intro l
    apply List.ext_getElem?
    intro i
    have e : (List.range l.length).filterMap (fun (m : Nat) => l[l.length - 1 - m]?) = (List.range l.length).filterMap (fun (m : Nat) => l.reverse[m]?) := by
      apply fm_congr
      intro m hm
      have hm' : m < l.length := List.mem_range.mp hm
      rw [List.getElem?_reverse hm']
    rw [e]
    have e2 : ∀ (r : List Value), (List.range r.length).filterMap (fun (m : Nat) => r[m]?) = r := by
      intro r
      induction r with
      | nil => rfl
      | cons a r ih =>
        rw [List.length_cons, List.range_succ_eq_map, List.filterMap_cons]
        simp only [List.getElem?_cons_zero, List.filterMap_map]
        congr 1
    rw [← List.length_reverse (as := l), e2]
  congr 1
  rw [← h xs.toList]
  simp only [Array.length_toList]
  apply fm_congr
  intro m hm
  have hm' : m < xs.size := List.mem_range.mp hm
  have : (((xs.size : Int) - 1) + (m : Int) * (-1)).toNat = xs.size - 1 - m := by omega
  rw [this, Array.getElem?_toList]
theorem getItem_tuple_rev {prog : Program} {wd : World} {A : Around} {E : Value → Shared → Prop} {s : Shared} {t sl : Addr} {items : Array Value} {vl vu vk : Value} {Q : Value → Shared → Prop} (ht : IsTup s.heap t items) (hs : s.heap.IsSliceOf sl vl vu vk)
    (pl : IsPart vl none) (pu : IsPart vu none) (pk : IsPart vk (some (-1))) (h : Q (.ref s.heap.objs.size) { s with heap := s.heap.push { cls := .type "tuple", data := .seq items.toList.reverse.toArray } })
    (hsz : items.size ≤ sizeLine) : wpAny (model prog wd) A (getItem (.ref t) (.ref sl)) Q E s := by
  have htake : sizeOk (.seq items.toList.reverse.toArray) := by
    show items.toList.reverse.toArray.size ≤ sizeLine
    simpa using hsz
  obtain ⟨os, hos, hcs, hds⟩ := id hs
  have hTs : s.TypeIs (.ref sl) "slice" := ⟨os, hos, hcs⟩
  unfold getItem
  try with_reducible refine wpAny_holding ?_
  first | refine wpAny_bind (wpAny_pure ?_) | skip
  refine wpAny_bind (wpAny_sequenceKey ht.typeIs (by decide) ?_)
  refine wpAny_bind (wpAny_callSpecial?_slot (name := Str.ofString "__getitem__") ht.typeIs PyProof.Rows.slot_tuple_getitem
    (wpAny_call_entry PyProof.Rows.slot_tuple_getitem ht.typeIs entry_tuple_getitem ?_ (args_tuple_getitem _ _)))
  show wpAny _ _ (Builtin.Tuple.tupleItemsOf (.ref t) >>= _) _ _ s
  refine wpAny_bind (tupleItemsOf_ ht ?_)
  refine wpAny_bind (wpAny_typeOf hTs ?_)
  rw [if_pos (by decide)]
  have hap : ∀ {A : Around} {E : Value → Shared → Prop} {Q : Int × Int × Nat → Shared → Prop}, Q ((items.size : Int) - 1, -1, items.size) s → wpAny (model prog wd) A (Builtin.Slice.sliceApplied (.ref sl) (pure (items.size : Int))) Q E s := by
    intro A E Q hq
    unfold Builtin.Slice.sliceApplied Builtin.Slice.sliceFields
    refine wpAny_bind (wpAny_bind (wpAny_field hos hds (x := vl) rfl (wpAny_bind (wpAny_field hos hds (x := vu) rfl (wpAny_bind (wpAny_field hos hds (x := vk) rfl (wpAny_pure ?_)))))))
    refine wpAny_bind (HT.slicePart_ pk ?_)
    show wpAny _ _ (if ((-1 : Int) == 0) = true then _ else _) _ _ s
    rw [if_neg (by decide)]
    refine wpAny_bind (HT.slicePart_ pl (wpAny_bind (HT.slicePart_ pu (wpAny_bind (wpAny_pure ?_)))))
    show wpAny _ _ (pure (((items.size : Int) - 1), (-1 : Int), Builtin.Slice.slicePlaces ((items.size : Int) - 1) (-1) (-1))) _ _ s
    have e : Builtin.Slice.slicePlaces ((items.size : Int) - 1) (-1) (-1) = items.size := by
      unfold Builtin.Slice.slicePlaces
      rw [if_neg (by decide)]
      split
      · have : -(-1 : Int) = 1 := by decide
        rw [this, Int.ediv_one]
        omega
      · omega
    rw [e]
    exact wpAny_pure hq
  refine wpAny_bind (hap ?_)
  have hno : ¬ ((((items.size : Int) - 1) == 0 && (-1 : Int) == 1 && items.size == items.size) = true) := by simp
  show wpAny _ _ (if ((((items.size : Int) - 1) == 0 && (-1 : Int) == 1 && items.size == items.size) = true) then _ else _) _ _ s
  rw [if_neg hno, pick_rev]
  first
    | exact wpAny_bind (m := Builtin.Tuple.tupleExact _) (wpAny_newObj_type (wpAny_pure ⟨_, rfl, wpAny_pure h⟩) htake)
    | exact wpAny_bind (m := Builtin.Tuple.tupleExact _) (wpAny_newObj_type (wpAny_bind (wpAny_pure (wpAny_pure ⟨_, rfl, wpAny_pure h⟩))) htake)
    | exact wpAny_bind (wpAny_bind (m := Builtin.Tuple.tupleExact _) (wpAny_newObj_type (wpAny_pure (wpAny_pure ⟨_, rfl, wpAny_pure h⟩)) htake))
    | exact wpAny_bind (wpAny_bind (m := Builtin.Tuple.tupleExact _) (wpAny_newObj_type (wpAny_pure ⟨_, rfl, wpAny_pure h⟩) htake))
/-- a list or a tuple turned round -/
def tRevD (K : PySem.W.Frag) (te : TE) : TE := fun σ H Q => te σ H fun x H1 => (∃ a xs, x = .ref a ∧ SqL K H1 a xs ∧ ∀ p, H1 p = none → Q (.ref p) (upd H1 p (.lst xs.reverse))) ∨
  (∃ a xs, x = .ref a ∧ SqT K H1 a xs ∧ NewT H1 xs.reverse Q)
theorem pe_revD {X : Cx} {e : Expr} {te : TE} {k : Nat} {p1 p2 p3 pos : Pos} (he : PE X e te) : PE X (.Subscript e (.Slice none none (some (.UnaryOp .USub (.Constant (.int 1) k p1) p2)) p3) pos) (tRevD X.K te) := by
  refine ⟨fun pins s σ H Q I h => ?_⟩
  refine Subscript_ (thn (he.run pins s σ H _ I h) fun v s1 ⟨x, H1, I1, r1, q1⟩ => ?_)
  have hst : PO X (some (.UnaryOp .USub (.Constant (.int 1) k p1) p2)) (tPart (tUn (rU fun i => .int (-i)) (tC (.int 1)))) := po_some (pe_un un_neg pe_int)
  refine wpAny_Slice (thn (po_none.run pins s1 σ H1 (fun o H2 => o = none ∧ H2 = H1) I1 ⟨rfl, rfl⟩) fun vl s2 ⟨l, H2, I2, pl, el, e2⟩ => ?_)
  subst el e2
  refine thn (po_none.run pins s2 σ H2 (fun o H3 => o = none ∧ H3 = H2) I2 ⟨rfl, rfl⟩) fun vu s3 ⟨u, H3, I3, pu, eu, e3⟩ => ?_
  subst eu e3
  refine thn (hst.run pins s3 σ H3 (fun o H4 => o = some (-1) ∧ H4 = H3) I3 ⟨1, rfl, -1, rfl, rfl, rfl⟩) fun vs s4 ⟨o, H4, I4, ps, eo, e4⟩ => ?_
  subst eo e4
  have I5 : Inv X pins σ H4 { s4 with heap := s4.heap.push { cls := .type "slice", data := .fields #[vl, vu, vs] } } := I4.kept (t' := s4.toks) fun b ob q => Heap.get?_push_of_some _ q
  rcases q1 with ⟨a, xs, ex, hx, q⟩ | ⟨a, xs, ex, hx, q⟩
  · subst ex
    cases r1
    obtain ⟨its, r, ht, hz⟩ := I5.list hx
    have hlen := r.length
    show wpAny (model X.prog X.w) X.A (subscriptTail e (.Slice none none (some (.UnaryOp .USub (.Constant (.int 1) k p1) p2)) p3) (.ref a) (.ref s4.heap.objs.size)) (EP X pins σ Q) X.xe { s4 with heap := s4.heap.push { cls := .type "slice", data := .fields #[vl, vu, vs] } }
    refine tail_any (ops := [.ref a, .ref s4.heap.objs.size]) ht.isList.typeIs (PySem.slot_list_getitem.lookup) ?_ (by with_unfolding_all rfl)
    refine wpAny_getItem_list_slice ht.isList (Heap.IsSliceOf.new _ vl vu vs) pl pu ps (by decide) ?_ (by rw [List.size_toArray]; omega)
    rw [PySem.W.krv_pick]
    refine ⟨.ref _, _, I5.laid (t' := s4.toks) (o := .lst xs.reverse) (fun b ob q => Heap.get?_push_of_some _ q) (Nat.le_refl _) ?_, rfl, q _ (I5.hok.fresh (Nat.le_refl _))⟩
    exact ⟨by rw [List.length_reverse]; exact hz, _, 0, r.reverse, Heap.get?_push_size _ rfl⟩
  · subst ex
    cases r1
    obtain ⟨its, r, ht, hz⟩ := I5.tuple hx
    have hlen := r.length
    show wpAny (model X.prog X.w) X.A (subscriptTail e (.Slice none none (some (.UnaryOp .USub (.Constant (.int 1) k p1) p2)) p3) (.ref a) (.ref s4.heap.objs.size)) (EP X pins σ Q) X.xe { s4 with heap := s4.heap.push { cls := .type "slice", data := .fields #[vl, vu, vs] } }
    refine tail_any (ops := [.ref a, .ref s4.heap.objs.size]) ht.typeIs (PyProof.Rows.slot_tuple_getitem.lookup) ?_ (by with_unfolding_all rfl)
    refine getItem_tuple_rev ht (Heap.IsSliceOf.new _ vl vu vs) pl pu ps ?_ (by rw [List.size_toArray]; omega)
    have q9 := laidT I5 r.reverse (by rw [List.length_reverse]; exact hz) q
    simpa using q9
theorem px_rev {a : D} {va : V} (hs : RS K w S) (ha : RD K w a va) (h : Aft kx K W σ (RD K) w (pr .rev [a] S) Q) : (∃ a xs, va = .ref a ∧ SqL K w.H a xs ∧ ∀ p, w.H p = none → Q (.ref p) (upd w.H p (.lst xs.reverse))) ∨
  (∃ a xs, va = .ref a ∧ SqT K w.H a xs ∧ NewT w.H xs.reverse Q) := by
  have ra := RV.of hs ha
  simp only [pr] at h
  generalize rs S a = a' at ra h
  cases a' with
  | tup xs =>
    obtain ⟨p, vs, rfl, h1, h2, h3⟩ := ra.tupI
    exact .inr ⟨p, vs, rfl, h1.sq, h.tup hs (by simpa using h2) h3.reverse⟩
  | lst xs =>
    obtain ⟨p, vs, rfl, h1, h2, h3⟩ := ra.lstI
    exact .inl ⟨p, vs, rfl, SqL.of h1, h.lst hs (by simpa using h2) h3.reverse⟩
  | _ => exact h.elim
end
end Eng

/-! Eng6 -/
set_option Elab.async false
set_option linter.all false
set_option maxRecDepth 100000
set_option maxHeartbeats 4000000
/-! Built-ins. -/
namespace Eng
open PySem PySem.Spec PyProof.Rows L2
section
variable {kx : Nat → Value} {K : PySem.W.Frag} {W : WX} {σ : L2.St} {w w' : Wd} {S : Sto} {Q : VK}

/-! ### len -/
def rLenX (K : PySem.W.Frag) : List V → Hp → VK → Prop := fun xs H Q => (∃ x n, xs = [x] ∧ LenV K x H n ∧ Q (.int n) H) ∨ ∃ a kvs, xs = [V.ref a] ∧ H a = some (.dK kvs) ∧ Q (.int kvs.length) H
theorem call_lenX {X : Cx} : CallR X (.builtin "len") (rLenX X.K) := call_len.or call_lenD
theorem KVs.length : ∀ {kvs : List (List Nat × D)} {ks : List (Key × V)}, KVs K w kvs ks → ks.length = kvs.length
  | [], ks, h => by rw [show ks = [] from h] <;> rfl
  | (s, d) :: r, ks, h => by
    obtain ⟨v, r', rfl, _, h2⟩ := h
    simp [KVs.length h2]
theorem px_len {a : D} {va : V} (hs : RS K w S) (ha : RD K w a va) (h : Aft kx K W σ (RD K) w (pr .len [a] S) Q) : rLenX K [va] w.H Q := by
  have ra := RV.of hs ha
  simp only [pr] at h
  generalize rs S a = a' at ra h
  cases a' with
  | tup xs =>
    obtain ⟨p, vs, rfl, h1, h2, h3⟩ := ra.tupI
    refine .inl ⟨_, vs.length, rfl, .inr ⟨vs, h1.sq, rfl⟩, ?_⟩
    rw [h3.length]
    exact h.int hs
  | lst xs =>
    obtain ⟨p, vs, rfl, h1, h2, h3⟩ := ra.lstI
    refine .inl ⟨_, vs.length, rfl, .inl ⟨vs, SqL.of h1, rfl⟩, ?_⟩
    rw [h3.length]
    exact h.int hs
  | str s =>
    obtain ⟨rfl, ox⟩ := ra.strI
    refine .inl ⟨_, (sv s).length, rfl, ⟨ox.len, rfl⟩, ?_⟩
    rw [sv_len]
    exact h.int hs
  | scr ns =>
    obtain ⟨p, rfl, h1⟩ := ra.scrI
    refine .inl ⟨_, _, rfl, .inl ⟨_, h1.sq, rfl⟩, ?_⟩
    rw [List.length_map]
    exact h.int hs
  | loc n =>
    obtain ⟨p, rfl, h1⟩ := ra.locI
    obtain ⟨m, e1, e2⟩ := hs.loc h1
    simp only [e1] at h
    cases m with
    | dct kvs =>
      obtain ⟨ks, q1, q2, q3⟩ := e2
      refine .inr ⟨p, ks, rfl, q1, ?_⟩
      rw [KVs.length q3]
      exact h.int hs
    | _ => exact h.elim
  | _ => exact h.elim

/-! ### all, any, sum -/
theorem bools_rds : ∀ {xs : List D} {vs : List V} {bs : List Bool}, RDs K w xs vs → boolsD xs = some bs → vs = bs.map V.bl
  | [], vs, bs, h, e => by
    simp only [boolsD, Option.some.injEq] at e
    subst e
    exact h.nil_inv
  | .bl b :: r, vs, bs, h, e => by
    simp only [boolsD] at e
    obtain ⟨bs', e1, rfl⟩ := Option.map_eq_some_iff.mp e
    obtain ⟨v, r', rfl, h1, h2⟩ := h.cons_inv
    rw [h1.blI, bools_rds h2 e1] <;> rfl
  | .non :: _, _, _, _, e => by simp [boolsD] at e
  | .int _ :: _, _, _, _, e => by simp [boolsD] at e
  | .str _ :: _, _, _, _, e => by simp [boolsD] at e
  | .tup _ :: _, _, _, _, e => by simp [boolsD] at e
  | .lst _ :: _, _, _, _, e => by simp [boolsD] at e
  | .loc _ :: _, _, _, _, e => by simp [boolsD] at e
  | .scr _ :: _, _, _, _, e => by simp [boolsD] at e
theorem ints_rds : ∀ {xs : List D} {vs : List V} {bs : List Int}, RDs K w xs vs → intsD xs = some bs → vs = bs.map V.int
  | [], vs, bs, h, e => by
    simp only [intsD, Option.some.injEq] at e
    subst e
    exact h.nil_inv
  | .int b :: r, vs, bs, h, e => by
    simp only [intsD] at e
    obtain ⟨bs', e1, rfl⟩ := Option.map_eq_some_iff.mp e
    obtain ⟨v, r', rfl, h1, h2⟩ := h.cons_inv
    rw [h1.intI, ints_rds h2 e1] <;> rfl
  | .non :: _, _, _, _, e => by simp [intsD] at e
  | .bl _ :: _, _, _, _, e => by simp [intsD] at e
  | .str _ :: _, _, _, _, e => by simp [intsD] at e
  | .tup _ :: _, _, _, _, e => by simp [intsD] at e
  | .lst _ :: _, _, _, _, e => by simp [intsD] at e
  | .loc _ :: _, _, _, _, e => by simp [intsD] at e
  | .scr _ :: _, _, _, _, e => by simp [intsD] at e
theorem px_all {a : D} {va : V} (hs : RS K w S) (ha : RD K w a va) (h : Aft kx K W σ (RD K) w (pr .all [a] S) Q) : rAll K [va] w.H Q := by
  have ra := RV.of hs ha
  simp only [pr] at h
  generalize rs S a = a' at ra h
  cases a' with
  | lst xs =>
    obtain ⟨p, vs, rfl, h1, h2, h3⟩ := ra.lstI
    obtain ⟨x, e, h⟩ := h.ofO
    obtain ⟨bs, e1, rfl⟩ := Option.map_eq_some_iff.mp e
    obtain rfl := bools_rds h3 e1
    exact ⟨p, bs, rfl, SqL.of h1, h.bl hs⟩
  | _ => exact h.elim
theorem px_any {a : D} {va : V} (hs : RS K w S) (ha : RD K w a va) (h : Aft kx K W σ (RD K) w (pr .any [a] S) Q) : rAny K [va] w.H Q := by
  have ra := RV.of hs ha
  simp only [pr] at h
  generalize rs S a = a' at ra h
  cases a' with
  | lst xs =>
    obtain ⟨p, vs, rfl, h1, h2, h3⟩ := ra.lstI
    obtain ⟨x, e, h⟩ := h.ofO
    obtain ⟨bs, e1, rfl⟩ := Option.map_eq_some_iff.mp e
    obtain rfl := bools_rds h3 e1
    exact ⟨p, bs, rfl, SqL.of h1, h.bl hs⟩
  | _ => exact h.elim
theorem px_sum {a : D} {va : V} (hs : RS K w S) (ha : RD K w a va) (h : Aft kx K W σ (RD K) w (pr .sum [a] S) Q) : rSum K [va] w.H Q := by
  have ra := RV.of hs ha
  simp only [pr] at h
  generalize rs S a = a' at ra h
  cases a' with
  | lst xs =>
    obtain ⟨p, vs, rfl, h1, h2, h3⟩ := ra.lstI
    obtain ⟨x, e, h⟩ := h.ofO
    obtain ⟨bs, e1, rfl⟩ := Option.map_eq_some_iff.mp e
    obtain rfl := ints_rds h3 e1
    exact ⟨p, bs, rfl, SqL.of h1, h.int hs⟩
  | _ => exact h.elim

/-! ### tuple(..), list(..) -/
def rTupleX (K : PySem.W.Frag) : List V → Hp → VK → Prop := fun xs H Q => ∃ p ys, xs = [.ref p] ∧ ((SqL K H p ys ∧ NewT H ys Q) ∨ (SqT K H p ys ∧ Q (.ref p) H))
def rListX (K : PySem.W.Frag) : List V → Hp → VK → Prop := fun xs H Q => ∃ p ys, xs = [.ref p] ∧ (SqL K H p ys ∨ SqT K H p ys) ∧ ∀ l, H l = none → Q (.ref l) (upd H l (.lst ys))
theorem px_tuple {a : D} {va : V} (hs : RS K w S) (ha : RD K w a va) (h : Aft kx K W σ (RD K) w (pr .tuple [a] S) Q) : rTupleX K [va] w.H Q := by
  have ra := RV.of hs ha
  simp only [pr] at h
  generalize rs S a = a' at ra h
  cases a' with
  | lst xs =>
    obtain ⟨p, vs, rfl, h1, h2, h3⟩ := ra.lstI
    exact ⟨p, vs, rfl, .inl ⟨SqL.of h1, h.tup hs h2 h3⟩⟩
  | tup xs =>
    obtain ⟨p, vs, rfl, h1, h2, h3⟩ := ra.tupI
    exact ⟨p, vs, rfl, .inr ⟨h1.sq, h.val hs ra⟩⟩
  | _ => exact h.elim
theorem px_list {a : D} {va : V} (hs : RS K w S) (ha : RD K w a va) (h : Aft kx K W σ (RD K) w (pr .list [a] S) Q) : rListX K [va] w.H Q := by
  have ra := RV.of hs ha
  simp only [pr] at h
  generalize rs S a = a' at ra h
  cases a' with
  | lst xs =>
    obtain ⟨p, vs, rfl, h1, h2, h3⟩ := ra.lstI
    exact ⟨p, vs, rfl, .inl (SqL.of h1), h.lst hs h2 h3⟩
  | tup xs =>
    obtain ⟨p, vs, rfl, h1, h2, h3⟩ := ra.tupI
    exact ⟨p, vs, rfl, .inr (h1.sq), h.lst hs h2 h3⟩
  | _ => exact h.elim

/-! ### int(..), min, max of two -/
def rIntX : List V → Hp → VK → Prop := fun xs H Q => (∃ i, xs = [.int i] ∧ Q (.int i) H) ∨ ∃ k, xs = [.bl k] ∧ Q (.int (if k then 1 else 0)) H
theorem px_int {a : D} {va : V} (hs : RS K w S) (ha : RD K w a va) (h : Aft kx K W σ (RD K) w (pr .int [a] S) Q) : rIntX [va] w.H Q := by
  cases a with
  | int i =>
    obtain rfl := ha.intI
    simp only [pr] at h
    exact .inl ⟨i, rfl, h.int hs⟩
  | bl b =>
    obtain rfl := ha.blI
    simp only [pr] at h
    exact .inr ⟨b, rfl, h.int hs⟩
  | _ => exact h.elim
theorem px_min2 {a b : D} {va vb : V} (hs : RS K w S) (ha : RD K w a va) (hb : RD K w b vb) (h : Aft kx K W σ (RD K) w (pr .min2 [a, b] S) Q) : ∃ i j, [va, vb] = [.int i, .int j] ∧ Q (.int (if j < i then j else i)) w.H := by
  cases a with
  | int i =>
    cases b with
    | int j =>
      obtain rfl := ha.intI
      obtain rfl := hb.intI
      simp only [pr] at h
      exact ⟨i, j, rfl, h.int hs⟩
    | _ => exact h.elim
  | _ => cases b <;> exact h.elim
theorem px_max2 {a b : D} {va vb : V} (hs : RS K w S) (ha : RD K w a va) (hb : RD K w b vb) (h : Aft kx K W σ (RD K) w (pr .max2 [a, b] S) Q) : ∃ i j, [va, vb] = [.int i, .int j] ∧ Q (.int (if j > i then j else i)) w.H := by
  cases a with
  | int i =>
    cases b with
    | int j =>
      obtain rfl := ha.intI
      obtain rfl := hb.intI
      simp only [pr] at h
      exact ⟨i, j, rfl, h.int hs⟩
    | _ => exact h.elim
  | _ => cases b <;> exact h.elim

/-! ### max of a list -/
theorem maxL_mem : ∀ (n : Int) (ns : List Int), maxL (n :: ns) ∈ n :: ns
  | n, [] => by simp [maxL]
  | n, m :: r => by
    have ih := maxL_mem m r
    simp only [maxL]
    rcases Int.le_total n (maxL (m :: r)) with h | h
    · rw [Int.max_eq_right h]; exact List.mem_cons_of_mem _ ih
    · rw [Int.max_eq_left h]; exact List.mem_cons_self
theorem maxL_ge : ∀ (n : Int) (ns : List Int) (y : Int), y ∈ n :: ns → y ≤ maxL (n :: ns)
  | n, [], y, h => by simp at h; subst h; simp [maxL]
  | n, m :: r, y, h => by
    simp only [maxL]
    rcases List.mem_cons.mp h with e | h
    · subst e; exact Int.le_max_left _ _
    · exact Int.le_trans (maxL_ge m r y h) (Int.le_max_right _ _)
theorem px_maxl {a : D} {va : V} (hs : RS K w S) (ha : RD K w a va) (h : Aft kx K W σ (RD K) w (pr .maxl [a] S) Q) : rMax K [va] w.H Q := by
  have ra := RV.of hs ha
  simp only [pr] at h
  generalize rs S a = a' at ra h
  cases a' with
  | lst xs =>
    obtain ⟨p, vs, rfl, h1, h2, h3⟩ := ra.lstI
    cases e1 : intsD xs with
    | none => simp only [e1] at h; exact h.elim
    | some ns =>
      cases ns with
      | nil => simp only [e1] at h; exact h.elim
      | cons n ns =>
        simp only [e1] at h
        obtain rfl := ints_rds h3 e1
        refine ⟨p, n :: ns, rfl, SqL.of h1, by simp, fun m hm hle => ?_⟩
        have : m = maxL (n :: ns) := Int.le_antisymm (maxL_ge n ns m hm) (hle _ (maxL_mem n ns))
        rw [this]
        exact h.int hs
  | _ => exact h.elim

/-! ### isinstance -/
def Ty.nm : Ty → String
  | .str => "str"
  | .tup => "tuple"
  | .int => "int"
  | .bool => "bool"
  | .list => "list"
def tyN : D → String
  | .non => "NoneType"
  | .bl _ => "bool"
  | .int _ => "int"
  | .str _ => "str"
  | .tup _ => "tuple"
  | .lst _ => "list"
  | .loc _ => ""
  | .scr _ => ""
theorem kit_all : ∀ n ∈ ["NoneType", "bool", "int", "str", "tuple", "list"], ∀ t ∈ ["str", "tuple", "int", "bool", "list"], kitB n t = some (n == t || (n == "bool" && t == "int")) := by decide +kernel
theorem isT_kit {d : D} {t : Ty} {b : Bool} (e : isT d t = some b) : kitB (tyN d) t.nm = some b := by
  cases d <;> cases t <;> simp only [isT, Option.some.injEq, reduceCtorEq] at e <;> subst e <;> simp only [tyN, Ty.nm] <;> exact (kit_all _ (by decide) _ (by decide)).trans (by decide)
theorem RV.ty {d : D} {v : V} (h : RV K w d v) (hl : ∀ n, d ≠ .loc n) (hl2 : ∀ n, d ≠ .scr n) : TyX K w.H v (.type (tyN d)) := by
  cases d with
  | non => rw [h.nonI]; exact .base .non
  | bl b => rw [h.blI]; exact .base (.bl b)
  | int b => rw [h.intI]; exact .base (.int b)
  | str b => rw [h.strI.1]; exact .base (.str _)
  | tup b => obtain ⟨a, vs, rfl, ⟨o, h1, _⟩, _⟩ := h.tupI; exact .fTuple h1
  | lst b => obtain ⟨a, vs, rfl, h1, _⟩ := h.lstI; exact .base (.lst h1)
  | loc n => exact absurd rfl (hl n)
  | scr n => exact absurd rfl (hl2 n)
theorem isT_ne {d : D} {t : Ty} {b : Bool} (e : isT d t = some b) : (∀ n, d ≠ .loc n) ∧ (∀ n, d ≠ .scr n) := by
  constructor
  · rintro n rfl; simp [isT] at e
  · rintro n rfl; simp [isT] at e
theorem px_isi1 {a : D} {va : V} {t : Ty} (hs : RS K w S) (ha : RD K w a va) (h : Aft kx K W σ (RD K) w (pr (.isi [t]) [a] S) Q) : rIsi K [va, .ty t.nm] w.H Q := by
  have ra := RV.of hs ha
  simp only [pr] at h
  generalize rs S a = a' at ra h
  obtain ⟨x, e, h⟩ := h.ofO
  obtain ⟨b, e1, rfl⟩ := Option.map_eq_some_iff.mp e
  have e2 : isT a' t = some b := by
    simp only [isTs] at e1
    cases q : isT a' t with
    | none => rw [q] at e1; cases e1
    | some c => rw [q] at e1; cases c <;> simp at e1 <;> rw [e1]
  obtain ⟨n1, n2⟩ := isT_ne e2
  exact ⟨va, .ty t.nm, _, _, b, rfl, .ty _, ra.ty n1 n2, kit_ty (isT_kit e2), h.bl hs⟩
theorem kitAny_of {d : D} : ∀ (ts : List Ty) {b : Bool}, isTs d ts = some b → PySem.W.kitAny K (.type (tyN d)) (ts.map fun t => .type t.nm) = some b
  | [], b, e => by simp only [isTs, Option.some.injEq] at e; subst e; exact kitAny_nil
  | t :: ts, b, e => by
    simp only [isTs] at e
    cases q : isT d t with
    | none => rw [q] at e; cases e
    | some c =>
      rw [q] at e
      refine kitAny_cons (b := c) (kit_ty (isT_kit q)) (fun hc => ?_) fun hc => ?_
      · subst hc; exact kitAny_of ts e
      · subst hc; simpa using e.symm
theorem px_isiT {a : D} {va : V} {t : Ty} {ts : List Ty} {p : Addr} (hs : RS K w S) (ha : RD K w a va) (hp : w.H p = some (.tup ((t :: ts).map fun t => .ty t.nm))) (h : Aft kx K W σ (RD K) w (pr (.isi (t :: ts)) [a] S) Q) : rIsiT K [va, .ref p] w.H Q := by
  have ra := RV.of hs ha
  simp only [pr] at h
  generalize rs S a = a' at ra h
  obtain ⟨x, e, h⟩ := h.ofO
  obtain ⟨b, e1, rfl⟩ := Option.map_eq_some_iff.mp e
  have ne : (∀ n, a' ≠ .loc n) ∧ (∀ n, a' ≠ .scr n) := by
    simp only [isTs] at e1
    cases q : isT a' t with
    | none => rw [q] at e1; cases e1
    | some c => exact isT_ne q
  have hc : ∀ l : List Ty, Paired ClsV (l.map fun t => V.ty t.nm) (l.map fun t => Value.type t.nm) := by
    intro l
    induction l with
    | nil => exact .nil
    | cons x l ih => exact .cons (.ty _) ih
  exact ⟨va, p, _, _, _, b, rfl, hp, hc _, ra.ty ne.1 ne.2, kitAny_of _ e1, h.bl hs⟩

/-! ### s.upper(), xs.append(x), xs.extend(ys) -/
theorem up_eq (c : Nat) (h : c < 128) : PyProof.Rows.up1 c = upC c := by
  have : ∀ c < 128, PyProof.Rows.up1 c = upC c := by decide
  exact this c h
theorem upC_lt {c : Nat} (h : c < 128) : upC c < 128 := by unfold upC; split <;> omega
theorem px_upper {a : D} {va : V} (hs : RS K w S) (ha : RD K w a va) (h : Aft kx K W σ (RD K) w (pr .upper [a] S) Q) : tyV K "str" va w.H ∧ ∃ x, va = .str x ∧ ([] : List V) = [] ∧ x.length ≤ 5592405 ∧ Q (.str (Txt.upper x)) w.H := by
  cases a with
  | str s =>
    obtain ⟨rfl, ok⟩ := ha.strI
    simp only [pr] at h
    obtain ⟨hc, h⟩ := h.gd
    refine ⟨rfl, _, rfl, rfl, ?_, ?_⟩
    · rw [sv_len]; exact hc.2
    have e : Txt.upper (sv s) = sv (s.map upC) := by
      have := SX.upper_S (a := s) hc.1
      rw [show SX.S s = sv s from rfl] at this
      rw [this]
      show sv _ = sv _
      refine congrArg sv ?_
      apply List.map_congr_left
      intro c hm
      have h2 := hc.1
      rw [List.all_eq_true] at h2
      exact up_eq c (of_decide_eq_true (h2 c hm))
    rw [e]
    refine h.str hs ⟨by simpa using ok.1, ?_⟩
    rw [List.all_eq_true]
    intro c hm
    obtain ⟨d, hd, rfl⟩ := List.mem_map.mp hm
    have h2 := hc.1
    rw [List.all_eq_true] at h2
    have := upC_lt (of_decide_eq_true (h2 d hd))
    exact decide_eq_true (by omega)
  | _ => exact h.elim
theorem px_app {a b : D} {va vb : V} (hs : RS K w S) (ha : RD K w a va) (hb : RD K w b vb) (h : Aft kx K W σ (RD K) w (pr .app [a, b] S) Q) : tyV K "list" va w.H ∧ rAppend va [vb] w.H Q := by
  cases a with
  | loc n =>
    obtain ⟨p, rfl, e⟩ := ha.locI
    obtain ⟨m, e1, e2⟩ := hs.loc e
    simp only [pr, e1] at h
    cases m with
    | lst xs =>
      obtain ⟨vs, q1, q2, q3⟩ := e2
      obtain ⟨hc, h⟩ := h.gd
      have l := q3.length
      refine ⟨.inl ⟨rfl, vs, SqL.of q1⟩, p, vs, vb, rfl, rfl, q1, by rw [l, ← szL_eq]; exact hc, ?_⟩
      refine h .non (w.put p (.lst (vs ++ [vb]))) (Ext.put hs e) (hs.put e ⟨_, upd_same, by rw [List.length_append, List.length_singleton]; omega, ?_⟩) (by simp only [RD])
      exact RDs.ext (Ext.put hs e) _ _ (q3.append (RDs.cons hb RDs.nil))
    | _ => exact h.elim
  | _ => exact h.elim
theorem px_ext {a b : D} {va vb : V} (hs : RS K w S) (ha : RD K w a va) (hb : RD K w b vb) (h : Aft kx K W σ (RD K) w (pr .ext [a, b] S) Q) : tyV K "list" va w.H ∧ rExtend va [vb] w.H Q := by
  have rb := RV.of hs hb
  cases a with
  | loc n =>
    obtain ⟨p, rfl, e⟩ := ha.locI
    obtain ⟨m, e1, e2⟩ := hs.loc e
    simp only [pr, e1] at h
    generalize rs S b = b' at rb h
    cases m with
    | lst xs =>
      obtain ⟨vs, q1, q2, q3⟩ := e2
      cases b' with
      | lst ys =>
        obtain ⟨q, us, rfl, g1, g2, g3⟩ := rb.lstI
        obtain ⟨hc, h⟩ := h.gd
        have l := q3.length
        have l2 := g3.length
        refine ⟨.inl ⟨rfl, vs, SqL.of q1⟩, p, q, vs, us, rfl, rfl, q1, g1, by rw [l, l2, ← szL_eq]; exact hc, ?_⟩
        refine h .non (w.put p (.lst (vs ++ us))) (Ext.put hs e) (hs.put e ⟨_, upd_same, by simpa using hc, ?_⟩) (by simp only [RD])
        exact RDs.ext (Ext.put hs e) _ _ (q3.append g3)
      | _ => exact h.elim
    | _ => cases b' <;> exact h.elim
  | _ => exact h.elim
end
end Eng

/-! Eng6b -/
set_option Elab.async false
set_option linter.all false
set_option maxRecDepth 100000
set_option maxHeartbeats 4000000
/-! Dicts. -/
namespace Eng
open PySem PySem.Spec PyProof.Rows L2
section
variable {kx : Nat → Value} {K : PySem.W.Frag} {W : WX} {σ : L2.St} {w w' : Wd} {S : Sto} {Q : VK}

theorem inr_inj {a b : List Nat} : ((Sum.inr (sv a) : Key) = Sum.inr (sv b)) ↔ a = b := by
  constructor
  · intro h; exact sv_inj.mp (Sum.inr.inj h)
  · intro h; rw [h]
theorem KVs.val : ∀ {kvs : List (List Nat × D)} {ks : List (Key × V)} (k : List Nat), KVs K w kvs ks →
    (lookD k kvs = none ∧ valV ks (Sum.inr (sv k)) = none) ∨ ∃ d v, lookD k kvs = some d ∧ valV ks (Sum.inr (sv k)) = some v ∧ RD K w d v
  | [], ks, k, h => by rw [show ks = [] from h]; exact .inl ⟨rfl, rfl⟩
  | (s, d) :: r, ks, k, h => by
    obtain ⟨v, r', rfl, h1, h2⟩ := h
    by_cases e : s = k
    · subst e
      exact .inr ⟨d, v, by simp [lookD], valV_pos rfl, h1.2⟩
    · have e' : ¬ (Sum.inr (sv s) : Key) = Sum.inr (sv k) := fun z => e (inr_inj.mp z)
      rcases KVs.val k h2 with ⟨q1, q2⟩ | ⟨d', v', q1, q2, q3⟩
      · exact .inl ⟨by simp [lookD, e, q1], by rw [valV_neg e']; exact q2⟩
      · exact .inr ⟨d', v', by simp [lookD, e, q1], by rw [valV_neg e']; exact q2, q3⟩
theorem KVs.app : ∀ {kvs : List (List Nat × D)} {ks : List (Key × V)} {k : List Nat} {d : D} {v : V}, KVs K w kvs ks → okS k → RD K w d v → KVs K w (kvs ++ [(k, d)]) (ks ++ [(Sum.inr (sv k), v)])
  | [], ks, k, d, v, h, hk, hd => by rw [show ks = [] from h]; exact ⟨v, [], rfl, ⟨hk, hd⟩, rfl⟩
  | (s, d') :: r, ks, k, d, v, h, hk, hd => by
    obtain ⟨v', r', rfl, h1, h2⟩ := h
    exact ⟨v', _, rfl, h1, KVs.app h2 hk hd⟩
theorem KVs.rep : ∀ {kvs : List (List Nat × D)} {ks : List (Key × V)} {k : List Nat} {d : D} {v : V}, KVs K w kvs ks → okS k → RD K w d v →
    KVs K w (kvs.map fun kv => if kv.1 = k then (kv.1, d) else kv) (ks.map fun kv => if kv.1 = Sum.inr (sv k) then (kv.1, v) else kv)
  | [], ks, k, d, v, h, hk, hd => by rw [show ks = [] from h]; exact rfl
  | (s, d') :: r, ks, k, d, v, h, hk, hd => by
    obtain ⟨v', r', rfl, h1, h2⟩ := h
    by_cases e : s = k
    · subst e
      simp only [List.map_cons, if_true]
      exact ⟨v, _, rfl, ⟨hk, hd⟩, KVs.rep h2 hk hd⟩
    · have e' : ¬ (Sum.inr (sv s) : Key) = Sum.inr (sv k) := fun z => e (inr_inj.mp z)
      simp only [List.map_cons, if_neg e, if_neg e']
      exact ⟨v', _, rfl, h1, KVs.rep h2 hk hd⟩
theorem KVs.put {kvs : List (List Nat × D)} {ks : List (Key × V)} {k : List Nat} {d : D} {v : V} (h : KVs K w kvs ks) (hk : okS k) (hd : RD K w d v) : KVs K w (putD k d kvs) (putK ks (Sum.inr (sv k)) v) := by
  unfold putD putK
  rw [valV_any]
  rcases h.val k with ⟨q1, q2⟩ | ⟨d', v', q1, q2, _⟩
  · rw [q1, q2]
    simp only [Option.isSome_none, Bool.false_eq_true, if_false]
    exact h.app hk hd
  · rw [q1, q2]
    simp only [Option.isSome_some, if_true]
    exact h.rep hk hd
theorem putD_len {kvs : List (List Nat × D)} {k : List Nat} {d : D} : (putD k d kvs).length ≤ kvs.length + 1 := by
  unfold putD
  split <;> simp

/-- a text that is asked in a dict -/
theorem dget_of {n : Nat} {p : Addr} {kvs : List (List Nat × D)} {k : List Nat} (hs : RS K w S) (e : w.r[n]? = some p) (e1 : S[n]? = some (.dct kvs)) :
    (lookD k kvs = none ∧ DGet w.H p (.str (sv k)) none) ∨ ∃ d v, lookD k kvs = some d ∧ DGet w.H p (.str (sv k)) (some v) ∧ RD K w d v := by
  have q := hs.obj n p _ e e1
  obtain ⟨ks, q1, q2, q3⟩ := q
  rcases q3.val k with ⟨a1, a2⟩ | ⟨d, v, a1, a2, a3⟩
  · exact .inl ⟨a1, by rw [← a2]; exact DGet.k (k := Sum.inr (sv k)) q1⟩
  · exact .inr ⟨d, v, a1, by rw [← a2]; exact DGet.k (k := Sum.inr (sv k)) q1, a3⟩
theorem isD_of {n : Nat} {p : Addr} {kvs : List (List Nat × D)} (hs : RS K w S) (e : w.r[n]? = some p) (e1 : S[n]? = some (.dct kvs)) : IsD w.H p := by
  obtain ⟨ks, q1, _⟩ := hs.obj n p _ e e1
  exact .inl ⟨ks, .inl q1⟩

/-! ### k in d -/
def rInDi (neg : Bool) : R2 := fun y x H Q => ∃ a o, x = .ref a ∧ DGet H a y o ∧ Q (.bl (if neg then !o.isSome else o.isSome)) H
theorem op_inDi {X : Cx} (hu : X.A.units + 200 < cLine) : OpR X (compareOp .In) (rInDi false) := by
  intro pins s σ H x y v u Q I rx ry h
  obtain ⟨a, o, rfl, g, q⟩ := h
  cases ry
  exact d_in (by omega) I g rx fun s' I' => ⟨.bl o.isSome, H, I', rfl, q⟩
theorem op_notInDi {X : Cx} (hu : X.A.units + 200 < cLine) : OpR X (compareOp .NotIn) (rInDi true) := by
  intro pins s σ H x y v u Q I rx ry h
  obtain ⟨a, o, rfl, g, q⟩ := h
  cases ry
  exact d_notIn (by omega) I g rx fun s' I' => ⟨.bl (!o.isSome), H, I', rfl, q⟩
def rInA (K : PySem.W.Frag) (neg : Bool) : R2 := fun x y H Q => rInD2 K neg x y H Q ∨ rInDi neg x y H Q
theorem op_inA {X : Cx} (hu : X.A.units + 200 < cLine) : OpR X (compareOp .In) (rInA X.K false) := (op_isin hu).or (op_inDi hu)
theorem op_notInA {X : Cx} (hu : X.A.units + 200 < cLine) : OpR X (compareOp .NotIn) (rInA X.K true) := (op_notin hu).or (op_notInDi hu)
theorem px_inA {a b : D} {va vb : V} {neg : Bool} (hs : RS K w S) (ha : RD K w a va) (hb : RD K w b vb) (h : Aft kx K W σ (RD K) w (pr.isIn a (rs S b) S (!neg)) Q) : rInA K neg va vb w.H Q := by
  have rb := RV.of hs hb
  generalize hb' : rs S b = b' at rb h
  by_cases hl : ∃ n, b' = .loc n
  · obtain ⟨n, rfl⟩ := hl
    obtain ⟨p, rfl, e⟩ := rb.locI
    cases a with
    | str k =>
      obtain ⟨rfl, ok⟩ := ha.strI
      obtain ⟨m, e1, _⟩ := hs.loc e
      have h' : Aft kx K W σ (RD K) w (match S[n]? with
        | some (.dct kvs) => .ok (.bl (if (!neg) = true then (lookD k kvs).isSome else !(lookD k kvs).isSome)) S
        | _ => .no) Q := by
        cases k with
        | nil => exact h
        | cons _ r => cases r <;> exact h
      rw [e1] at h'
      cases m with
      | dct kvs =>
        right
        rcases dget_of (k := k) hs e e1 with ⟨q1, q2⟩ | ⟨d, v, q1, q2, q3⟩
        · refine ⟨p, none, rfl, q2, ?_⟩
          simp only [q1] at h'
          cases neg <;> exact h'.bl hs
        · refine ⟨p, some v, rfl, q2, ?_⟩
          simp only [q1] at h'
          cases neg <;> exact h'.bl hs
      | _ => exact h'.elim
    | _ => exact h.elim
  · exact .inl (px_in hs ha rb (fun n z => hl ⟨n, z⟩) h)

/-! ### d[k] -/
def rIxDi : R2 := fun x y H Q => ∃ a v, x = .ref a ∧ DGet H a y (some v) ∧ Q v H
theorem ix_dict {X : Cx} (hu : X.A.units + 200 < cLine) : IxR X rIxDi := by
  intro value slice pins s σ H x y v u Q I rx ry h hs
  obtain ⟨a, z, rfl, g, q⟩ := h
  cases rx
  exact tail_any (ops := [.ref a, u]) (dict_typeIs I g) PySem.F.slot_dict_getitem.lookup (d_getItem (by omega) I g ry fun w' s3 I3 rw' => ⟨z, H, I3, rw', q⟩) hs
def rIxA (K : PySem.W.Frag) : R2 := fun x y H Q => rIx K x y H Q ∨ rIxDi x y H Q
theorem ix_A {X : Cx} (hu : X.A.units + 200 < cLine) : IxR X (rIxA X.K) := ix_seq.or (ix_dict hu)
theorem KTs.val : ∀ {kvs : List (List (List Nat) × D)} {ks : List (List Key × V)} (k : List (List Nat)), KTs K w kvs ks →
    (lookD k kvs = none ∧ valV ks (k.map fun x => Sum.inr (sv x)) = none) ∨ ∃ d v, lookD k kvs = some d ∧ valV ks (k.map fun x => Sum.inr (sv x)) = some v ∧ RD K w d v
  | [], ks, k, h => by rw [show ks = [] from h]; exact .inl ⟨rfl, rfl⟩
  | (s, d) :: r, ks, k, h => by
    obtain ⟨v, r', rfl, h1, h2⟩ := h
    have inj : ∀ a b : List (List Nat), (a.map fun x => (Sum.inr (sv x) : Key)) = (b.map fun x => Sum.inr (sv x)) → a = b := by
      intro a
      induction a with
      | nil => intro b hb; cases b with
        | nil => rfl
        | cons _ _ => cases hb
      | cons x a ih => intro b hb; cases b with
        | nil => cases hb
        | cons y b =>
          simp only [List.map_cons, List.cons.injEq] at hb
          rw [inr_inj.mp hb.1, ih b hb.2]
    by_cases e : s = k
    · subst e
      exact .inr ⟨d, v, by simp [lookD], valV_pos rfl, h1⟩
    · have e' : ¬ (s.map fun x => (Sum.inr (sv x) : Key)) = k.map fun x => Sum.inr (sv x) := fun z => e (inj _ _ z)
      rcases KTs.val k h2 with ⟨q1, q2⟩ | ⟨d', v', q1, q2, q3⟩
      · exact .inl ⟨by simp [lookD, e, q1], by rw [valV_neg e']; exact q2⟩
      · exact .inr ⟨d', v', by simp [lookD, e, q1], by rw [valV_neg e']; exact q2, q3⟩
theorem strs_rds : ∀ {xs : List D} {vs : List V} {bs : List (List Nat)}, RDs K w xs vs → strsD xs = some bs → vs = (bs.map fun x => (Sum.inr (sv x) : Key)).map kV
  | [], vs, bs, h, e => by
    simp only [strsD, Option.some.injEq] at e
    subst e
    exact h.nil_inv
  | .str b :: r, vs, bs, h, e => by
    simp only [strsD] at e
    obtain ⟨bs', e1, rfl⟩ := Option.map_eq_some_iff.mp e
    obtain ⟨v, r', rfl, h1, h2⟩ := h.cons_inv
    rw [h1.strI.1, strs_rds h2 e1] <;> rfl
  | .non :: _, _, _, _, e => by simp [strsD] at e
  | .bl _ :: _, _, _, _, e => by simp [strsD] at e
  | .int _ :: _, _, _, _, e => by simp [strsD] at e
  | .tup _ :: _, _, _, _, e => by simp [strsD] at e
  | .lst _ :: _, _, _, _, e => by simp [strsD] at e
  | .loc _ :: _, _, _, _, e => by simp [strsD] at e
  | .scr _ :: _, _, _, _, e => by simp [strsD] at e
theorem px_idxA {a i : D} {va vi : V} (hs : RS K w S) (ha : RD K w a va) (hi : RD K w i vi) (h : Aft kx K W σ (RD K) w (pr .idx [a, i] S) Q) : rIxA K va vi w.H Q := by
  by_cases hl : ∃ n, rs S a = .loc n
  · obtain ⟨n, hn⟩ := hl
    have ra := RV.of hs ha
    simp only [pr] at h
    rw [hn] at ra h
    obtain ⟨p, rfl, e⟩ := ra.locI
    obtain ⟨m, e1, e2⟩ := hs.loc e
    cases i with
    | str k =>
      obtain ⟨rfl, ok⟩ := hi.strI
      simp only [e1] at h
      cases m with
      | dct kvs =>
        obtain ⟨x, ex, h⟩ := h.ofO
        rcases dget_of (k := k) hs e e1 with ⟨q1, q2⟩ | ⟨d, v, q1, q2, q3⟩
        · rw [q1] at ex; cases ex
        · rw [q1] at ex; cases ex
          exact .inr ⟨p, v, rfl, q2, h.val hs q3⟩
      | _ => exact h.elim
    | _ => exact h.elim
  · exact .inl (px_idx hs ha hi (fun n z => hl ⟨n, z⟩) h)

/-! ### d.get(k, x), d.setdefault(k, x), d[k] = x, {} -/
theorem px_get {a k d : D} {va vk vd : V} (hs : RS K w S) (ha : RD K w a va) (hk : RD K w k vk) (hd : RD K w d vd) (h : Aft kx K W σ (RD K) w (pr .get [a, k, d] S) Q) : ∃ p o, va = .ref p ∧ DGet w.H p vk o ∧ Q (o.getD vd) w.H := by
  cases a with
  | loc n =>
    obtain ⟨p, rfl, e⟩ := ha.locI
    obtain ⟨m, e1, e2⟩ := hs.loc e
    cases k with
    | str k =>
      obtain ⟨rfl, ok⟩ := hk.strI
      simp only [pr, e1] at h
      cases m with
      | dct kvs =>
        rcases dget_of (k := k) hs e e1 with ⟨q1, q2⟩ | ⟨d', v, q1, q2, q3⟩
        · simp only [q1] at h
          exact ⟨p, none, rfl, q2, h.val hs hd⟩
        · simp only [q1] at h
          exact ⟨p, some v, rfl, q2, h.val hs q3⟩
      | _ => exact h.elim
    | _ => exact h.elim
  | _ => cases k <;> exact h.elim
theorem px_setd {a k d : D} {va vk vd : V} (hs : RS K w S) (ha : RD K w a va) (hk : RD K w k vk) (hd : RD K w d vd) (h : Aft kx K W σ (RD K) w (pr .setd [a, k, d] S) Q) :
    ∃ p, va = .ref p ∧ ∃ (kvs : List (Key × V)) (y : Key), w.H p = some (.dK kvs) ∧ vk = kV y ∧ kvs.length < sizeLine ∧ (∀ v, valV kvs y = some v → Q v w.H) ∧ (valV kvs y = none → Q vd (upd w.H p (.dK (putK kvs y vd)))) := by
  cases a with
  | loc n =>
    obtain ⟨p, rfl, e⟩ := ha.locI
    obtain ⟨m, e1, e2⟩ := hs.loc e
    cases k with
    | str k =>
      obtain ⟨rfl, ok⟩ := hk.strI
      simp only [pr, e1] at h
      cases m with
      | dct kvs =>
        obtain ⟨ks, q1, q2, q3⟩ := e2
        have l := KVs.length q3
        dsimp only at h
        by_cases hz : kvs.length < szL
        · rw [if_pos hz] at h
          refine ⟨p, rfl, ks, Sum.inr (sv k), q1, rfl, by rw [l, ← szL_eq]; exact hz, fun v hv => ?_, fun hv => ?_⟩
          · rcases q3.val k with ⟨z1, z2⟩ | ⟨d', v', z1, z2, z3⟩
            · rw [z2] at hv; cases hv
            · rw [z2] at hv; cases hv
              rw [z1] at h
              exact h.val hs z3
          · rcases q3.val k with ⟨z1, z2⟩ | ⟨d', v', z1, z2, z3⟩
            · rw [z1] at h
              refine h vd (w.put p (.dK (putK ks (Sum.inr (sv k)) vd))) (Ext.put hs e) (hs.put e ⟨_, upd_same, ?_, KVs.ext (Ext.put hs e) _ _ (q3.put ok hd)⟩) (RD.ext (Ext.put hs e) _ _ hd)
              have := putD_len (kvs := kvs) (k := k) (d := d)
              omega
            · rw [z2] at hv; cases hv
        · rw [if_neg hz] at h; exact h.elim
      | _ => exact h.elim
    | _ => exact h.elim
  | _ => cases k <;> exact h.elim
theorem px_seti {a k d : D} {va vk vd : V} (hs : RS K w S) (ha : RD K w a va) (hk : RD K w k vk) (hd : RD K w d vd) (h : Aft kx K W σ (RD K) w (pr .seti [a, k, d] S) Q) :
    ∃ p H', va = .ref p ∧ DPut w.H p vk vd H' ∧ Q .non H' := by
  cases a with
  | loc n =>
    obtain ⟨p, rfl, e⟩ := ha.locI
    obtain ⟨m, e1, e2⟩ := hs.loc e
    cases k with
    | str k =>
      obtain ⟨rfl, ok⟩ := hk.strI
      simp only [pr, e1] at h
      cases m with
      | dct kvs =>
        obtain ⟨ks, q1, q2, q3⟩ := e2
        have l := KVs.length q3
        obtain ⟨hz, h⟩ := h.gd
        refine ⟨p, _, rfl, .inl ⟨ks, Sum.inr (sv k), q1, rfl, by rw [l, ← szL_eq]; exact hz, rfl⟩, ?_⟩
        refine h .non (w.put p (.dK (putK ks (Sum.inr (sv k)) vd))) (Ext.put hs e) (hs.put e ⟨_, upd_same, ?_, KVs.ext (Ext.put hs e) _ _ (q3.put ok hd)⟩) (by simp only [RD])
        have := putD_len (kvs := kvs) (k := k) (d := d)
        omega
      | _ => exact h.elim
    | _ => exact h.elim
  | _ => cases k <;> exact h.elim
theorem px_dnew (hs : RS K w S) (h : Aft kx K W σ (RD K) w (pr .dnew [] S) Q) : ∀ p, w.H p = none → Q (.ref p) (upd w.H p (.dK [])) := fun p hp => by
  simp only [pr] at h
  refine h (.ref p) (w.newM p (.dK [])) (Ext.newM hp) (hs.newM hp ⟨[], upd_same, by simp [szL], rfl⟩) ?_
  simp only [RD]
  exact ⟨p, rfl, by show (w.r ++ [p])[S.length]? = some p; rw [← hs.len]; simp⟩
end
end Eng

/-! Eng6c -/
set_option Elab.async false
set_option linter.all false
set_option maxRecDepth 100000
set_option maxHeartbeats 4000000
/-! sorted. -/
namespace Eng
open PySem PySem.Spec PyProof.Rows L2
section
variable {kx : Nat → Value} {K : PySem.W.Frag} {W : WX} {σ : L2.St} {w w' : Wd} {S : Sto} {Q : VK}
theorem sv_cp (s : Str) : sv s.cps.toList = s := by
  cases s; simp [sv]
theorem ris_of : ∀ (ys : List Str), sortedS ys = true → risS (ys.map fun s => s.cps.toList) = true
  | [], _ => rfl
  | [x], _ => rfl
  | x :: y :: r, h => by
    simp only [sortedS, risingS, Bool.and_eq_true, Bool.not_eq_true'] at h
    have ih := ris_of (y :: r) (by simpa [sortedS] using h.2)
    simp only [List.map_cons, risS, Bool.and_eq_true, Bool.not_eq_true'] at ih ⊢
    refine ⟨?_, ih⟩
    have := h.1
    rw [ltCps_eq] at this
    exact this
theorem sort_is {ys : List Str} {ss : List (List Nat)} (hp : ys.Perm (ss.map sv)) (hs : sortedS ys = true) : ys = (sortS ss).map sv := by
  have h1 : (ys.map fun s => s.cps.toList).Perm ss := by
    have := hp.map fun s => s.cps.toList
    rw [List.map_map] at this
    have e : ((fun s : Str => s.cps.toList) ∘ sv) = id := by funext x; simp [sv]
    rw [e, List.map_id] at this
    exact this
  have h2 := sort_uniq h1 (ris_of ys hs)
  rw [← h2, List.map_map]
  have e : (sv ∘ fun s : Str => s.cps.toList) = id := by funext x; exact sv_cp x
  rw [e, List.map_id]
theorem strs_ok : ∀ {xs : List D} {vs : List V} {ss : List (List Nat)}, RDs K w xs vs → strsD xs = some ss → vs = (ss.map sv).map V.str ∧ ∀ s ∈ ss, okS s
  | [], vs, bs, h, e => by
    simp only [strsD, Option.some.injEq] at e
    subst e
    exact ⟨h.nil_inv, fun s hs => by simp at hs⟩
  | .str b :: r, vs, bs, h, e => by
    simp only [strsD] at e
    obtain ⟨bs', e1, rfl⟩ := Option.map_eq_some_iff.mp e
    obtain ⟨v, r', rfl, h1, h2⟩ := h.cons_inv
    obtain ⟨q1, q2⟩ := strs_ok h2 e1
    refine ⟨by rw [h1.strI.1, q1] <;> rfl, fun s hs => ?_⟩
    rcases List.mem_cons.mp hs with rfl | hs
    · exact h1.strI.2
    · exact q2 s hs
  | .non :: _, _, _, _, e => by simp [strsD] at e
  | .bl _ :: _, _, _, _, e => by simp [strsD] at e
  | .int _ :: _, _, _, _, e => by simp [strsD] at e
  | .tup _ :: _, _, _, _, e => by simp [strsD] at e
  | .lst _ :: _, _, _, _, e => by simp [strsD] at e
  | .loc _ :: _, _, _, _, e => by simp [strsD] at e
  | .scr _ :: _, _, _, _, e => by simp [strsD] at e
theorem rds_strs : ∀ {ss : List (List Nat)}, (∀ s ∈ ss, okS s) → RDs K w (ss.map D.str) ((ss.map sv).map V.str)
  | [], _ => RDs.nil
  | s :: r, h => RDs.cons (by simp only [RD, true_and]; exact h s List.mem_cons_self) (rds_strs fun t ht => h t (List.mem_cons_of_mem _ ht))
theorem ins_mem {x y : List Nat} : ∀ {l : List (List Nat)}, y ∈ insS x l → y = x ∨ y ∈ l
  | [], h => by simp [insS] at h; exact .inl h
  | z :: l, h => by
    unfold insS at h
    split at h
    · rcases List.mem_cons.mp h with e | h
      · exact .inr (e ▸ List.mem_cons_self)
      · rcases ins_mem h with e | e
        · exact .inl e
        · exact .inr (List.mem_cons_of_mem _ e)
    · rcases List.mem_cons.mp h with e | h
      · exact .inl e
      · exact .inr h
theorem sort_mem {y : List Nat} : ∀ {l : List (List Nat)}, y ∈ sortS l → y ∈ l
  | [], h => h
  | x :: l, h => by
    rcases ins_mem (show y ∈ insS x (sortS l) from h) with e | e
    · exact e ▸ List.mem_cons_self
    · exact List.mem_cons_of_mem _ (sort_mem e)
theorem ins_length (x : List Nat) : ∀ l : List (List Nat), (insS x l).length = l.length + 1
  | [] => rfl
  | z :: l => by
    unfold insS
    split
    · simp [ins_length x l]
    · rfl
theorem sort_length : ∀ l : List (List Nat), (sortS l).length = l.length
  | [] => rfl
  | x :: l => by simp only [sortS, ins_length, sort_length l, List.length_cons]
def rSortX (K : PySem.W.Frag) : List V → Hp → VK → Prop := fun xs H Q => rSortedS K xs H Q ∨ (∃ (a : Addr) (kvs : List (Key × V)) (ks : List Str), xs = [.ref a] ∧ Rd H a (.dK kvs) ∧ kvs.map (·.1) = ks.map Sum.inr ∧ ks.length < 64 ∧
    ∀ ys p, ys.Perm ks → sortedS ys = true → H p = none → Q (.ref p) (upd H p (.lst (ys.map V.str))))
theorem call_sortX {X : Cx} (hc : X.calm = true) : CallR X (.builtin "sorted") (rSortX X.K) := cr_sortedS.or (call_sortedD hc)
theorem KVs.keys : ∀ {kvs : List (List Nat × D)} {ks : List (Key × V)}, KVs K w kvs ks → ks.map (·.1) = (kvs.map fun p => sv p.1).map Sum.inr
  | [], ks, h => by rw [show ks = [] from h] <;> rfl
  | (s, d) :: r, ks, h => by
    obtain ⟨v, r', rfl, h1, h2⟩ := h
    simp only [List.map_cons, KVs.keys h2]
theorem KVs.oks : ∀ {kvs : List (List Nat × D)} {ks : List (Key × V)}, KVs K w kvs ks → ∀ s ∈ kvs.map (·.1), okS s
  | [], ks, h, s, hs => by simp at hs
  | (k, d) :: r, ks, h, s, hs => by
    obtain ⟨v, r', rfl, h1, h2⟩ := h
    rcases List.mem_cons.mp hs with rfl | hs
    · exact h1.1
    · exact KVs.oks h2 s hs
theorem px_sorted {a : D} {va : V} (hs : RS K w S) (ha : RD K w a va) (h : Aft kx K W σ (RD K) w (pr .sorted [a] S) Q) : rSortX K [va] w.H Q := by
  have ra := RV.of hs ha
  simp only [pr] at h
  generalize rs S a = a' at ra h
  have fin : ∀ ss : List (List Nat), ss.length < 64 → (∀ s ∈ ss, okS s) → Aft kx K W σ (RD K) w (.ok (.lst ((sortS ss).map D.str)) S) Q → ∀ ys p, ys.Perm (ss.map sv) → sortedS ys = true → w.H p = none → Q (.ref p) (upd w.H p (.lst (ys.map V.str))) := by
    intro ss hl ho h ys p hp hr hn
    rw [sort_is hp hr]
    exact h.lst hs (by rw [List.length_map, sort_length]; unfold szL; omega) (rds_strs fun s hs => ho s (sort_mem hs)) p hn
  cases a' with
  | lst xs =>
    obtain ⟨p, vs, rfl, h1, h2, h3⟩ := ra.lstI
    cases e : strsD xs with
    | none => simp only [e] at h; exact h.elim
    | some ss =>
      simp only [e] at h
      obtain ⟨hl, h⟩ := h.gd
      obtain ⟨q1, q2⟩ := strs_ok h3 e
      exact .inl ⟨p, ss.map sv, rfl, by rw [← q1]; exact SqL.of h1, by simpa using hl, fin ss hl q2 h⟩
  | loc n =>
    obtain ⟨p, rfl, e⟩ := ra.locI
    obtain ⟨m, e1, e2⟩ := hs.loc e
    simp only [e1] at h
    cases m with
    | dct kvs =>
      obtain ⟨hl, h⟩ := h.gd
      obtain ⟨ks, q1, q2, q3⟩ := e2
      refine .inr ⟨p, ks, (kvs.map (·.1)).map sv, rfl, .inl q1, ?_, by simpa using hl, fin (kvs.map (·.1)) (by simpa using hl) q3.oks h⟩
      rw [q3.keys, List.map_map]
      simp [Function.comp_def]
    | _ => exact h.elim
  | _ => exact h.elim
end
end Eng

/-! Eng6d -/
set_option Elab.async false
set_option linter.all false
set_option maxRecDepth 100000
set_option maxHeartbeats 4000000
/-! dict of pairs, dict displays, count and index of lists. -/
namespace Eng
open PySem PySem.Spec PyProof.Rows L2
section
variable {kx : Nat → Value} {K : PySem.W.Frag} {W : WX} {σ : L2.St} {w w' : Wd} {S : Sto} {Q : VK}
/-! ### dict(..) -/
def TpH (H : Hp) (a : Addr) (vs : List V) : Prop := ∃ o : Obj, H a = some (.frz o (.tup vs)) ∧ o.dict = none
def rDictX (K : PySem.W.Frag) : List V → Hp → VK → Prop := fun xs H Q => ∃ (a : Addr) (ps : List Addr) (kvs : List (Key × V)), xs = [.ref a] ∧ (SqL K H a (ps.map V.ref) ∨ TpH H a (ps.map V.ref)) ∧ Paired (fun p kv => SqT K H p [kV kv.1, kv.2]) ps kvs ∧
    ∀ p, H p = none → Q (.ref p) (upd H p (.dK (mergeK [] kvs)))
theorem call_dictX {X : Cx} (hc : X.calm = true) : CallR X (.type "dict") (rDictX X.K) := by
  intro pins s σ H xs us Q I r q
  obtain ⟨a, ps, kvs, rfl, hq | hq, hp, q⟩ := q
  · exact call_dictP hc pins s σ H _ us Q I r ⟨a, ps, kvs, rfl, hq, hp, q⟩
  · obtain ⟨u, rfl, rx⟩ := vals1 r
    cases rx
    obtain ⟨o, ho, hd⟩ := hq
    obtain ⟨g1, g2, its, rv, g3⟩ := I.hok a _ ho
    obtain rfl := refs_at rv
    rw [List.length_map] at g2
    obtain ⟨prs, rel, hl, hpr⟩ := pairs_of I hp
    obtain ⟨o', e', hcl, n, hdat⟩ := g3
    rw [g1] at e'
    cases e'
    refine tup_dict (prs := prs) (I.ok.hd hc) g1 hcl hd hdat (by simp [hl]) (by rw [hl]; exact g2) (fun j q' e => ?_) fun h' tk hd' k => ?_
    · obtain ⟨b, u, e1, e2, e3⟩ := hpr j q' e
      exact ⟨b, u, by simp [e1], e2, e3⟩
    · have hm : (s.heap.objs.size == sysModules) = false := beq_eq_false_iff_ne.mpr (Nat.ne_of_gt I.big)
      have hlen : (mergeK [] kvs).length ≤ sizeLine := by
        refine Nat.le_trans (length_mergeK kvs []) ?_
        rw [List.length_nil, Nat.zero_add, rel.length, hl]
        exact g2
      exact ⟨.ref s.heap.objs.size, upd H s.heap.objs.size (.dK (mergeK [] kvs)), I.laid (t' := tk) k (Nat.le_refl _) (show ObjOk X.prog X.w _ _ _ (.dK (mergeK [] kvs)) from ⟨hlen, hm, merged [] prs, KV.merge rel .nil, hd'⟩), rfl, q _ (I.hok.fresh (Nat.le_refl _))⟩
theorem pairs_ok : ∀ {xs : List D} {vs : List V} {kvs : List (List Nat × D)}, RDs K w xs vs → pairsD xs = some kvs → ∃ (ps : List Addr) (ks : List (Key × V)), vs = ps.map V.ref ∧ Paired (fun p (kv : Key × V) => SqT K w.H p [kV kv.1, kv.2]) ps ks ∧ KVs K w kvs ks ∧ kvs.length = xs.length
  | [], vs, kvs, h, e => by
    simp only [pairsD, Option.some.injEq] at e
    subst e
    exact ⟨[], [], h.nil_inv, .nil, rfl, rfl⟩
  | x :: xs, vs, kvs, h, e => by
    obtain ⟨v, r, rfl, h1, h2⟩ := h.cons_inv
    unfold pairsD at e
    split at e
    · rename_i eq; cases eq
    · rename_i k d r' eq
      cases eq
      obtain ⟨kvs', e1, rfl⟩ := Option.map_eq_some_iff.mp e
      obtain ⟨ps, ks, rfl, q1, q2, q3⟩ := pairs_ok h2 e1
      obtain ⟨p, us, rfl, t1, t2, t3⟩ := h1.tupI
      obtain ⟨u1, us', rfl, d1, t4⟩ := t3.cons_inv
      obtain ⟨u2, us'', rfl, d2, t5⟩ := t4.cons_inv
      obtain rfl := t5.nil_inv
      obtain ⟨rfl, ok⟩ := d1.strI
      exact ⟨p :: ps, (Sum.inr (sv k), u2) :: ks, rfl, .cons t1.sq q1, ⟨u2, ks, rfl, ⟨ok, d2⟩, q2⟩, by simp [q3]⟩
    · cases e
theorem KVs.merge : ∀ {more : List (List Nat × D)} {ms : List (Key × V)} {kvs : List (List Nat × D)} {ks : List (Key × V)}, KVs K w kvs ks → KVs K w more ms → KVs K w (mergeD kvs more) (mergeK ks ms)
  | [], ms, kvs, ks, h, h' => by
    rw [show ms = [] from h']
    exact h
  | (k, d) :: more, ms, kvs, ks, h, h' => by
    obtain ⟨v, r', rfl, ⟨ok, rd⟩, h2⟩ := h'
    exact KVs.merge (kvs := putD k d kvs) (ks := putK ks (Sum.inr (sv k)) v) (h.put ok rd) h2
theorem mergeD_len : ∀ (more kvs : List (List Nat × D)), (mergeD kvs more).length ≤ kvs.length + more.length
  | [], kvs => by show kvs.length ≤ kvs.length + 0; omega
  | p :: r, kvs => by
    have h1 := mergeD_len r (putD p.1 p.2 kvs)
    have h2 := putD_len (kvs := kvs) (k := p.1) (d := p.2)
    show (mergeD (putD p.1 p.2 kvs) r).length ≤ _
    rw [List.length_cons]; omega
theorem new_dct {kvs : List (List Nat × D)} {ks : List (Key × V)} (hs : RS K w S) (hl : kvs.length ≤ szL) (hk : KVs K w kvs ks) (h : Aft kx K W σ (RD K) w (.ok (.loc S.length) (S ++ [.dct kvs])) Q) : ∀ p, w.H p = none → Q (.ref p) (upd w.H p (.dK ks)) := fun p hp => by
  refine h (.ref p) (w.newM p (.dK ks)) (Ext.newM hp) (hs.newM hp ⟨ks, upd_same, hl, KVs.ext (Ext.newM hp) _ _ hk⟩) ?_
  simp only [RD]
  exact ⟨p, rfl, by show (w.r ++ [p])[S.length]? = some p; rw [← hs.len]; simp⟩
theorem px_dictp {a : D} {va : V} (hs : RS K w S) (ha : RD K w a va) (h : Aft kx K W σ (RD K) w (pr .dictp [a] S) Q) : rDictX K [va] w.H Q := by
  have ra := RV.of hs ha
  simp only [pr] at h
  generalize rs S a = a' at ra h
  have fin : ∀ {xs : List D} {vs : List V} {kvs : List (List Nat × D)} {p : Addr}, RDs K w xs vs → pairsD xs = some kvs → xs.length ≤ szL → (SqL K w.H p vs ∨ TpH w.H p vs) → Aft kx K W σ (RD K) w (.ok (.loc S.length) (S ++ [.dct (mergeD [] kvs)])) Q → rDictX K [.ref p] w.H Q := by
    intro xs vs kvs p h3 e hl hv h
    obtain ⟨ps, ks, rfl, q1, q2, q3⟩ := pairs_ok h3 e
    have := mergeD_len kvs []
    rw [List.length_nil] at this
    exact ⟨p, ps, ks, rfl, hv, q1, new_dct hs (by omega) (KVs.merge (kvs := []) (ks := []) rfl q2) h⟩
  cases a' with
  | lst xs =>
    obtain ⟨p, vs, rfl, h1, h2, h3⟩ := ra.lstI
    cases e : pairsD xs with
    | none => simp only [e] at h; exact h.elim
    | some kvs =>
      simp only [e] at h
      obtain ⟨_, h⟩ := h.gd
      exact fin h3 e h2 (.inl (SqL.of h1)) h
  | tup xs =>
    obtain ⟨p, vs, rfl, h1, h2, h3⟩ := ra.tupI
    cases e : pairsD xs with
    | none => simp only [e] at h; exact h.elim
    | some kvs =>
      simp only [e] at h
      obtain ⟨_, h⟩ := h.gd
      exact fin h3 e h2 (.inr h1) h
  | _ => exact h.elim
/-! ### count, index -/
def rCntD (K : PySem.W.Frag) : V → List V → Hp → VK → Prop := fun x xs H Q => ∃ (a : Addr) (y : V) (d : PyData) (ds : List PyData), x = V.ref a ∧ xs = [y] ∧ Dp K H (V.ref a) (.list ds) ∧ Dp K H y d ∧ PyData.canLayAll0 ds = true ∧ d.canLay0 = true ∧ d.depth ≤ 190 ∧ Q (.int ((ds.countP fun z => PyData.eqv z d : Nat) : Int)) H
theorem mt_countD {X : Cx} (hu : X.A.units + 200 < cLine) : MtR X "list.count" (rCntD X.K) := by
  intro pins s σ H x xs v us Q I rx rxs h
  obtain ⟨a, y, d, ds, rfl, rfl, hl, hy, c1, c2, c3, q⟩ := h
  cases rx
  obtain ⟨uy, rfl, ry⟩ := rxs.one
  obtain ⟨bs, r1⟩ := Dp.reads I d y uy hy ry
  cases hl with
  | lst hs ha =>
    obtain ⟨its, rv, ⟨⟨cls, dd, data, sls⟩, n, ho, hc, hdn, hdt⟩, hlen⟩ := I.list hs
    simp only at hc hdt
    subst hc hdt
    obtain ⟨as, h4⟩ := Dp.readsAll I ds _ its ha rv
    have hmap : its.map (SeqAt.readOf s.heap) = ds := SeqAt.readsAll_map ds its as c1 h4
    refine call_meets PySem.F.slot_list_count ⟨_, ho, rfl⟩ PySem.F.entry_list_count (PySem.F.args_list_count_2 _ _)
      (SeqAt.list_countAt a its.toArray n dd sls uy (fun u => PyData.eqv (SeqAt.readOf s.heap u) d)) ⟨ho, SeqAt.items_eqAt (vs := its.toArray) (show ReadsAll s.heap its.toArray.toList ds as from h4) r1 c1 c2 (by have := Nat.min_le_right (PyData.depthAll ds) d.depth; omega), ?_⟩
    have ec : its.countP (fun u => PyData.eqv (SeqAt.readOf s.heap u) d) = ds.countP fun z => PyData.eqv z d := by
      rw [← hmap, List.countP_map]; rfl
    refine ⟨.int ((ds.countP fun z => PyData.eqv z d : Nat) : Int), H, I.tok _, ⟨s.toks, ?_⟩, q⟩
    show Value.int ((its.toArray.toList.countP (fun u => PyData.eqv (SeqAt.readOf s.heap u) d) : Nat) : Int) s.toks = _
    rw [← ec]
def rIndD (K : PySem.W.Frag) : V → List V → Hp → VK → Prop := fun x xs H Q => ∃ (a : Addr) (y : V) (d : PyData) (ds : List PyData) (j : Nat), x = V.ref a ∧ xs = [y] ∧ Dp K H (V.ref a) (.list ds) ∧ Dp K H y d ∧ PyData.canLayAll0 ds = true ∧ d.canLay0 = true ∧ d.depth ≤ 190 ∧ ds.findIdx? (fun z => PyData.eqv z d) = some j ∧ Q (.int (j : Nat)) H
theorem mt_indD {X : Cx} (hu : X.A.units + 200 < cLine) : MtR X "list.index" (rIndD X.K) := by
  intro pins s σ H x xs v us Q I rx rxs h
  obtain ⟨a, y, d, ds, j, rfl, rfl, hl, hy, c1, c2, c3, hj, q⟩ := h
  cases rx
  obtain ⟨uy, rfl, ry⟩ := rxs.one
  obtain ⟨bs, r1⟩ := Dp.reads I d y uy hy ry
  cases hl with
  | lst hs ha =>
    obtain ⟨its, rv, ⟨⟨cls, dd, data, sls⟩, n, ho, hc, hdn, hdt⟩, hlen⟩ := I.list hs
    simp only at hc hdt
    subst hc hdt
    obtain ⟨as, h4⟩ := Dp.readsAll I ds _ its ha rv
    have hmap : its.map (SeqAt.readOf s.heap) = ds := SeqAt.readsAll_map ds its as c1 h4
    have hvl := rv.length
    have hsl := sizeLine_eq
    obtain ⟨hjd, ht, hf⟩ := List.findIdx?_eq_some_iff_getElem.mp hj
    have hil : its.length = ds.length := by rw [← hmap, List.length_map]
    have at_ : ∀ (m : Nat) (hm : m < its.toArray.size) (hd : m < ds.length), SeqAt.readOf s.heap its.toArray[m] = ds[m] := by
      intro m hm hd
      have hml : m < its.length := by simpa using hm
      have e : (its.map (SeqAt.readOf s.heap))[m]? = ds[m]? := by rw [hmap]
      rw [List.getElem?_map, List.getElem?_eq_getElem hml, List.getElem?_eq_getElem hd] at e
      have e1 := Option.some.inj e
      simpa using e1
    have hjs : j < its.toArray.size := by simpa [hil] using hjd
    refine call_meets PySem.F.slot_list_index ⟨_, ho, rfl⟩ PySem.F.entry_list_index (PySem.F.args_list_index_2 _ _)
      (SeqAt.list_indexAt a its.toArray n dd sls uy (fun u => PyData.eqv (SeqAt.readOf s.heap u) d) j hjs (by omega) ?_ ?_) ⟨ho, SeqAt.items_eqAt (vs := its.toArray) (show ReadsAll s.heap its.toArray.toList ds as from h4) r1 c1 c2 (by have := Nat.min_le_right (PyData.depthAll ds) d.depth; omega), ?_⟩
    · show PyData.eqv (SeqAt.readOf s.heap its.toArray[j]) d = true
      rw [at_ j hjs hjd]
      exact ht
    · intro m hm hmj
      show PyData.eqv (SeqAt.readOf s.heap its.toArray[m]) d = false
      rw [at_ m hm (by omega)]
      simpa using hf m hmj
    · exact ⟨.int (j : Nat), H, I.tok _, ⟨_, rfl⟩, q⟩
theorem toPs_map : ∀ xs : List D, D.toPs xs = xs.map D.toP
  | [] => by simp only [D.toPs, List.map_nil]
  | x :: xs => by simp only [D.toPs, List.map_cons, toPs_map xs]
theorem dps_mem : ∀ {xs : List D} {x : D}, x ∈ xs → x.dp ≤ D.dps xs
  | y :: ys, x, h => by
    simp only [D.dps]
    rcases List.mem_cons.mp h with rfl | h
    · omega
    · have := dps_mem h
      omega
theorem cnt_toP {a : D} (ha : a.dp ≤ dpL) {xs : List D} (hx : D.dps xs ≤ dpL) : (D.toPs xs).countP (fun z => PyData.eqv z a.toP) = xs.countP (fun y => y.eqv a) := by
  rw [toPs_map, List.countP_map]
  refine List.countP_congr fun x hm => ?_
  have := dps_mem hm
  show PyData.eqv x.toP a.toP = true ↔ _
  rw [toP_eqv x a (by omega) ha]
theorem ind_toP {a : D} (ha : a.dp ≤ dpL) : ∀ {xs : List D}, D.dps xs ≤ dpL → (D.toPs xs).findIdx? (fun z => PyData.eqv z a.toP) = xs.findIdx? (fun y => y.eqv a)
  | [], _ => by simp only [D.toPs, List.findIdx?_nil]
  | x :: xs, hx => by
    simp only [D.dps] at hx
    simp only [D.toPs, List.findIdx?_cons]
    rw [toP_eqv x a (by omega) ha, ind_toP ha (by omega)]
theorem lstD {xs : List D} {v : V} (h : RV K w (.lst xs) v) (hd : D.dps xs ≤ dpL) : ∃ a, v = .ref a ∧ Dp K w.H (.ref a) (.list (D.toPs xs)) ∧ PyData.canLayAll0 (D.toPs xs) = true := by
  obtain ⟨a, vs, rfl, h1, h2, h3⟩ := h.lstI
  obtain ⟨q1, q2⟩ := RDs.dp xs vs hd h3
  exact ⟨a, rfl, .lst (SqL.of h1) q1, q2⟩
theorem px_count {a x : D} {va vx : V} (hs : RS K w S) (ha : RD K w a va) (hx : RD K w x vx) (h : Aft kx K W σ (RD K) w (pr .count [a, x] S) Q) : rCntD K va [vx] w.H Q := by
  have ra := RV.of hs ha
  simp only [pr] at h
  generalize rs S a = a' at ra h
  cases a' with
  | lst xs =>
    obtain ⟨⟨g1, g2⟩, h⟩ := h.gd
    obtain ⟨p, rfl, q1, q2⟩ := lstD ra g2
    obtain ⟨p1, p2⟩ := RD.dp x vx g1 hx
    refine ⟨p, vx, _, _, rfl, rfl, q1, p1, q2, p2, by rw [toP_depth _ g1]; exact g1, ?_⟩
    rw [cnt_toP g1 g2]
    exact h.int hs
  | _ => exact h.elim
def rIndT (K : PySem.W.Frag) : V → List V → Hp → VK → Prop := fun x xs H Q => ∃ (a : Addr) (y : V) (d : PyData) (ds : List PyData) (j : Nat), x = V.ref a ∧ xs = [y] ∧ Dp K H (V.ref a) (.tuple ds) ∧ Dp K H y d ∧ PyData.canLayAll0 ds = true ∧ d.canLay0 = true ∧ d.depth ≤ 190 ∧ ds.findIdx? (fun z => PyData.eqv z d) = some j ∧ Q (.int (j : Nat)) H
theorem mt_indT {X : Cx} (hu : X.A.units + 200 < cLine) : MtR X "tuple.index" (rIndT X.K) := by
  intro pins s σ H x xs v us Q I rx rxs h
  obtain ⟨a, y, d, ds, j, rfl, rfl, hl, hy, c1, c2, c3, hj, q⟩ := h
  cases rx
  obtain ⟨uy, rfl, ry⟩ := rxs.one
  obtain ⟨bs, r1⟩ := Dp.reads I d y uy hy ry
  cases hl with
  | tup hs ha =>
    obtain ⟨its, rv, ⟨⟨cls, dd, data, sls⟩, ho, hc, n, hdt⟩, hlen⟩ := I.tuple hs
    simp only at hc hdt
    subst hc hdt
    obtain ⟨as, h4⟩ := Dp.readsAll I ds _ its ha rv
    have hmap : its.map (SeqAt.readOf s.heap) = ds := SeqAt.readsAll_map ds its as c1 h4
    have hvl := rv.length
    obtain ⟨hjd, ht, hf⟩ := List.findIdx?_eq_some_iff_getElem.mp hj
    have hil : its.length = ds.length := by rw [← hmap, List.length_map]
    have at_ : ∀ (m : Nat) (hm : m < its.toArray.size) (hd : m < ds.length), SeqAt.readOf s.heap its.toArray[m] = ds[m] := by
      intro m hm hd
      have hml : m < its.length := by simpa using hm
      have e : (its.map (SeqAt.readOf s.heap))[m]? = ds[m]? := by rw [hmap]
      rw [List.getElem?_map, List.getElem?_eq_getElem hml, List.getElem?_eq_getElem hd] at e
      have e1 := Option.some.inj e
      simpa using e1
    have hjs : j < its.toArray.size := by simpa [hil] using hjd
    refine call_meets PySem.F.slot_tuple_index ⟨_, ho, rfl⟩ PySem.F.entry_tuple_index (PySem.F.args_tuple_index_2 _ _)
      (TI.tuple_indexAt a its.toArray n dd sls uy (fun u => PyData.eqv (SeqAt.readOf s.heap u) d) j hjs ?_ ?_) ⟨ho, SeqAt.items_eqAt (vs := its.toArray) (show ReadsAll s.heap its.toArray.toList ds as from h4) r1 c1 c2 (by have := Nat.min_le_right (PyData.depthAll ds) d.depth; omega), ?_⟩
    · show PyData.eqv (SeqAt.readOf s.heap its.toArray[j]) d = true
      rw [at_ j hjs hjd]
      exact ht
    · intro m hm hmj
      show PyData.eqv (SeqAt.readOf s.heap its.toArray[m]) d = false
      rw [at_ m hm (by omega)]
      simpa using hf m hmj
    · exact ⟨.int (j : Nat), H, I.tok _, ⟨_, rfl⟩, q⟩
theorem tupDp {xs : List D} {v : V} (h : RV K w (.tup xs) v) (hd : D.dps xs ≤ dpL) : ∃ a vs, v = .ref a ∧ TpH w.H a vs ∧ Dp K w.H (.ref a) (.tuple (D.toPs xs)) ∧ PyData.canLayAll0 (D.toPs xs) = true := by
  obtain ⟨a, vs, rfl, h1, h2, h3⟩ := h.tupI
  obtain ⟨q1, q2⟩ := RDs.dp xs vs hd h3
  exact ⟨a, vs, rfl, h1, .tup h1.sq q1, q2⟩
/-- index of a list, or of a tuple -/
theorem px_index {a x : D} {va vx : V} (hs : RS K w S) (ha : RD K w a va) (hx : RD K w x vx) {xs : List D} (e0 : rs S a = .lst xs) (h : Aft kx K W σ (RD K) w (pr .index [a, x] S) Q) : rIndD K va [vx] w.H Q := by
  have ra := RV.of hs ha
  simp only [pr] at h
  rw [e0] at ra h
  simp only at h
  cases e : xs.findIdx? (fun y => y.eqv x) with
  | none => simp only [e] at h; exact h.elim
  | some j =>
    simp only [e] at h
    obtain ⟨⟨g1, g2⟩, h⟩ := h.gd
    obtain ⟨p, rfl, q1, q2⟩ := lstD ra g2
    obtain ⟨p1, p2⟩ := RD.dp x vx g1 hx
    exact ⟨p, vx, _, _, j, rfl, rfl, q1, p1, q2, p2, by rw [toP_depth _ g1]; exact g1, by rw [ind_toP g1 g2]; exact e, h.int hs⟩
theorem px_indexT {a x : D} {va vx : V} (hs : RS K w S) (ha : RD K w a va) (hx : RD K w x vx) {xs : List D} (e0 : rs S a = .tup xs) (h : Aft kx K W σ (RD K) w (pr .index [a, x] S) Q) : rIndT K va [vx] w.H Q := by
  have ra := RV.of hs ha
  simp only [pr] at h
  rw [e0] at ra h
  simp only at h
  cases e : xs.findIdx? (fun y => y.eqv x) with
  | none => simp only [e] at h; exact h.elim
  | some j =>
    simp only [e] at h
    obtain ⟨⟨g1, g2⟩, h⟩ := h.gd
    obtain ⟨p, vs, rfl, _, q1, q2⟩ := tupDp ra g2
    obtain ⟨p1, p2⟩ := RD.dp x vx g1 hx
    exact ⟨p, vx, _, _, j, rfl, rfl, q1, p1, q2, p2, by rw [toP_depth _ g1]; exact g1, by rw [ind_toP g1 g2]; exact e, h.int hs⟩
/-- o.index(e): o a list, or a tuple -/
theorem pe_index {X : Cx} {o e : Expr} {to : TE} {t : TA} {apos cpos : Pos} {rL rT : V → List V → Hp → VK → Prop} (hmL : MtR X "list.index" rL) (hmT : MtR X "tuple.index" rT) (ho : PE X o to) (ha : PA X [e] t)
    (hbase : attributeBase o "index" X.env (eval o X.env) = eval o X.env)
    (hfew : ((backTo cpos (starEach [e] X.env)).all (fun x => !x.1) && (backToKw cpos (keywordEach [] X.env)).all (fun x => x.1.isSome)
      && decide ([e].length + ([] : List Keyword).length + (if ([] : List Keyword).isEmpty then 0 else 1) < 30)) = true)
    (hline : (apos.endLine == cpos.line) = true) (hs : starEach [e] X.env = (false, eval e X.env) :: starEach [] X.env) (hplain : (backTo cpos (starEach [] X.env)).any (·.1) = false) :
    PE X (.Call (.Attribute o "index" apos) [e] [] cpos) (fun σ H Q => to σ H fun x H1 => (tyV X.K "list" x H1 ∧ t σ H1 fun xs H2 => rL x xs H2 Q) ∨ ((∃ a vs, x = .ref a ∧ TpH H1 a vs) ∧ t σ H1 fun xs H2 => rT x xs H2 Q)) := by
  refine ⟨fun pins s σ H Q I h => ?_⟩
  refine wpAny_Call_method_late hbase hfew hline rfl (thn (ho.run pins s σ H _ I h) fun v s1 ⟨x, H1, I1, r1, q1⟩ => ?_)
  rcases q1 with ⟨ty, q1⟩ | ⟨ty, q1⟩
  · obtain ⟨h1, h2⟩ := tyV_is I1 r1 ty
    refine ⟨"list", "list.index", PySem.F.plainAttrs_list, PySem.F.slot_list_index, PySem.F.type_list_index, h1, h2, ?_⟩
    have hA := ha.run cpos pins s1 σ H1 _ I1 q1
    rw [hs] at hA ⊢
    refine Calls.callWith_builtin (by show (false || (backTo cpos (starEach [] X.env)).any (·.1)) = false; rw [hplain] <;> rfl) (Calls.evalArgs_plain ?_)
    exact thn hA fun us s2 ⟨vs, H2, I2, r2, q2⟩ => hmL pins s2 σ H2 x vs v us Q I2 r1 r2 q2
  · obtain ⟨a, vs, rfl, o1, ho1, hd1⟩ := ty
    cases r1
    obtain ⟨g1, g2, its, rv, g3⟩ := I1.hok a _ ho1
    have hT : s1.TypeIs (.ref a) "tuple" := g3.typeIs
    refine ⟨"tuple", "tuple.index", PySem.F.plainAttrs_tuple, PySem.F.slot_tuple_index, PySem.F.type_tuple_index, hT, fun b e => ?_, ?_⟩
    · cases e
      exact ⟨o1, g1, hd1⟩
    have hA := ha.run cpos pins s1 σ H1 _ I1 q1
    rw [hs] at hA ⊢
    refine Calls.callWith_builtin (by show (false || (backTo cpos (starEach [] X.env)).any (·.1)) = false; rw [hplain] <;> rfl) (Calls.evalArgs_plain ?_)
    exact thn hA fun us s2 ⟨vs, H2, I2, r2, q2⟩ => hmT pins s2 σ H2 (.ref a) vs (.ref a) us Q I2 rfl r2 q2
/-! ### {k: v, ..} -/
theorem Ext.adopt {p : Addr} {o o' : HO} {w2 : Wd} (hp : w.H p = none) (x : Ext (w.new p o) w2) : Ext w ⟨upd w2.H p o', w2.F, w2.r ++ [p]⟩ := by
  have at_ : ∀ b, w.H b ≠ none → b ≠ p := fun b hb e => hb (e ▸ hp)
  have old : ∀ b, w.H b ≠ none → (w.new p o).H b = w.H b := fun b hb => upd_ne (at_ b hb)
  refine ⟨⟨fun b xs h => ?_, fun b o2 u h => ?_, fun b xs f h => ?_, fun b f => x.phi b f, ?_⟩, fun b h1 h2 h3 => ?_⟩
  · have hb : w.H b ≠ none := by rw [h]; simp
    show upd w2.H p o' b = _
    rw [upd_ne (at_ b hb)]
    exact x.tup b xs ((old b hb).trans h)
  · have hb : w.H b ≠ none := by rw [h]; simp
    show upd w2.H p o' b = _
    rw [upd_ne (at_ b hb)]
    exact x.frz b o2 u ((old b hb).trans h)
  · have hb : w.H b ≠ none := by rw [h]; simp
    show upd w2.H p o' b = _
    rw [upd_ne (at_ b hb)]
    exact x.lst b xs f ((old b hb).trans h)
  · obtain ⟨m, e⟩ := x.rho
    exact ⟨m ++ [p], by show w2.r ++ [p] = _; rw [e, List.append_assoc] <;> rfl⟩
  · obtain ⟨e1, e2, e3⟩ := x.frm b h1 h2 (by rw [old b h3]; exact h3)
    refine ⟨?_, e2, fun hm => ?_⟩
    · show upd w2.H p o' b = _
      rw [upd_ne (at_ b h3), e1, old b h3]
    · rcases List.mem_append.mp (show b ∈ w2.r ++ [p] from hm) with hm | hm
      · exact e3 hm
      · simp at hm; exact at_ b h3 hm
theorem RS.adopt {p : Addr} {ks0 : List (Key × V)} {o' : HO} {w2 : Wd} {S2 : Sto} {m : MO} (rs : RS K w2 S2) (hp : w2.H p = some (.dK ks0)) (nF : ¬ w2.F p) (nr : p ∉ w2.r) (hm : MOk K ⟨upd w2.H p o', w2.F, w2.r ++ [p]⟩ p m) : RS K ⟨upd w2.H p o', w2.F, w2.r ++ [p]⟩ (S2 ++ [m]) := by
  have k : Wk w2 ⟨upd w2.H p o', w2.F, w2.r ++ [p]⟩ := by
    refine ⟨fun b xs h => ?_, fun b o2 u h => ?_, fun b xs f h => ?_, fun b f => f, ⟨[p], rfl⟩⟩
    all_goals
      show upd w2.H p o' b = _
      rw [upd_ne (fun e => by subst e; rw [hp] at h; cases h)]
      exact h
  have len := rs.len
  refine ⟨by show (w2.r ++ [p]).length = _; simp [len], ?_, fun a ha => ?_, fun a f => ?_, fun n a o e1 e2 => ?_⟩
  · show (w2.r ++ [p]).Nodup
    rw [List.nodup_append]
    exact ⟨rs.nd, by simp, fun y hy b hb e => by simp at hb; subst hb; subst e; exact nr hy⟩
  · rcases List.mem_append.mp (show a ∈ w2.r ++ [p] from ha) with h | h
    · exact rs.apart a h
    · simp at h; subst h; exact nF
  · show upd w2.H p o' a ≠ none
    by_cases e : a = p
    · subst e; rw [upd_same]; simp
    · rw [upd_ne e]; exact rs.live a f
  · have e0 : (w2.r ++ [p])[n]? = some a := e1
    clear e1
    have e1 := e0
    by_cases hn : n < w2.r.length
    · rw [List.getElem?_append_left hn] at e1
      rw [List.getElem?_append_left (by omega)] at e2
      refine (rs.obj n a o e1 e2).wk k ?_
      show upd w2.H p o' a = _
      have hne : a ≠ p := fun e => nr (by rw [← e]; exact List.mem_of_getElem? e1)
      exact upd_ne hne
    · rw [List.getElem?_append_right (by omega)] at e1
      rw [List.getElem?_append_right (by omega)] at e2
      cases q : n - w2.r.length with
      | zero =>
        rw [q] at e1
        rw [← len, q] at e2
        simp at e1 e2
        subst e1; subst e2
        exact hm
      | succ i => rw [q] at e1; simp at e1
def flV : List (V × V) → List V
  | [] => []
  | p :: r => p.1 :: p.2 :: flV r
theorem flat_ok : ∀ {ds : List D} {kvs : List (List Nat × D)} {ps : List (V × V)}, RDs K w ds (flV ps) → pairsF ds = some kvs → ∃ ks : List (Key × V), ps = ks.map (fun kv => (kV kv.1, kv.2)) ∧ KVs K w kvs ks ∧ ks.length = kvs.length
  | [], kvs, ps, h, e => by
    simp only [pairsF, Option.some.injEq] at e
    subst e
    cases ps with
    | nil => exact ⟨[], rfl, rfl, rfl⟩
    | cons _ _ => have := h.nil_inv; simp [flV] at this
  | [x], kvs, ps, h, e => by cases x <;> simp [pairsF] at e
  | x :: d :: r, kvs, ps, h, e => by
    cases x with
    | str k =>
      simp only [pairsF] at e
      obtain ⟨kvs', e1, rfl⟩ := Option.map_eq_some_iff.mp e
      cases ps with
      | nil => obtain ⟨_, _, q, _⟩ := h.cons_inv; simp [flV] at q
      | cons p ps =>
        obtain ⟨v, r1, q, h1, h2⟩ := h.cons_inv
        obtain ⟨u, r2, q2, h3, h4⟩ := h2.cons_inv
        subst q2
        simp only [flV, List.cons.injEq] at q
        obtain ⟨q3, q4, q5⟩ := q
        obtain ⟨a, b⟩ := p
        dsimp only at q3 q4
        subst q3 q4 q5
        obtain ⟨ks, rfl, k1, k2⟩ := flat_ok h4 e1
        obtain ⟨rfl, ok⟩ := h1.strI
        exact ⟨(Sum.inr (sv k), b) :: ks, rfl, ⟨b, ks, rfl, ⟨ok, h3⟩, k1⟩, by simp [k2]⟩
    | _ => simp [pairsF] at e
/-- the display, its parts evaluated -/
theorem px_dlit {p : Addr} {ds : List D} {ps : List (V × V)} {w2 : Wd} {S2 : Sto} (hs : RS K w S) (hp : w.H p = none) (x : Ext (w.new p (.dK [])) w2) (rs2 : RS K w2 S2) (rd : RDs K w2 ds (flV ps)) (h : Aft kx K W σ (RD K) w (pr .dlit ds S2) Q) :
    w2.H p = some (.dK []) ∧ ∃ kvs : List (Key × V), ps = kvs.map (fun kv => (kV kv.1, kv.2)) ∧ kvs.length ≤ 15 ∧ Q (.ref p) (upd w2.H p (.dK (mergeK [] kvs))) := by
  obtain ⟨e1, e2, e3⟩ := x.frm p (hs.notF hp) (hs.notIn hp) (by show upd w.H p _ p ≠ none; rw [upd_same]; simp)
  have e1 : w2.H p = some (.dK []) := e1.trans upd_same
  refine ⟨e1, ?_⟩
  simp only [pr] at h
  cases e : pairsF ds with
  | none => simp only [e] at h; exact h.elim
  | some kvs =>
    simp only [e] at h
    obtain ⟨hl, h⟩ := h.gd
    obtain ⟨ks, rfl, k1, k2⟩ := flat_ok rd e
    refine ⟨ks, rfl, by omega, ?_⟩
    have hlen := mergeD_len kvs []
    rw [List.length_nil] at hlen
    have k : Wk w2 ⟨upd w2.H p (.dK (mergeK [] ks)), w2.F, w2.r ++ [p]⟩ := by
      refine ⟨fun b xs h => ?_, fun b o2 u h => ?_, fun b xs f h => ?_, fun b f => f, ⟨[p], rfl⟩⟩
      all_goals
        show upd w2.H p _ b = _
        rw [upd_ne (fun e => by subst e; rw [e1] at h; cases h)]
        exact h
    refine h (.ref p) ⟨upd w2.H p (.dK (mergeK [] ks)), w2.F, w2.r ++ [p]⟩ (Ext.adopt hp x) (rs2.adopt e1 e2 e3 ⟨mergeK [] ks, upd_same, by unfold szL; omega, KVs.wk k _ _ (KVs.merge (kvs := []) (ks := []) rfl k1)⟩) ?_
    simp only [RD]
    exact ⟨p, rfl, by show (w2.r ++ [p])[S2.length]? = some p; rw [← rs2.len]; simp⟩
end
end Eng

/-! Eng7 -/
set_option Elab.async false
set_option linter.all false
set_option maxRecDepth 100000
set_option maxHeartbeats 4000000
/-! From the program's text to the small language. -/
namespace Eng
open PySem PySem.Spec PyProof.Rows L2

/-- what the module's names are: constants, defs (number, how many arguments), classes of errors -/
structure GE where
  consts : List (Str × D)
  funs : List (Str × (Nat × Nat))
  excs : List (Str × Nat)
structure Ct where
  g : GE
  N : List Str
  sc : Scope

def idxOf (x : Str) : List Str → Option Nat
  | [] => none
  | y :: r => if y = x then some 0 else (idxOf x r).map (· + 1)
theorem idxOf_get {x : Str} : ∀ {N : List Str} {i : Nat}, idxOf x N = some i → N[i]? = some x
  | [], i, h => by cases h
  | y :: r, i, h => by
    unfold idxOf at h
    split at h
    · cases h; rename_i e; simp [e]
    · obtain ⟨j, h1, rfl⟩ := Option.map_eq_some_iff.mp h
      simpa using idxOf_get h1
def okName (x : Str) : Bool := !(x == ("__debug__" : Str)) && !(x == ("__classdict__" : Str)) && decide (x ≠ "__name__")
/-- a name that is read -/
def slotR (c : Ct) (x : Str) : Option Nat := if okName x then (match c.sc.names.lookup x with
  | some .local => idxOf x c.N
  | some .cell => idxOf x c.N
  | some .free => idxOf x c.N
  | _ => none) else none
/-- a name that is stored -/
def slotW (c : Ct) (x : Str) : Option Nat := match c.sc.names.lookup x with
  | some .local => idxOf x c.N
  | some .cell => idxOf x c.N
  | _ => none
def isGl (c : Ct) (x : Str) : Bool := okName x && (match c.sc.names.lookup x with
  | some .globalImplicit => true
  | _ => false)

def mapO {a b : Type} (f : a → Option b) : List a → Option (List b)
  | [] => some []
  | x :: xs => match f x with
    | none => none
    | some y => match mapO f xs with
      | none => none
      | some ys => some (y :: ys)

def trC : Const → Option E
  | .none => some (.con .non)
  | .bool b => some (.con (.bl b))
  | .int i => some (.con (.int i))
  | .str x => if x.length ≤ 10000 ∧ x.cps.toList.all (· < 1114112) = true then some (.con (.str x.cps.toList)) else none
  | _ => none
def bOp : Operator → Option Pr
  | .Add => some .add
  | .Sub => some .sub
  | .Mult => some .mul
  | .FloorDiv => some .fdiv
  | .Mod => some .mod
  | _ => none
def cOp : CmpOp → Option Pr
  | .Eq => some .eq
  | .NotEq => some .ne
  | .Lt => some .lt
  | .LtE => some .le
  | .Gt => some .gt
  | .GtE => some .ge
  | .In => some .isin
  | .NotIn => some .notin
  | _ => none
def b1 (x : Str) : Option Pr :=
  if x = "len" then some .len else if x = "all" then some .all else if x = "any" then some .any else if x = "sum" then some .sum
  else if x = "tuple" then some .tuple else if x = "list" then some .list else if x = "int" then some .int else if x = "max" then some .maxl else if x = "sorted" then some .sorted else if x = "dict" then some .dictp else none
def b2 (x : Str) : Option Pr := if x = "min" then some .min2 else if x = "max" then some .max2 else none
def tyOf (x : Str) : Option Ty :=
  if x = "str" then some .str else if x = "tuple" then some .tup else if x = "int" then some .int else if x = "bool" then some .bool else if x = "list" then some .list else none
def tyE (c : Ct) : Expr → Option Ty
  | .Name x _ => if isGl c x then tyOf x else none
  | _ => none
/-- the built-ins' names that the module must not bind -/
def BN : List Str := ["len", "all", "any", "sum", "tuple", "list", "int", "max", "min", "str", "bool", "isinstance", "range", "enumerate", "zip", "sorted", "set", "dict"]
def m0 (m : Str) : Option Pr := if m = "upper" then some .upper else none
def m1 (m : Str) : Option Pr := if m = "append" then some .app else if m = "extend" then some .ext else if m = "count" then some .count else if m = "index" then some .index else none
def m2 (m : Str) : Option Pr := if m = "get" then some .get else if m = "setdefault" then some .setd else none
/-- no super().m -/
def okRecv : Expr → Bool
  | .Name _ _ => true
  | .Constant _ _ _ => true
  | .Attribute _ _ _ => true
  | .Subscript _ _ _ => true
  | .Call (.Name _ _) (_ :: _) _ _ => true
  | _ => false
/-- a comprehension's own names with their places -/
def ownOf (N : List Str) (scope : Scope) : List (Str × Nat) := scope.names.filterMap fun y => match y.2 with
  | .local => (idxOf y.1 N).map fun i => (y.1, i)
  | .cell => (idxOf y.1 N).map fun i => (y.1, i)
  | _ => none
def nameIx (c : Ct) : Expr → Option Nat
  | .Name x _ => slotW c x
  | _ => none
def trT (c : Ct) : Expr → Option (List Nat × Bool)
  | .Name x _ => (slotW c x).map fun i => ([i], false)
  | .Tuple es _ _ => (mapO (nameIx c) es).map fun is => (is, true)
  | _ => none
def isTupT : Expr → Bool
  | .Tuple _ _ _ => true
  | _ => false
def subCt (c : Ct) (scope : Scope) : Ct := { c with sc := relS scope c.sc }

def flE : List (E × E) → List E
  | [] => []
  | p :: r => p.1 :: p.2 :: flE r
abbrev Rec := Ct → Expr → Option E
section
variable (R : Rec) (c : Ct)
/-- what is walked -/
def trSrc (tg it : Expr) : Option (SK × List E) := match it with
  | .Call (.Name x p) args [] p2 =>
    if isGl c x = true ∧ c.g.funs.lookup x = none then
      (if x = "range" then (match args with
        | [a] => (R c a).map fun e => (.rng, [e])
        | [a, b] => match R c a, R c b with
          | some a', some b' => some (.rng, [a', b'])
          | _, _ => none
        | [a, b, d] => match R c a, R c b, R c d with
          | some a', some b', some d' => some (.rng, [a', b', d'])
          | _, _, _ => none
        | _ => none)
      else if x = "enumerate" then (match args with
        | [a] => if isTupT tg = true then (R c a).map fun e => (.enum, [e]) else none
        | _ => none)
      else if x = "zip" then (match args with
        | [a, b] => if isTupT tg = true then (match R c a, R c b with
          | some a', some b' => some (.zip, [a', b'])
          | _, _ => none) else none
        | _ => none)
      else (R c (.Call (.Name x p) args [] p2)).map fun e => (.seq, [e]))
    else (R c (.Call (.Name x p) args [] p2)).map fun e => (.seq, [e])
  | it => (R c it).map fun e => (.seq, [e])
def trCall (f : Str) (args : List Expr) : Option E := if isGl c f = true then (match c.g.funs.lookup f with
  | some (i, ar) => if args.length = ar ∧ 0 < ar then (mapO (R c) args).map fun es => .call i es else none
  | none => if f ∈ BN then (match args with
    | [a] => match b1 f, R c a with
      | some p, some a' => some (.pr p [a'])
      | _, _ => none
    | [a, b] => if f = "isinstance" then (match b with
        | .Tuple (t :: ts) _ _ => if ts.length ≤ 100 then (match R c a, mapO (tyE c) (t :: ts) with
          | some a', some ts' => some (.pr (.isi ts') [a'])
          | _, _ => none) else none
        | b => match R c a, tyE c b with
          | some a', some t => some (.pr (.isi [t]) [a'])
          | _, _ => none)
      else match b2 f, R c a, R c b with
        | some p, some a', some b' => some (.pr p [a', b'])
        | _, _, _ => none
    | _ => none) else none) else none
def trMeth (o : Expr) (m : Str) (args : List Expr) : Option E := match args with
  | [] => match m0 m, R c o with
    | some p, some o' => some (.mth p o' [])
    | _, _ => none
  | [a] => match m1 m, R c o, R c a with
    | some p, some o', some a' => some (.mth p o' [a'])
    | _, _, _ => none
  | [a, b] => match m2 m, R c o, R c a, R c b with
    | some p, some o', some a', some b' => some (.mth p o' [a', b'])
    | _, _, _, _ => none
  | _ => none
def trComp (elt tg it : Expr) (ifs : List Expr) (scope : Scope) : Option E :=
  if blkC c.N c.sc scope (ownOf c.N scope) = true then
    match trT (subCt c scope) tg, trSrc R c tg it, mapO (R (subCt c scope)) ifs, R (subCt c scope) elt with
    | some (is, un), some (k, es), some cs, some e' => if is.all (fun i => ((ownOf c.N scope).map (·.2)).contains i) = true ∧ cs.length ≤ 1 then some (.comp ((ownOf c.N scope).map (·.2)) is un k es cs e') else none
    | _, _, _, _ => none
  else none
def trCmp (a : Expr) : List CmpOp → List Expr → Option E
  | [op], [b] => (match op with
    | .Is => match b with
      | .Constant k _ _ => (match R c a, trC k with
        | some a', some (.con d) => some (.pr (.isc d) [a'])
        | _, _ => none)
      | _ => none
    | .IsNot => match b with
      | .Constant k _ _ => (match R c a, trC k with
        | some a', some (.con d) => some (.pr (.isntc d) [a'])
        | _, _ => none)
      | _ => none
    | op => match cOp op, R c a, R c b with
      | some p, some a', some b' => some (.pr p [a', b'])
      | _, _, _ => none)
  | [o1, o2], [b, d] => match cOp o1, cOp o2, R c a, R c b, R c d with
    | some p, some q, some a', some b', some d' => some (.chn p q a' b' d')
    | _, _, _, _, _ => none
  | _, _ => none
def trSub (v i : Expr) : Option E := match i with
  | .Slice lo hi st _ => (match st with
    | none => (match lo, hi with
      | none, none => (R c v).map fun v' => .pr (.slc false false) [v']
      | some l, none => match R c v, R c l with
        | some v', some l' => some (.pr (.slc true false) [v', l'])
        | _, _ => none
      | none, some h => match R c v, R c h with
        | some v', some h' => some (.pr (.slc false true) [v', h'])
        | _, _ => none
      | some l, some h => match R c v, R c l, R c h with
        | some v', some l', some h' => some (.pr (.slc true true) [v', .pr .asint [l'], h'])
        | _, _, _ => none)
    | some (.UnaryOp .USub (.Constant (.int 1) _ _) _) => (match lo, hi with
      | none, none => (R c v).map fun v' => .pr .rev [v']
      | _, _ => none)
    | _ => none)
  | i => match R c v, R c i with
    | some v', some i' => some (.pr .idx [v', i'])
    | _, _ => none
def keyE : Option Expr → Option E
  | some e => R c e
  | none => none
def trF : Expr → Option E
  | .Constant k _ _ => trC k
  | .Name x _ => match slotR c x with
    | some i => some (.var i)
    | none => if isGl c x = true then (c.g.consts.lookup x).map .con else none
  | .Tuple es _ _ => if es.length ≤ 1000 then (mapO (R c) es).map .tup else none
  | .List es _ => if es.length ≤ 1000 then (mapO (R c) es).map .lst else none
  | .BinOp a op b _ => match bOp op, R c a, R c b with
    | some p, some a', some b' => some (.pr p [a', b'])
    | _, _, _ => none
  | .UnaryOp op a _ => match op with
    | .Not => (R c a).map fun a' => .pr .not [a']
    | .USub => (R c a).map fun a' => .pr .neg [a']
    | _ => none
  | .BoolOp op vs pos => match vs with
    | [a] => R c a
    | a :: b :: r => match R c a, R c (.BoolOp op (b :: r) pos) with
      | some a', some b' => some (match op with | .And => .and a' b' | .Or => .or a' b')
      | _, _ => none
    | [] => none
  | .Compare a ops cs _ => trCmp R c a ops cs
  | .IfExp t a b _ => match R c t, R c a, R c b with
    | some t', some a', some b' => some (.ite t' a' b')
    | _, _, _ => none
  | .Subscript v i _ => trSub R c v i
  | .Call fn args kws pos => (match kws with
    | [] => (match fn with
      | .Name f _ => trCall R c f args
      | .Attribute o m apos => if okRecv o = true ∧ (apos.endLine == pos.line) = true then trMeth R c o m args else none
      | _ => none)
    | _ :: _ => none)
  | .ListComp elt gs scope _ => (match gs with
    | [⟨tg, it, ifs, a⟩] => if a = 0 then trComp R c elt tg it ifs scope else none
    | _ => none)
  | .Dict ks vs _ => (match ks, vs with
    | [], [] => some (.pr .dnew [])
    | k :: ks, vs => if (k :: ks).length = vs.length ∧ (k :: ks).length ≤ 15 then (match mapO (keyE R c) (k :: ks), mapO (R c) vs with
      | some ks', some vs' => some (.pr .dlit (flE (ks'.zip vs')))
      | _, _ => none) else none
    | _, _ => none)
  | _ => none
end
def trE : Nat → Rec
  | 0 => fun _ _ => none
  | n + 1 => fun c e => trF (trE n) c e
end Eng

/-! EngW0 -/
set_option Elab.async false
set_option linter.all false
set_option maxRecDepth 100000
set_option maxHeartbeats 4000000
/-! What the laws say of a caught error: the text of the def _law_word, what stands of the classes. -/
namespace Eng
open PySem PySem.Spec PyProof.Rows L2 L2H

/-! ### its text: by the row l where it begins -/
def wN (x : Str) (l c : Nat) : Expr := .Name x ⟨l, c, l, c + x.length⟩
def wI (y : Str) (l c : Nat) : Expr := .Call (wN "isinstance" l c) [wN "kept" l (c + 11), wN y l (c + 17)] [] ⟨l, c, l, c + 18 + y.length⟩
def wL : List Str → Nat → Nat → List Expr
  | [], _, _ => []
  | y :: r, l, c => wI y l c :: wL r l (c + 20 + y.length)
def wE : List Str → Nat → Nat
  | [], c => c
  | [y], c => c + 18 + y.length
  | y :: z :: r, c => wE (z :: r) (c + 20 + y.length)
def wA (ys : List Str) (l : Nat) : Stmt := .Assign [wN "kinds" l 4] (.BinOp (wN "kinds" l 12) .Add (.List (wL ys l 21) ⟨l, 20, l, wE ys 21 + 1⟩) ⟨l, 12, l, wE ys 21 + 1⟩) ⟨l, 4, l, wE ys 21 + 1⟩
def wT : List Str → Nat → Nat → List Expr
  | [], _, _ => []
  | y :: r, l, c => .Constant (.str y) 0 ⟨l, c, l, c + y.length + 2⟩ :: wT r l (c + y.length + 4)
def wNames : List Str := ["NoWay", "NoHole", "NoRule", "NoFinding", "NoLine", "NoHush", "NoDeed", "BadBook", "NoText"]
def wTexts : List Str := ["no way", "no hole", "no rule", "no finding", "no line", "no hush", "no deed", "bad book", "no text"]
def wM (m : Str) (l c : Nat) : Expr := .Call (.Attribute (wN "kinds" l c) m ⟨l, c, l, c + 6 + m.length⟩) [.Constant (.bool true) 0 ⟨l, c + 7 + m.length, l, c + 11 + m.length⟩] [] ⟨l, c, l, c + 12 + m.length⟩
def wordAst (l : Nat) : List Stmt :=
  [.Assign [wN "kinds" (l + 1) 4] (.List (wL ["NoWay", "NoHole"] (l + 1) 13) ⟨l + 1, 12, l + 1, 63⟩) ⟨l + 1, 4, l + 1, 63⟩, wA ["NoRule", "NoFinding"] (l + 2), wA ["NoLine", "NoHush", "NoDeed"] (l + 3), wA ["BadBook", "NoText"] (l + 4),
   .If (.BoolOp .Or [.Compare (wM "count" (l + 5) 7) [.NotEq] [.Constant (.int 1) 0 ⟨l + 5, 28, l + 5, 29⟩] ⟨l + 5, 7, l + 5, 29⟩, .UnaryOp .Not (wI "ValueError" (l + 5) 37) ⟨l + 5, 33, l + 5, 65⟩] ⟨l + 5, 7, l + 5, 65⟩)
     [.Return (some (.Constant (.str "wrong") 0 ⟨l + 6, 15, l + 6, 22⟩)) ⟨l + 6, 8, l + 6, 22⟩] [] ⟨l + 5, 4, l + 6, 22⟩,
   .Assign [wN "some" (l + 7) 4] (.Tuple (wT wTexts (l + 7) 12) 0 ⟨l + 7, 11, l + 7, 113⟩) ⟨l + 7, 4, l + 7, 113⟩,
   .Return (some (.Subscript (wN "some" (l + 8) 11) (wM "index" (l + 8) 16) ⟨l + 8, 11, l + 8, 34⟩)) ⟨l + 8, 4, l + 8, 34⟩]

/-- what stands of the classes: the word's names, the handler's -/
structure WK (K : PySem.W.Frag) (mg : Str → Option Value) (C : Nat → Addr) : Prop where
  isi : mg "isinstance" = none
  ve : mg "ValueError" = none
  ec : ∀ i, i < 9 → ExcC K (C i)
  vk : ∀ i, i < 9 → PySem.W.kitOne K (.ref (C i)) (.type "ValueError") = some true
  at_ : ∀ (i : Nat) (y : Str), wNames[i]? = some y → mg y = some (.ref (C i))
  kit : ∀ i j, i < 9 → j < 9 → PySem.W.kitOne K (.ref (C i)) (.ref (C j)) = some (decide (i = j))
def wordSc (sc : Scope) : Prop := (∀ y ∈ wNames, sc.names.lookup y = some .globalImplicit) ∧ sc.names.lookup ("isinstance" : Str) = some .globalImplicit ∧ sc.names.lookup ("ValueError" : Str) = some .globalImplicit ∧ sc.names.lookup ("kept" : Str) = some .local ∧ sc.names.lookup ("kinds" : Str) = some .local ∧ sc.names.lookup ("some" : Str) = some .local
def wTextsD : List (List Nat) := wTexts.map fun x => x.cps.toList
def wText (i : Nat) : Str := wTexts.getD i "wrong"
/-- the errors' classes, numbered, and the def that tells them apart -/
def WordOk (K : PySem.W.Frag) (mg : Str → Option Value) (kx : Nat → Value) : Prop := ∃ (C : Nat → Addr) (M f : Addr) (fd : FuncData) (l : Nat) (pa : Arguments) (sc : Scope), (∀ i, i < 9 → kx i = .ref (C i)) ∧ WK K mg C ∧ mg "MendError" = some (.ref M) ∧ (∀ i, i < 9 → PySem.W.exmOne K (.ref (C i)) (.ref M) = some true) ∧
  (∀ i, i < 9 → PySem.W.excIn K (C i) He.veBase "ValueError.__new__" = true ∧ PySem.W.keepIn K (.ref (C i)) = true ∧ PySem.W.subIn K (.ref (C i)) (.type "BaseException") = some true ∧ PySem.W.typeIn K (.ref (C i)) = some (.type "type")) ∧
  mg "_law_word" = some (.ref f) ∧ FunD K "_law_word" "_law_word" pa (wordAst l) sc [] [] f fd ∧ FnScope ["kept", "kinds", "some"] ["kept"] sc ∧ wordSc sc ∧ Binds K fd ["kept"] []
end Eng

/-! Eng8 -/
set_option Elab.async false
set_option linter.all false
set_option maxRecDepth 100000
set_option maxHeartbeats 4000000
/-! The readings; contexts; targets; what is walked. -/
namespace Eng
open PySem PySem.Spec PyProof.Rows L2

theorem PE.imp {X : Cx} {e : Expr} {t t' : TE} (h : PE X e t) (hi : ∀ σ H Q, t' σ H Q → t σ H Q) : PE X e t' := ⟨fun pins s σ H Q I q => h.run pins s σ H Q I (hi σ H Q q)⟩
theorem PT.imp {X : Cx} {e : Expr} {t t' : TT} (h : PT X e t) (hi : ∀ σ H Q, t' σ H Q → t σ H Q) : PT X e t' := ⟨fun pins s σ H Q I q => h.run pins s σ H Q I (hi σ H Q q)⟩
theorem PW.imp {X : Cx} {e : Expr} {t t' : TT} (h : PW X e t) (hi : ∀ σ H Q, t' σ H Q → t σ H Q) : PW X e t' := ⟨fun wh pins s σ H Q I q => h.run wh pins s σ H Q I (hi σ H Q q)⟩
theorem PA.imp {X : Cx} {e : List Expr} {t t' : TA} (h : PA X e t) (hi : ∀ σ H Q, t' σ H Q → t σ H Q) : PA X e t' := ⟨fun pos pins s σ H Q I q => h.run pos pins s σ H Q I (hi σ H Q q)⟩
theorem PTs.imp {X : Cx} {e : List Expr} {t t' : TT} (h : PTs X e t) (hi : ∀ σ H Q, t' σ H Q → t σ H Q) : PTs X e t' := ⟨fun pins s σ H Q I q => h.run pins s σ H Q I (hi σ H Q q)⟩
theorem PI.imp {X : Cx} {tg e : Expr} {t t' : TI} (h : PI X tg e t) (hi : ∀ σ H Q, t' σ H Q → t σ H Q) : PI X tg e t' := ⟨fun pins s σ H Q I q => h.run pins s σ H Q I (hi σ H Q q)⟩
theorem PS.imp {X : Cx} {e : Stmt} {t t' : TS} (h : PS X e t) (hi : ∀ D σ H, t' D σ H → t D σ H) : PS X e t' := ⟨fun pins s σ H D I q => h.run pins s σ H D I (hi D σ H q)⟩
theorem PSs.imp {X : Cx} {e : List Stmt} {t t' : TS} (h : PSs X e t) (hi : ∀ D σ H, t' D σ H → t D σ H) : PSs X e t' := ⟨fun pins s σ H D I q => h.run pins s σ H D I (hi D σ H q)⟩

section
variable (kx : Nat → Value) (K : PySem.W.Frag) (W : WX)
def RdE (m : Env → Sto → Res D) : TE := fun σ H Q => ∃ w s S, w.H = H ∧ StR K w σ s ∧ RS K w S ∧ Aft kx K W σ (RD K) w (m s S) Q
def RdA (m : Env → Sto → Res (List D)) : TA := fun σ H Q => ∃ w s S, w.H = H ∧ StR K w σ s ∧ RS K w S ∧ Aft kx K W σ (RDs K) w (m s S) Q
def RdT (m : Env → Sto → Res Bool) : TT := fun σ H Q => ∃ w s S, w.H = H ∧ StR K w σ s ∧ RS K w S ∧ Aft kx K W σ (fun _ b b' => b = b') w (m s S) Q
end
/-- the promise of a def -/
def spF (kx : Nat → Value) (K : PySem.W.Frag) (ar : Nat) (g : List D → Sto → Res D) : Sp := fun vs H Q E =>
  ∃ w ds S, w.H = H ∧ RS K w S ∧ RDs K w ds vs ∧ ds.length = ar ∧ Aft kx K (fun cls d _ H => E cls d H) [] (RD K) w (g ds S) Q

structure CxOk (c : Ct) (G : Nat → List D → Sto → Res D) (k : Nat) (kx : Nat → Value) (X : Cx) : Prop where
  hN : X.N = c.N
  nd : c.N.Nodup
  sc : X.env.scope = c.sc
  calm : X.calm = true
  room : Room k X.A
  con : ∀ x d, c.g.consts.lookup x = some d → ∃ v u, X.mg x = some u ∧ RelV v u ∧ ∀ w, RD X.K w d v
  bui : ∀ x ∈ BN, X.mg x = none
  fns : ∀ x i ar, c.g.funs.lookup x = some (i, ar) → ∃ f fd ps, X.mg x = some (.ref f) ∧ PySem.W.keepIn X.K (.ref f) = true ∧ Binds X.K fd ps [] ∧ ps.length = ar ∧
    FnOk X.prog X.w X.K X.mg X.base (L2.CX X.prog X.w) k f fd ps (spF kx X.K ar (G i))
  exc : c.g.excs ≠ [] → WordOk X.K X.mg kx

section
variable {c : Ct} {G : Nat → List D → Sto → Res D} {k : Nat} {kx : Nat → Value} {X : Cx}
theorem CxOk.units (h : CxOk c G k kx X) : X.A.units + 200 < cLine := by have := h.room.un; omega
theorem CxOk.gl (h : CxOk c G k kx X) {x : Str} (e : isGl c x = true) : Gl X x ∧ (x == ("__debug__" : Str)) = false ∧ (x == ("__classdict__" : Str)) = false ∧ x ≠ "__name__" := by
  unfold isGl at e
  rw [Bool.and_eq_true] at e
  obtain ⟨e1, e2⟩ := e
  unfold okName at e1
  simp only [Bool.and_eq_true, Bool.not_eq_true', decide_eq_true_eq] at e1
  refine ⟨?_, e1.1.1, e1.1.2, e1.2⟩
  unfold Gl PySem.Env.kindOf
  rw [h.sc]
  split at e2
  · assumption
  · cases e2
theorem CxOk.slot (h : CxOk c G k kx X) {x : Str} {i : Nat} (e : slotR c x = some i) : X.N[i]? = some x ∧ Vis X.env.scope x ∧ (x == ("__debug__" : Str)) = false ∧ (x == ("__classdict__" : Str)) = false := by
  unfold slotR at e
  split at e
  · rename_i e1
    unfold okName at e1
    simp only [Bool.and_eq_true, Bool.not_eq_true', decide_eq_true_eq] at e1
    rw [h.hN, h.sc]
    split at e
    · exact ⟨idxOf_get e, .inl (by assumption), e1.1.1, e1.1.2⟩
    · exact ⟨idxOf_get e, .inr (.inl (by assumption)), e1.1.1, e1.1.2⟩
    · exact ⟨idxOf_get e, .inr (.inr (by assumption)), e1.1.1, e1.1.2⟩
    · cases e
  · cases e
theorem CxOk.slotw (h : CxOk c G k kx X) {x : Str} {i : Nat} (e : slotW c x = some i) : X.N[i]? = some x ∧ Loc X.env.scope x := by
  unfold slotW at e
  rw [h.hN, h.sc]
  split at e
  · exact ⟨idxOf_get e, .inl (by assumption)⟩
  · exact ⟨idxOf_get e, .inr (by assumption)⟩
  · cases e
end

/-! ### targets -/
def setsV : List Nat → List V → L2.St → L2.St
  | i :: is, v :: vs, σ => setsV is vs (σ.set i (some v))
  | _, _, σ => σ
def gT (K : PySem.W.Frag) (is : List Nat) (un : Bool) : TG := match un with
  | false => fun v σ H Q => ∃ i, is = [i] ∧ Q (σ.set i (some v)) H
  | true => fun v σ H Q => ∃ a xs, v = .ref a ∧ SqT K H a xs ∧ xs.length = is.length ∧ Q (setsV is xs σ) H
def gsT : List Nat → TGs
  | [] => gNil
  | i :: is => gCons (gName i) (gsT is)
theorem gsT_of : ∀ (is : List Nat) (xs : List V) (σ : L2.St) (H : Hp) (Q : L2.St → Hp → Prop), xs.length = is.length → Q (setsV is xs σ) H → gsT is xs σ H Q
  | [], xs, σ, H, Q, hl, h => by
    have e : xs = [] := List.eq_nil_of_length_eq_zero hl
    subst e
    exact ⟨rfl, h⟩
  | i :: is, [], σ, H, Q, hl, h => by simp at hl
  | i :: is, v :: vs, σ, H, Q, hl, h => ⟨v, vs, rfl, gsT_of is vs _ H Q (by simpa using hl) h⟩
section
variable {c : Ct} {G : Nat → List D → Sto → Res D} {k : Nat} {kx : Nat → Value} {X : Cx}
/-- what may be stored here -/
def FnW (c : Ct) (X : Cx) (is : List Nat) : Prop := ∀ x i, slotW c x = some i → i ∈ is → X.fn x = true ∨ X.env.scope.names.lookup x = some .local
theorem each_names {env : PySem.Env} : ∀ {es : List Expr} {is : List Nat}, mapO (nameIx c) es = some is → (assignEach es env).length = is.length ∧ (assignEach es env).findIdx? (·.1) = none
  | [], is, h => by
    simp only [mapO, Option.some.injEq] at h
    subst h
    exact ⟨rfl, rfl⟩
  | e :: es, is, h => by
    unfold mapO at h
    cases q : nameIx c e with
    | none => rw [q] at h; cases h
    | some i =>
      rw [q] at h
      cases q2 : mapO (nameIx c) es with
      | none => simp only [q2] at h; cases h
      | some r =>
        simp only [q2, Option.some.injEq] at h
        subst h
        obtain ⟨h1, h2⟩ := each_names (env := env) q2
        cases e with
        | Name x p =>
          have e1 : assignEach (.Name x p :: es) env = (false, assign (.Name x p) env) :: assignEach es env := rfl
          rw [e1]
          refine ⟨by simp [h1], ?_⟩
          rw [List.findIdx?_cons]
          simp [h2]
        | _ => simp only [nameIx] at q; cases q
theorem pgs_of (h : CxOk c G k kx X) : ∀ {es : List Expr} {is : List Nat}, mapO (nameIx c) es = some is → FnW c X is → PGs X es (gsT is)
  | [], is, e, _ => by
    simp only [mapO, Option.some.injEq] at e
    subst e
    exact pgs_nil
  | e :: es, is, he, hf => by
    unfold mapO at he
    cases q : nameIx c e with
    | none => rw [q] at he; cases he
    | some i =>
      rw [q] at he
      cases q2 : mapO (nameIx c) es with
      | none => simp only [q2] at he; cases he
      | some r =>
        simp only [q2, Option.some.injEq] at he
        subst he
        cases e with
        | Name x p =>
          simp only [nameIx] at q
          obtain ⟨h1, h2⟩ := h.slotw q
          exact pgs_cons (pg_name (i := i) (by rw [h.hN]; exact h.nd) h1 h2 (hf x i q List.mem_cons_self)) (pgs_of h q2 fun y j e m => hf y j e (List.mem_cons_of_mem _ m))
        | _ => simp only [nameIx] at q; cases q
theorem pg_of (h : CxOk c G k kx X) {tg : Expr} {is : List Nat} {un : Bool} (e : trT c tg = some (is, un)) (hf : FnW c X is) : PG X tg (gT X.K is un) := by
  cases tg with
  | Name x p =>
    simp only [trT] at e
    obtain ⟨i, e1, e2⟩ := Option.map_eq_some_iff.mp e
    cases e2
    obtain ⟨h1, h2⟩ := h.slotw e1
    have q := pg_name (X := X) (i := i) (pos := p) (by rw [h.hN]; exact h.nd) h1 h2 (hf x i e1 List.mem_cons_self)
    refine ⟨fun pins s σ H v u Q I r hw => ?_⟩
    obtain ⟨j, ej, hw⟩ := hw
    cases ej
    exact q.run pins s σ H v u Q I r hw
  | Tuple es kk p =>
    simp only [trT] at e
    obtain ⟨is', e1, e2⟩ := Option.map_eq_some_iff.mp e
    cases e2
    obtain ⟨h1, h2⟩ := each_names (env := X.env) e1
    have q := pg_tup (X := X) (k := kk) (pos := p) (n := is.length) h.calm (pgs_of h e1 hf) h1 h2
    refine ⟨fun pins s σ H v u Q I r hw => ?_⟩
    obtain ⟨a, xs, ev, hq, hl, hw⟩ := hw
    exact q.run pins s σ H v u Q I r ⟨a, xs, ev, hq, hl, gsT_of is xs σ H Q hl hw⟩
  | _ => simp only [trT] at e; cases e
end

/-! ### stores and the slots -/
section
variable {K : PySem.W.Frag} {w : Wd}
theorem StR.set {σ : L2.St} {s : Env} {i : Nat} {d : D} {v : V} (h : StR K w σ s) (hd : RD K w d v) : StR K w (σ.set i (some v)) (s.set i (some d)) := by
  refine ⟨by simp [h.len], fun j d' e => ?_⟩
  by_cases hj : j = i
  · subst hj
    have hl : j < (s.set j (some d)).length := (List.getElem?_eq_some_iff.mp e).1
    rw [List.length_set] at hl
    rw [List.getElem?_set_self hl] at e
    cases e
    exact ⟨v, by rw [List.getElem?_set_self (by rw [h.len]; exact hl)], hd⟩
  · rw [List.getElem?_set_ne (Ne.symm hj)] at e
    obtain ⟨u, e1, e2⟩ := h.at_ j d' e
    exact ⟨u, by rw [List.getElem?_set_ne (Ne.symm hj)]; exact e1, e2⟩
theorem StR.sets : ∀ {is : List Nat} {ds : List D} {vs : List V} {σ : L2.St} {s : Env}, StR K w σ s → RDs K w ds vs → StR K w (setsV is vs σ) (Eng.sets is ds s)
  | [], ds, vs, σ, s, h, hd => by simpa [setsV, Eng.sets] using h
  | i :: is, [], vs, σ, s, h, hd => by rw [hd.nil_inv]; simpa [setsV, Eng.sets] using h
  | i :: is, d :: ds, vs, σ, s, h, hd => by
    obtain ⟨v, r, rfl, h1, h2⟩ := hd.cons_inv
    show StR K w (setsV is r (σ.set i (some v))) (Eng.sets is ds (s.set i (some d)))
    exact StR.sets (h.set h1) h2
theorem StR.unset {σ : L2.St} {s : Env} {i : Nat} (h : StR K w σ s) : StR K w (σ.set i none) (s.set i none) := by
  refine ⟨by simp [h.len], fun j d' e => ?_⟩
  by_cases hj : j = i
  · subst hj
    have hl : j < (s.set j none).length := (List.getElem?_eq_some_iff.mp e).1
    rw [List.length_set] at hl
    rw [List.getElem?_set_self hl] at e
    cases e
  · rw [List.getElem?_set_ne (Ne.symm hj)] at e
    obtain ⟨u, e1, e2⟩ := h.at_ j d' e
    exact ⟨u, by rw [List.getElem?_set_ne (Ne.symm hj)]; exact e1, e2⟩
theorem StR.wipe {σ : L2.St} {s : Env} (h : StR K w σ s) : ∀ vs : List Nat, StR K w (L2.wipe σ vs) (Eng.wipe s vs)
  | [] => h
  | v :: vs => (StR.wipe h vs).unset
theorem wipe_set {σ : L2.St} {i : Nat} {x : Option V} : ∀ {vs : List Nat}, i ∈ vs → L2.wipe (σ.set i x) vs = L2.wipe σ vs
  | [], h => by simp at h
  | v :: vs, h => by
    unfold L2.wipe
    by_cases hv : i ∈ vs
    · rw [wipe_set hv]
    · have e : i = v := by
        rcases List.mem_cons.mp h with e | e
        · exact e
        · exact absurd e hv
      subst e
      have comm : ∀ (l : List Nat), i ∉ l → L2.wipe (σ.set i x) l = (L2.wipe σ l).set i x := by
        intro l
        induction l with
        | nil => intro _; rfl
        | cons a l ih =>
          intro hn
          simp only [List.mem_cons, not_or] at hn
          unfold L2.wipe
          rw [ih hn.2, List.set_comm _ _ hn.1]
      rw [comm vs hv, List.set_set]
theorem wipe_sets : ∀ {is : List Nat} {xs : List V} {σ : L2.St} {vs : List Nat}, (∀ i ∈ is, i ∈ vs) → L2.wipe (setsV is xs σ) vs = L2.wipe σ vs
  | [], xs, σ, vs, h => by simp [setsV]
  | i :: is, [], σ, vs, h => by simp [setsV]
  | i :: is, x :: xs, σ, vs, h => by
    show L2.wipe (setsV is xs (σ.set i (some x))) vs = _
    rw [wipe_sets fun j hj => h j (List.mem_cons_of_mem _ hj), wipe_set (h i List.mem_cons_self)]
theorem wipe_idem {σ : L2.St} (vs : List Nat) : L2.wipe (L2.wipe σ vs) vs = L2.wipe σ vs := by
  have h : ∀ (ws : List Nat) (τ : L2.St), (∀ i ∈ ws, i ∈ vs) → L2.wipe (L2.wipe τ ws) vs = L2.wipe τ vs := by
    intro ws
    induction ws with
    | nil => intro τ _; rfl
    | cons a ws ih =>
      intro τ hs
      show L2.wipe ((L2.wipe τ ws).set a none) vs = _
      rw [wipe_set (hs a List.mem_cons_self), ih τ fun i hi => hs i (List.mem_cons_of_mem _ hi)]
  exact h vs σ fun i hi => hi
/-- an item on its way to the target: a pair that is unpacked at once need not be kept -/
def RW (K : PySem.W.Frag) (un : Bool) (w : Wd) (d : D) (v : V) : Prop := RD K w d v ∨ (un = true ∧ ∃ (xs : List D) (vs : List V) (a : Addr), d = .tup xs ∧ v = .ref a ∧ w.H a = some (.tup vs) ∧ RDs K w xs vs)
/-- the target takes an item -/
theorem gT_of {is : List Nat} {un : Bool} {d : D} {v : V} {σ : L2.St} {s s' : Env} {Q : L2.St → Hp → Prop} (h : StR K w σ s) (hd : RW K un w d v) (e : bindT is un d s = some s')
    (hq : ∀ σ', StR K w σ' s' → (∀ vs, (∀ i ∈ is, i ∈ vs) → L2.wipe σ' vs = L2.wipe σ vs) → Q σ' w.H) : gT K is un v σ w.H Q := by
  cases un with
  | false =>
    have hd : RD K w d v := hd.elim id fun z => by cases z.1
    unfold bindT at e
    cases is with
    | nil => cases e
    | cons i r =>
      cases r with
      | nil =>
        simp only [Option.some.injEq] at e
        subst e
        exact ⟨i, rfl, hq _ (h.set hd) fun vs hv => wipe_set (hv i List.mem_cons_self)⟩
      | cons _ _ => cases e
  | true =>
    unfold bindT at e
    cases d with
    | tup xs =>
      simp only at e
      split at e
      · rename_i hl
        cases e
        rcases hd with hd | ⟨_, xs', vs, a, e1, rfl, h1, h3⟩
        · obtain ⟨a, vs, rfl, h1, h2, h3⟩ := hd.tupI
          exact ⟨a, vs, rfl, h1.sq, by rw [h3.length]; exact hl, hq _ (h.sets h3) fun us hv => wipe_sets hv⟩
        · cases e1
          exact ⟨a, vs, rfl, SqT.of h1, by rw [h3.length]; exact hl, hq _ (h.sets h3) fun us hv => wipe_sets hv⟩
      · cases e
    | _ => cases e
end

/-! ### what is walked -/
/-- J goes over these items, as long as the store's list stands -/
def WalkD (K : PySem.W.Frag) (un : Bool) (w1 : Wd) (p : List D × Option Nat) (J : It) : Prop := ∀ w2 S2, Ext w1 w2 → RS K w2 S2 → chk p.1 p.2 S2 = true →
  J.stop p.1.length w2.H ∧ ∀ (i : Nat) (d : D), p.1[i]? = some d → J.go i w2.H ∧ ∀ v H', J.yld i w2.H v H' → ∃ w3, w3.H = H' ∧ Ext w2 w3 ∧ RS K w3 S2 ∧ RW K un w3 d v
def srcR (k : SK) (ds : List D) (S : Sto) : Res (List D × Option Nat) := ofO (items k ds S) S
def RdI (kx : Nat → Value) (K : PySem.W.Frag) (un : Bool) (W : WX) (m : Env → Sto → Res (List D × Option Nat)) : TI := fun σ H Q => ∃ w s S, w.H = H ∧ StR K w σ s ∧ RS K w S ∧ Aft kx K W σ (WalkD K un) w (m s S) Q
section
variable {K : PySem.W.Frag} {un : Bool} {w : Wd} {S : Sto}
theorem walk_lst {xs : List D} {a : Addr} {vs : List V} (h1 : LsA w a vs) (h3 : RDs K w xs vs) : WalkD K un w (xs, none) (Itl K a) := fun w2 S2 x rs _ => by
  have q := (h1.ext x).2
  have r := RDs.ext x _ _ h3
  refine ⟨⟨vs, SqL.of q, by rw [r.length]; exact Nat.le_refl _⟩, fun i d e => ?_⟩
  obtain ⟨v, e1, e2⟩ := r.get e
  refine ⟨⟨vs, v, SqL.of q, e1⟩, fun v' H' y => ?_⟩
  obtain ⟨rfl, y⟩ := y
  have := y vs (SqL.of q)
  rw [e1] at this; cases this
  exact ⟨w2, rfl, Ext.refl _, rs, .inl e2⟩
theorem walk_tup {xs : List D} {a : Addr} {vs : List V} (h1 : TpA w a vs) (h3 : RDs K w xs vs) : WalkD K un w (xs, none) (Itt K a) := fun w2 S2 x rs _ => by
  have q := h1.ext x
  have r := RDs.ext x _ _ h3
  refine ⟨⟨vs, q.sq, by rw [r.length]; exact Nat.le_refl _⟩, fun i d e => ?_⟩
  obtain ⟨v, e1, e2⟩ := r.get e
  refine ⟨⟨vs, v, q.sq, e1⟩, fun v' H' y => ?_⟩
  obtain ⟨rfl, y⟩ := y
  have := y vs (q.sq)
  rw [e1] at this; cases this
  exact ⟨w2, rfl, Ext.refl _, rs, .inl e2⟩
theorem walk_loc {xs : List D} {n : Nat} {a : Addr} (e : w.r[n]? = some a) : WalkD K un w (xs, some n) (Itl K a) := fun w2 S2 x rs hc => by
  have e2 := rho_get x e
  have hc : S2[n]? = some (.lst xs) := of_decide_eq_true hc
  obtain ⟨vs, q, _, r⟩ := rs.obj n a _ e2 hc
  refine ⟨⟨vs, SqL.of q, by rw [r.length]; exact Nat.le_refl _⟩, fun i d e => ?_⟩
  obtain ⟨v, e1, e2⟩ := r.get e
  refine ⟨⟨vs, v, SqL.of q, e1⟩, fun v' H' y => ?_⟩
  obtain ⟨rfl, y⟩ := y
  have := y vs (SqL.of q)
  rw [e1] at this; cases this
  exact ⟨w2, rfl, Ext.refl _, rs, .inl e2⟩
theorem walk_str {s : List Nat} (ok : okS s) : WalkD K un w (s.map fun c => .str [c], none) (Its (sv s)) := fun w2 S2 x rs _ => by
  refine ⟨by show (sv s).cps.size ≤ _; simp [sv], fun i d e => ?_⟩
  rw [List.getElem?_map] at e
  obtain ⟨c, e1, rfl⟩ := Option.map_eq_some_iff.mp e
  refine ⟨by show i < (sv s).cps.size; simpa [sv] using (List.getElem?_eq_some_iff.mp e1).1, fun v' H' y => ?_⟩
  obtain ⟨rfl, c', e2, rfl⟩ := y
  have e3 : (sv s).cps[i]? = s[i]? := by simp [sv]
  rw [e3, e1] at e2
  cases e2
  refine ⟨w2, rfl, Ext.refl _, rs, .inl ?_⟩
  simp only [RD]
  exact ⟨rfl, ok.one (List.mem_of_getElem? e1)⟩
theorem walk_rgC {lo c : Int} {n : Nat} : WalkD K un w ((List.range n).map fun (i : Nat) => .int (lo + i * c), none) (Itc lo c n) := fun w2 S2 x rs _ => by
  refine ⟨by show n ≤ _; simp, fun i d e => ?_⟩
  rw [List.getElem?_map] at e
  obtain ⟨b, e1, rfl⟩ := Option.map_eq_some_iff.mp e
  obtain ⟨h1, h2⟩ := List.getElem?_eq_some_iff.mp e1
  simp at h1 h2
  subst h2
  refine ⟨h1, fun v' H' y => ?_⟩
  obtain ⟨rfl, rfl⟩ := y
  exact ⟨w2, rfl, Ext.refl _, rs, .inl (by simp only [RD])⟩
theorem rg_small {i j : Int} (h1 : 0 ≤ i) (h2 : i < 2 ^ 30) (h3 : 0 ≤ j) (h4 : j < 2 ^ 30) : RgC i j 3 (if i < j then (j - i - 1) / 3 + 1 else 0).toNat := by
  have e : Builtin.Range.rangeSize i j 3 = if i < j then (j - i - 1) / 3 + 1 else 0 := by
    unfold Builtin.Range.rangeSize
    rw [if_pos (by decide)]
  have nn : 0 ≤ (if i < j then (j - i - 1) / 3 + 1 else 0 : Int) := by split <;> omega
  refine ⟨by decide, by decide, ?_, ?_⟩
  · unfold Builtin.Range.small
    rw [e]
    simp only [Builtin.Range.rangeFitsLong, Bool.and_eq_true, Bool.or_eq_true, decide_eq_true_eq, beq_iff_eq, show (3 : Int) > 0 by decide, if_true]
    split <;> omega
  · rw [e]; omega
theorem rgN_ok {i j c : Int} {n : Nat} (h : rgN i j c = some n) : RgC i j c n := by
  unfold rgN at h
  split at h
  · rename_i e; subst e
    split at h
    · rename_i q; cases h; exact RgC.neg q.1 q.2.1 q.2.2.1 q.2.2.2
    · cases h
  · split at h
    · rename_i q; obtain ⟨rfl, q1, q2, q3, q4⟩ := q; cases h; exact rg_small q1 q2 q3 q4
    · cases h
theorem walk_rng {lo : Int} {n : Nat} : WalkD K un w ((List.range n).map fun (i : Nat) => .int (lo + i), none) (Itr lo n) := fun w2 S2 x rs _ => by
  refine ⟨by show n ≤ _; simp, fun i d e => ?_⟩
  rw [List.getElem?_map] at e
  obtain ⟨c, e1, rfl⟩ := Option.map_eq_some_iff.mp e
  obtain ⟨h1, h2⟩ := List.getElem?_eq_some_iff.mp e1
  simp at h1 h2
  subst h2
  refine ⟨h1, fun v' H' y => ?_⟩
  obtain ⟨rfl, rfl⟩ := y
  exact ⟨w2, rfl, Ext.refl _, rs, .inl (by simp only [RD])⟩
end
/-- a list, a tuple, a text -/
def iAny (K : PySem.W.Frag) (tl : TE) : TI := fun σ H R => tl σ H fun x H1 => (∃ a, x = .ref a ∧ (∃ xs, SqL K H1 a xs) ∧ R (Itl K a) H1) ∨ (∃ a, x = .ref a ∧ (∃ xs, SqT K H1 a xs) ∧ R (Itt K a) H1) ∨ ∃ z, x = .str z ∧ R (Its z) H1
theorem pi_any {X : Cx} {tg l : Expr} {tl : TE} (hl : PE X l tl) : PI X tg l (iAny X.K tl) := by
  refine ⟨fun pins s σ H R I h => ?_⟩
  refine thn (hl.run pins s σ H _ I h) fun v s1 ⟨x, H1, I1, r1, q1⟩ => ?_
  rcases q1 with ⟨a, e, ⟨xs, hq⟩, q⟩ | ⟨a, e, ⟨xs, hq⟩, q⟩ | ⟨z, e, q⟩
  · subst e
    cases r1
    obtain ⟨its, rv, p, hz⟩ := I1.list hq
    refine wpAny_pyIter_list p.isList ?_
    refine ⟨s1.heap.objs.size, [s1.heap.objs.size], _, _, H1, rfl, I1.kept (t' := s1.toks) fun b o e => Heap.get?_push_of_some _ e, turn_list a _, ⟨_, Heap.get?_push_size _ rfl, rfl, rfl⟩, fun b hb => ?_, q⟩
    have e : b = s1.heap.objs.size := by simpa using hb
    subst e
    exact I1.fpOk (Nat.le_refl _) (I1.hok.fresh (Nat.le_refl _))
  · subst e
    cases r1
    obtain ⟨its, rv, p, hz⟩ := I1.tuple hq
    refine wpAny_pyIter_tuple (show s1.heap.IsTuple a its.toArray from p) ?_
    refine ⟨s1.heap.objs.size, [s1.heap.objs.size], _, _, H1, rfl, I1.kept (t' := s1.toks) fun b o e => Heap.get?_push_of_some _ e, turn_tuple a _, ⟨_, Heap.get?_push_size _ rfl, rfl, rfl⟩, fun b hb => ?_, q⟩
    have e : b = s1.heap.objs.size := by simpa using hb
    subst e
    exact I1.fpOk (Nat.le_refl _) (I1.hok.fresh (Nat.le_refl _))
  · subst e
    obtain ⟨t, rfl⟩ := r1
    cases ha : z.cps.all (· < 128)
    · exact wpAny_pyIter_wide ha (pi_one (tk := s1.toks) I1 _ (turn_str _ z t "str_iterator" (.inr rfl)) ⟨_, Heap.get?_push_size _ rfl, rfl, rfl⟩ q)
    · exact wpAny_pyIter_ascii ha (pi_one (tk := s1.toks) I1 _ (turn_str _ z t "str_ascii_iterator" (.inl rfl)) ⟨_, Heap.get?_push_size _ rfl, rfl, rfl⟩ q)
end Eng

/-! Eng9 -/
set_option Elab.async false
set_option linter.all false
set_option maxRecDepth 100000
set_option maxHeartbeats 4000000
/-! Expressions: what the evaluator gives is what the text does. -/
namespace Eng
open PySem PySem.Spec PyProof.Rows L2

def plainX : Expr → Bool
  | .Starred _ _ => false
  | .Slice _ _ _ _ => false
  | .Set _ _ _ => false
  | _ => true
def isBool : Expr → Bool
  | .BoolOp _ _ _ => true
  | _ => false
structure Snd (c : Ct) (e : Expr) (e' : E) : Prop where
  pe : ∀ {G : Nat → List D → Sto → Res D} {k : Nat} {kx : Nat → Value} {X : Cx} {W : WX}, CxOk c G k kx X → Takes X W → PE X e (RdE kx X.K W (ev G e'))
  pt : ∀ {G : Nat → List D → Sto → Res D} {k : Nat} {kx : Nat → Value} {X : Cx} {W : WX}, CxOk c G k kx X → Takes X W → PT X e (RdT kx X.K W fun s S => tst (ev G e' s S))
  pw : isBool e = true → ∀ {G : Nat → List D → Sto → Res D} {k : Nat} {kx : Nat → Value} {X : Cx} {W : WX}, CxOk c G k kx X → Takes X W → PW X e (RdT kx X.K W fun s S => tst (ev G e' s S))
  pl : plainX e = true
def SndR (R : Rec) : Prop := ∀ c e e', R c e = some e' → Snd c e e'

theorem bind_assoc {a b d : Type} (r : Res a) (f : a → Sto → Res b) (g : b → Sto → Res d) : (r.bind f).bind g = r.bind fun x S => (f x S).bind g := by cases r <;> rfl
theorem bind_ok {a b : Type} (x : a) (S : Sto) (f : a → Sto → Res b) : (Res.ok x S).bind f = f x S := rfl
theorem Aft.eqv {a b : Type} {kx : Nat → Value} {K : PySem.W.Frag} {W : WX} {σ : L2.St} {R : Wd → a → b → Prop} {w : Wd} {r r' : Res a} {Q : b → Hp → Prop} (h : Aft kx K W σ R w r Q) (e : r = r') : Aft kx K W σ R w r' Q := e ▸ h

section
variable {c : Ct} {G : Nat → List D → Sto → Res D} {k : Nat} {kx : Nat → Value} {X : Cx} {W : WX}
theorem star_of {e : Expr} (h : plainX e = true) (es : List Expr) (env : PySem.Env) : starEach (e :: es) env = (false, eval e env) :: starEach es env := by
  cases e <;> first | rfl | (exact absurd h (by decide)) | (simp [plainX] at h)
theorem nostar_of {pos : Pos} {env : PySem.Env} : ∀ {es : List Expr}, (∀ e ∈ es, plainX e = true) → (backTo pos (starEach es env)).any (·.1) = false
  | [], _ => rfl
  | e :: es, h => by
    rw [star_of (h e List.mem_cons_self)]
    show (false || (backTo pos (starEach es env)).any (·.1)) = false
    rw [nostar_of fun x hx => h x (List.mem_cons_of_mem _ hx)] <;> rfl
theorem noset_of {e : Expr} (h : plainX e = true) (env : PySem.Env) (x : Value) : foldedSetIterable e env x = pure x := by
  cases e <;> first | rfl | (simp [plainX] at h)
theorem nomark_of {e : Expr} (h : plainX e = true) (op : CmpOp) : behindInMarks op e = false := by
  cases e <;> first | rfl | (simp [plainX] at h)
theorem mapO_mem {a b : Type} {f : a → Option b} : ∀ {xs : List a} {ys : List b}, mapO f xs = some ys → ∀ x ∈ xs, ∃ y, f x = some y
  | [], ys, h, x, hx => by simp at hx
  | x :: xs, ys, h, z, hz => by
    unfold mapO at h
    cases q : f x with
    | none => rw [q] at h; cases h
    | some y =>
      rw [q] at h
      cases q2 : mapO f xs with
      | none => simp only [q2] at h; cases h
      | some r =>
        rcases List.mem_cons.mp hz with e | hz
        · subst e; exact ⟨y, q⟩
        · exact mapO_mem q2 z hz
theorem mapO_cons {a b : Type} {f : a → Option b} {x : a} {xs : List a} {ys : List b} (h : mapO f (x :: xs) = some ys) : ∃ y r, f x = some y ∧ mapO f xs = some r ∧ ys = y :: r := by
  unfold mapO at h
  cases q : f x with
  | none => rw [q] at h; cases h
  | some y =>
    rw [q] at h
    cases q2 : mapO f xs with
    | none => simp only [q2] at h; cases h
    | some r => simp only [q2, Option.some.injEq] at h; exact ⟨y, r, rfl, rfl, h.symm⟩
theorem mapO_len {a b : Type} {f : a → Option b} : ∀ {xs : List a} {ys : List b}, mapO f xs = some ys → ys.length = xs.length
  | [], ys, h => by simp only [mapO, Option.some.injEq] at h; subst h; rfl
  | x :: xs, ys, h => by
    obtain ⟨y, r, _, h2, rfl⟩ := mapO_cons h
    simp [mapO_len h2]
/-- a list of arguments -/
theorem snd_list {R : Rec} (hR : SndR R) (hc : CxOk c G k kx X) (tk : Takes X W) : ∀ {es : List Expr} {es' : List E}, mapO (R c) es = some es' → PA X es (RdA kx X.K W (evs G es'))
  | [], es', h => by
    simp only [mapO, Option.some.injEq] at h
    subst h
    refine PA.imp pa_nil fun σ H Q q => ?_
    obtain ⟨w, s, S, rfl, st, rs, q⟩ := q
    simp only [evs] at q
    exact q [] w (Ext.refl w) rs RDs.nil
  | e :: es, es', h => by
    obtain ⟨y, r, h1, h2, rfl⟩ := mapO_cons h
    have s1 := hR c e y h1
    refine PA.imp (pa_cons (s1.pe hc tk) (snd_list hR hc tk h2) (star_of s1.pl es X.env)) fun σ H Q q => ?_
    obtain ⟨w, s, S, rfl, st, rs, q⟩ := q
    simp only [evs] at q
    refine ⟨w, s, S, rfl, st, rs, q.bind fun d S1 v w1 _ x1 rs1 rd1 q1 => ⟨w1, s, S1, rfl, st.ext x1, rs1, q1.bind fun ds S2 vs w2 _ x2 rs2 rd2 q2 => ?_⟩⟩
    exact q2 (v :: vs) w2 (Ext.refl w2) rs2 (RDs.cons (RD.ext x2 _ _ rd1) rd2)
theorem plain_list {R : Rec} (hR : SndR R) {es : List Expr} {es' : List E} (h : mapO (R c) es = some es') : ∀ e ∈ es, plainX e = true := fun e he =>
  let ⟨y, hy⟩ := mapO_mem h e he
  (hR c e y hy).pl

/-- a test by its value -/
theorem pt_gen {e : Expr} {m : Env → Sto → Res D} (h : PE X e (RdE kx X.K W m)) (he : ∀ whole, isTrue e X.env whole = (do let v ← whole; standAt e.pos; holding [v] (truthy v))) : PT X e (RdT kx X.K W fun s S => tst (m s S)) := by
  refine PT.imp (pt_truth h he) fun σ H Q q => ?_
  obtain ⟨w, s, S, rfl, st, rs, q⟩ := q
  refine ⟨w, s, S, rfl, st, rs, q.bind fun d S1 v w1 _ x1 rs1 rd1 q1 => ?_⟩
  obtain ⟨b, eb, q1⟩ := q1.ofO
  exact ⟨b, tru_of rs1 rd1 eb, q1 b w1 (Ext.refl w1) rs1 rfl⟩

/-! ### one, two operands -/
theorem rd1 {a : E} {p : Pr} {t : (V → Hp → VK → Prop)} {σ : L2.St} {H : Hp} {Q : VK}
    (hp : ∀ {w : Wd} {S : Sto} {d : D} {v : V} {Q : VK}, RS X.K w S → RD X.K w d v → Aft kx X.K W σ (RD X.K) w (pr p [d] S) Q → t v w.H Q)
    (q : RdE kx X.K W (ev G (.pr p [a])) σ H Q) : RdE kx X.K W (ev G a) σ H (fun v H1 => t v H1 Q) := by
  obtain ⟨w, s, S, rfl, st, rs, q⟩ := q
  simp only [ev, evs, bind_assoc, bind_ok] at q
  exact ⟨w, s, S, rfl, st, rs, q.bind fun d S1 v w1 _ x1 rs1 rd1 q1 => hp rs1 rd1 q1⟩
theorem rd2 {a b : E} {p : Pr} {t : R2} {σ : L2.St} {H : Hp} {Q : VK}
    (hp : ∀ {w : Wd} {S : Sto} {d e : D} {v u : V} {Q : VK}, RS X.K w S → RD X.K w d v → RD X.K w e u → Aft kx X.K W σ (RD X.K) w (pr p [d, e] S) Q → t v u w.H Q)
    (q : RdE kx X.K W (ev G (.pr p [a, b])) σ H Q) : RdE kx X.K W (ev G a) σ H (fun v H1 => RdE kx X.K W (ev G b) σ H1 fun u H2 => t v u H2 Q) := by
  obtain ⟨w, s, S, rfl, st, rs, q⟩ := q
  simp only [ev, evs, bind_assoc, bind_ok] at q
  exact ⟨w, s, S, rfl, st, rs, q.bind fun d S1 v w1 _ x1 rs1 rd1 q1 => ⟨w1, s, S1, rfl, st.ext x1, rs1, q1.bind fun e S2 u w2 _ x2 rs2 rd2 q2 => hp rs2 (RD.ext x2 _ _ rd1) rd2 q2⟩⟩

/-! ### the arithmetic -/
def rBin (K : PySem.W.Frag) : Pr → R2
  | .add => rAddD K
  | .sub => rI0 fun i j => .int (i - j)
  | .mul => rMulD K
  | .fdiv => rI CDiv fun i j => .int (i / j)
  | .mod => rI (fun _ j => 0 < j) fun i j => .int (i % j)
  | _ => fun _ _ _ _ => False
theorem op_bin {op : Operator} {p : Pr} (h : bOp op = some p) : OpR X (binaryOp op) (rBin X.K p) := by
  cases op <;> simp only [bOp, Option.some.injEq, reduceCtorEq] at h <;> subst h
  · exact op_addD
  · exact op_sub
  · exact op_mulD
  · exact op_mod
  · exact op_fdiv
theorem px_bin {op : Operator} {p : Pr} (h : bOp op = some p) {w : Wd} {S : Sto} {σ : L2.St} {d e : D} {v u : V} {Q : VK} (rs : RS X.K w S) (h1 : RD X.K w d v) (h2 : RD X.K w e u) (q : Aft kx X.K W σ (RD X.K) w (pr p [d, e] S) Q) : rBin X.K p v u w.H Q := by
  cases op <;> simp only [bOp, Option.some.injEq, reduceCtorEq] at h <;> subst h
  · exact px_add rs h1 h2 q
  · exact px_sub rs h1 h2 q
  · exact px_mul rs h1 h2 q
  · exact px_mod rs h1 h2 q
  · exact px_fdiv rs h1 h2 q
/-! ### the comparisons -/
def rCmp (K : PySem.W.Frag) : Pr → R2
  | .eq => rEqX K
  | .ne => rNeX K
  | .lt => rLtD
  | .le => rLeD
  | .gt => rI0 fun i j => .bl (decide (j < i))
  | .ge => rI0 fun i j => .bl (decide (j ≤ i))
  | .isin => rInA K false
  | .notin => rInA K true
  | _ => fun _ _ _ _ => False
theorem op_cmp {op : CmpOp} {p : Pr} (hu : X.A.units + 200 < cLine) (h : cOp op = some p) : OpR X (compareOp op) (rCmp X.K p) := by
  cases op <;> simp only [cOp, Option.some.injEq, reduceCtorEq] at h <;> subst h
  · exact op_eqX hu
  · exact op_neX hu
  · exact op_ltD
  · exact op_leD
  · exact op_gt
  · exact op_ge
  · exact op_inA hu
  · exact op_notInA hu
theorem px_cmp {op : CmpOp} {p : Pr} (h : cOp op = some p) {w : Wd} {S : Sto} {σ : L2.St} {d e : D} {v u : V} {Q : VK} (rs : RS X.K w S) (h1 : RD X.K w d v) (h2 : RD X.K w e u) (q : Aft kx X.K W σ (RD X.K) w (pr p [d, e] S) Q) : rCmp X.K p v u w.H Q := by
  cases op <;> simp only [cOp, Option.some.injEq, reduceCtorEq] at h <;> subst h
  · exact px_eq rs h1 h2 q
  · exact px_ne rs h1 h2 q
  · exact px_lt rs h1 h2 q
  · exact px_le rs h1 h2 q
  · exact px_gt rs h1 h2 q
  · exact px_ge rs h1 h2 q
  · exact px_inA (neg := false) rs h1 h2 q
  · exact px_inA (neg := true) rs h1 h2 q
end
/-- a comparison answers with a truth -/
theorem gd_bl {c : Prop} [Decidable c] {x y : D} {S S1 : Sto} (h : gd c x S = .ok y S1) : y = x := by
  unfold gd at h
  split at h
  · cases h; rfl
  · cases h
theorem isIn_bl {a b d : D} {S S1 : Sto} {p : Bool} (h : pr.isIn a b S p = .ok d S1) : ∃ t, d = .bl t := by
  unfold pr.isIn at h
  split at h
  · cases h; exact ⟨_, rfl⟩
  · exact ⟨_, gd_bl h⟩
  · exact ⟨_, gd_bl h⟩
  · split at h
    · cases h; exact ⟨_, rfl⟩
    · cases h
  · cases h
theorem cmp_bl {op : CmpOp} {p : Pr} (h : cOp op = some p) {a b d : D} {S S1 : Sto} (e : pr p [a, b] S = .ok d S1) : ∃ t, d = .bl t := by
  cases op <;> simp only [cOp, Option.some.injEq, reduceCtorEq] at h <;> subst h
  · simp only [pr] at e; exact ⟨_, gd_bl e⟩
  · simp only [pr] at e; exact ⟨_, gd_bl e⟩
  · cases a <;> cases b <;> simp only [pr, reduceCtorEq] at e <;> (cases e; exact ⟨_, rfl⟩)
  · cases a <;> cases b <;> simp only [pr, reduceCtorEq] at e <;> (cases e; exact ⟨_, rfl⟩)
  · cases a <;> cases b <;> simp only [pr, reduceCtorEq] at e <;> (cases e; exact ⟨_, rfl⟩)
  · cases a <;> cases b <;> simp only [pr, reduceCtorEq] at e <;> (cases e; exact ⟨_, rfl⟩)
  · simp only [pr] at e; exact isIn_bl e
  · simp only [pr] at e; exact isIn_bl e
theorem isC_bl {a b d : D} {S S1 : Sto} {p : Bool} (h : pr.isC a b S p = .ok d S1) : ∃ t, d = .bl t := by
  unfold pr.isC at h
  split at h
  · cases h; exact ⟨_, rfl⟩
  · split at h
    · cases h; exact ⟨_, rfl⟩
    · cases h
  · cases h
/-- a test from a value that is a truth -/
theorem tst_bl {kx : Nat → Value} {K : PySem.W.Frag} {W : WX} {σ : L2.St} {w : Wd} {r : Res D} {Q : Bool → Hp → Prop} (hb : ∀ d S1, r = .ok d S1 → ∃ t, d = .bl t) (h : Aft kx K W σ (fun _ b b' => b = b') w (r.bind fun d S => ofO (truth S d) S) Q) :
    Aft kx K W σ (RD K) w r (fun z H' => ∃ t, z = .bl t ∧ Q t H') := by
  refine h.bind fun d S1 v w1 e x1 rs1 rd1 q1 => ?_
  obtain ⟨t, rfl⟩ := hb d S1 e
  refine ⟨t, rd1.blI, ?_⟩
  exact q1 t w1 (Ext.refl w1) rs1 rfl
end Eng

/-! Eng10 -/
set_option Elab.async false
set_option linter.all false
set_option maxRecDepth 100000
set_option maxHeartbeats 4000000
/-! Expressions, form by form. -/
namespace Eng
open PySem PySem.Spec PyProof.Rows L2
variable {c : Ct} {R : Rec}

theorem nobool {e : Expr} {P : Prop} (h : isBool e = false) : isBool e = true → P := fun z => by rw [h] at z; cases z
/-- from the value alone -/
theorem Snd.of {e : Expr} {e' : E} (pe : ∀ {G : Nat → List D → Sto → Res D} {k : Nat} {kx : Nat → Value} {X : Cx} {W : WX}, CxOk c G k kx X → Takes X W → PE X e (RdE kx X.K W (ev G e')))
    (he : ∀ (env : PySem.Env) whole, isTrue e env whole = (do let v ← whole; standAt e.pos; holding [v] (truthy v))) (hb : isBool e = false) (pl : plainX e = true) : Snd c e e' :=
  ⟨fun hc tk => pe hc tk, fun hc tk => pt_gen (pe hc tk) (he _), nobool hb, pl⟩

theorem rd_con {kx : Nat → Value} {K : PySem.W.Frag} {W : WX} {G : Nat → List D → Sto → Res D} {d : D} {v : V} (hd : ∀ w, RD K w d v) {σ : L2.St} {H : Hp} {Q : VK} (q : RdE kx K W (ev G (.con d)) σ H Q) : Q v H := by
  obtain ⟨w, s, S, rfl, st, rs, q⟩ := q
  simp only [ev] at q
  exact q.val rs (hd w)
theorem snd_const {k : Const} {j : Nat} {pos : Pos} {e' : E} (h : trC k = some e') : Snd c (.Constant k j pos) e' := by
  refine Snd.of (fun {G k' kx X W} hc tk => ?_) (fun _ _ => rfl) rfl rfl
  cases k with
  | none => simp only [trC, Option.some.injEq] at h; subst h; exact PE.imp pe_non fun σ H Q q => rd_con (fun w => by simp only [RD]) q
  | bool b => simp only [trC, Option.some.injEq] at h; subst h; exact PE.imp pe_bl fun σ H Q q => rd_con (fun w => by simp only [RD]) q
  | int b => simp only [trC, Option.some.injEq] at h; subst h; exact PE.imp pe_int fun σ H Q q => rd_con (fun w => by simp only [RD]) q
  | str x =>
    simp only [trC] at h
    split at h
    · rename_i hx
      cases h
      refine PE.imp pe_str fun σ H Q q => rd_con (v := .str x) (fun w => ?_) q
      simp only [RD]
      refine ⟨?_, ?_, hx.2⟩
      · congr 1
      · have : x.cps.toList.length = x.length := by simp [Str.length]
        rw [this]; unfold szL; omega
    · cases h
  | _ => simp only [trC] at h; cases h
theorem trC_con {k : Const} {e' : E} (h : trC k = some e') : ∃ d, e' = .con d := by
  cases k <;> simp only [trC, Option.some.injEq, reduceCtorEq] at h <;> first | exact ⟨_, h.symm⟩ | skip
  split at h
  · cases h; exact ⟨_, rfl⟩
  · cases h
theorem snd_name {x : Str} {pos : Pos} {e' : E} (h : (match slotR c x with
    | some i => some (.var i)
    | none => if isGl c x = true then (c.g.consts.lookup x).map .con else none) = some e') : Snd c (.Name x pos) e' := by
  refine Snd.of (fun {G k' kx X W} hc tk => ?_) (fun _ _ => rfl) rfl rfl
  cases q : slotR c x with
  | some i =>
    rw [q] at h
    simp only [Option.some.injEq] at h
    subst h
    obtain ⟨h1, h2, h3, h4⟩ := hc.slot q
    refine PE.imp (pe_var h1 h2 h3 h4) fun σ H Q q => ?_
    obtain ⟨w, s, S, rfl, st, rs, q⟩ := q
    simp only [ev, getV] at q
    cases e : s[i]? with
    | none => rw [e] at q; exact q.elim
    | some o =>
      rw [e] at q
      cases o with
      | none => exact q.elim
      | some d =>
        obtain ⟨v, e1, e2⟩ := st.at_ i d e
        exact ⟨v, e1, q.val rs e2⟩
  | none =>
    rw [q] at h
    simp only at h
    split at h
    · rename_i hg
      obtain ⟨d, e1, rfl⟩ := Option.map_eq_some_iff.mp h
      obtain ⟨v, u, h1, h2, h3⟩ := hc.con x d e1
      obtain ⟨g1, g2, _, _⟩ := hc.gl hg
      exact PE.imp (pe_glob g1 h1 h2 g2) fun σ H Q q => rd_con h3 q
    · cases h
theorem evs_len {G : Nat → List D → Sto → Res D} {s : Env} : ∀ (es' : List E) (S S1 : Sto) (ds : List D), evs G es' s S = .ok ds S1 → ds.length = es'.length := by
  intro es'
  induction es' with
  | nil => intro S S1 ds e; simp only [evs] at e; cases e; rfl
  | cons a r ih =>
    intro S S1 ds e
    simp only [evs] at e
    cases q : ev G a s S with
    | ok d S2 =>
      rw [q] at e
      simp only [Res.bind] at e
      cases q2 : evs G r s S2 with
      | ok ds' S3 => rw [q2] at e; simp only at e; cases e; simp [ih _ _ _ q2]
      | exc _ _ => rw [q2] at e; cases e
      | no => rw [q2] at e; cases e
    | exc _ _ => rw [q] at e; cases e
    | no => rw [q] at e; cases e
theorem snd_tuple (hR : SndR R) {es : List Expr} {es' : List E} {j : Nat} {pos : Pos} (hl : es.length ≤ 1000) (h : mapO (R c) es = some es') : Snd c (.Tuple es j pos) (.tup es') := by
  refine Snd.of (fun {G k' kx X W} hc tk => ?_) (fun _ _ => rfl) rfl rfl
  refine PE.imp (pe_tupF (snd_list hR hc tk h)) fun σ H Q q => ?_
  obtain ⟨w, s, S, rfl, st, rs, q⟩ := q
  simp only [ev] at q
  refine ⟨w, s, S, rfl, st, rs, q.bind fun ds S1 vs w1 e x1 rs1 rd1 q1 => ?_⟩
  have l : ds.length ≤ 1000 := by rw [evs_len es' S S1 ds e, mapO_len h]; exact hl
  have l2 := rd1.length
  exact ⟨by rw [l2, sizeLine_eq]; omega, q1.tup rs1 (by unfold szL; omega) rd1⟩
theorem snd_lst (hR : SndR R) {es : List Expr} {es' : List E} {pos : Pos} (hl : es.length ≤ 1000) (h : mapO (R c) es = some es') : Snd c (.List es pos) (.lst es') := by
  refine Snd.of (fun {G k' kx X W} hc tk => ?_) (fun _ _ => rfl) rfl rfl
  refine PE.imp (pe_lst (snd_list hR hc tk h)) fun σ H Q q => ?_
  obtain ⟨w, s, S, rfl, st, rs, q⟩ := q
  simp only [ev] at q
  refine ⟨w, s, S, rfl, st, rs, q.bind fun ds S1 vs w1 e x1 rs1 rd1 q1 => ?_⟩
  have l : ds.length ≤ 1000 := by rw [evs_len es' S S1 ds e, mapO_len h]; exact hl
  have l2 := rd1.length
  exact ⟨by rw [l2, sizeLine_eq]; omega, q1.lst rs1 (by unfold szL; omega) rd1⟩
theorem snd_bin (hR : SndR R) {a b : Expr} {op : Operator} {pos : Pos} {p : Pr} {a' b' : E} (h : bOp op = some p) (h1 : R c a = some a') (h2 : R c b = some b') : Snd c (.BinOp a op b pos) (.pr p [a', b']) :=
  Snd.of (fun {G k' kx X W} hc tk => PE.imp (pe_op (op_bin h) ((hR c a a' h1).pe hc tk) ((hR c b b' h2).pe hc tk)) fun σ H Q q => rd2 (fun rs d1 d2 q => px_bin h rs d1 d2 q) q) (fun _ _ => rfl) rfl rfl
theorem snd_neg (hR : SndR R) {a : Expr} {pos : Pos} {a' : E} (h1 : R c a = some a') : Snd c (.UnaryOp .USub a pos) (.pr .neg [a']) :=
  Snd.of (fun {G k' kx X W} hc tk => PE.imp (pe_un un_neg ((hR c a a' h1).pe hc tk)) fun σ H Q q => rd1 (fun rs d1 q => px_neg rs d1 q) q) (fun _ _ => rfl) rfl rfl
theorem snd_not (hR : SndR R) {a : Expr} {pos : Pos} {a' : E} (h1 : R c a = some a') : Snd c (.UnaryOp .Not a pos) (.pr .not [a']) := by
  refine ⟨fun {G k' kx X W} hc tk => ?_, fun {G k' kx X W} hc tk => ?_, nobool rfl, rfl⟩
  · refine PE.imp (pe_notT ((hR c a a' h1).pe hc tk)) fun σ H Q q => ?_
    obtain ⟨w, s, S, rfl, st, rs, q⟩ := q
    simp only [ev, evs, bind_assoc, bind_ok] at q
    refine ⟨w, s, S, rfl, st, rs, q.bind fun d S1 v w1 _ x1 rs1 rd1 q1 => ?_⟩
    simp only [pr] at q1
    obtain ⟨z, ez, q1⟩ := q1.ofO
    obtain ⟨t, e1, rfl⟩ := Option.map_eq_some_iff.mp ez
    exact ⟨t, tru_of rs1 rd1 e1, q1.bl rs1⟩
  · refine PT.imp (pt_not ((hR c a a' h1).pt hc tk)) fun σ H Q q => ?_
    obtain ⟨w, s, S, rfl, st, rs, q⟩ := q
    refine ⟨w, s, S, rfl, st, rs, ?_⟩
    simp only [tst, ev, evs, bind_assoc, bind_ok] at q ⊢
    have e : ∀ (r : Res D), (r.bind fun x S => (pr .not [x] S).bind fun d S => ofO (truth S d) S) = (r.bind fun x S => ofO (truth S x) S).bind fun b S => .ok (!b) S := by
      intro r
      cases r with
      | ok x S =>
        simp only [Res.bind, pr]
        cases truth S x with
        | none => rfl
        | some b => rfl
      | exc _ _ => rfl
      | no => rfl
    rw [e] at q
    exact q.bind fun b S1 b' w1 _ x1 rs1 eb q1 => by subst eb; exact q1 (!b) w1 (Ext.refl w1) rs1 rfl
/-! ### and, or -/
theorem tst_and {G : Nat → List D → Sto → Res D} {a b : E} {s : Env} {S : Sto} : tst (ev G (.and a b) s S) = (tst (ev G a s S)).bind fun t S1 => if t = true then tst (ev G b s S1) else .ok false S1 := by
  simp only [tst, ev, bind_assoc]
  cases ev G a s S with
  | ok d S1 =>
    simp only [Res.bind]
    cases e : truth S1 d with
    | none => rfl
    | some t => cases t <;> simp [ofO, e]
  | exc _ _ => rfl
  | no => rfl
theorem tst_or {G : Nat → List D → Sto → Res D} {a b : E} {s : Env} {S : Sto} : tst (ev G (.or a b) s S) = (tst (ev G a s S)).bind fun t S1 => if t = true then .ok true S1 else tst (ev G b s S1) := by
  simp only [tst, ev, bind_assoc]
  cases ev G a s S with
  | ok d S1 =>
    simp only [Res.bind]
    cases e : truth S1 d with
    | none => rfl
    | some t => cases t <;> simp [ofO, e]
  | exc _ _ => rfl
  | no => rfl
theorem snd_bool (hR : SndR R) {op : BoolOp} {a b : Expr} {r : List Expr} {pos : Pos} {a' b' : E} (h1 : R c a = some a') (h2 : R c (.BoolOp op (b :: r) pos) = some b') :
    Snd c (.BoolOp op (a :: b :: r) pos) (match op with | .And => .and a' b' | .Or => .or a' b') := by
  have sa := hR c a a' h1
  have sb := hR c _ b' h2
  cases op with
  | And =>
    have pw : ∀ {G : Nat → List D → Sto → Res D} {k : Nat} {kx : Nat → Value} {X : Cx} {W : WX}, CxOk c G k kx X → Takes X W → PW X (.BoolOp .And (a :: b :: r) pos) (RdT kx X.K W fun s S => tst (ev G (.and a' b') s S)) := by
      intro G k kx X W hc tk
      refine PW.imp (pw_and (sa.pt hc tk) (sb.pw rfl hc tk)) fun σ H Q q => ?_
      obtain ⟨w, s, S, rfl, st, rs, q⟩ := q
      dsimp only at q
      rw [tst_and] at q
      refine ⟨w, s, S, rfl, st, rs, q.bind fun t S1 t' w1 _ x1 rs1 et q1 => ?_⟩
      subst et
      cases t with
      | true => exact ⟨w1, s, S1, rfl, st.ext x1, rs1, q1⟩
      | false => exact q1 false w1 (Ext.refl w1) rs1 rfl
    refine ⟨fun {G k' kx X W} hc tk => ?_, fun {G k' kx X W} hc tk => (pw hc tk).pt, fun _ {G k' kx X W} hc tk => pw hc tk, rfl⟩
    refine PE.imp (pe_andT (sa.pe hc tk) (sb.pe hc tk)) fun σ H Q q => ?_
    obtain ⟨w, s, S, rfl, st, rs, q⟩ := q
    simp only [ev] at q
    refine ⟨w, s, S, rfl, st, rs, q.bind fun d S1 v w1 _ x1 rs1 rd1 q1 => ?_⟩
    cases e : truth S1 d with
    | none => simp only [e] at q1; exact q1.elim
    | some t =>
      simp only [e] at q1
      refine ⟨t, tru_of rs1 rd1 e, ?_⟩
      cases t with
      | true => exact ⟨w1, s, S1, rfl, st.ext x1, rs1, q1⟩
      | false => exact q1.val rs1 rd1
  | Or =>
    have pw : ∀ {G : Nat → List D → Sto → Res D} {k : Nat} {kx : Nat → Value} {X : Cx} {W : WX}, CxOk c G k kx X → Takes X W → PW X (.BoolOp .Or (a :: b :: r) pos) (RdT kx X.K W fun s S => tst (ev G (.or a' b') s S)) := by
      intro G k kx X W hc tk
      refine PW.imp (pw_or (sa.pt hc tk) (sb.pw rfl hc tk)) fun σ H Q q => ?_
      obtain ⟨w, s, S, rfl, st, rs, q⟩ := q
      dsimp only at q
      rw [tst_or] at q
      refine ⟨w, s, S, rfl, st, rs, q.bind fun t S1 t' w1 _ x1 rs1 et q1 => ?_⟩
      subst et
      cases t with
      | false => exact ⟨w1, s, S1, rfl, st.ext x1, rs1, q1⟩
      | true => exact q1 true w1 (Ext.refl w1) rs1 rfl
    refine ⟨fun {G k' kx X W} hc tk => ?_, fun {G k' kx X W} hc tk => (pw hc tk).pt, fun _ {G k' kx X W} hc tk => pw hc tk, rfl⟩
    refine PE.imp (pe_orT (sa.pe hc tk) (sb.pe hc tk)) fun σ H Q q => ?_
    obtain ⟨w, s, S, rfl, st, rs, q⟩ := q
    simp only [ev] at q
    refine ⟨w, s, S, rfl, st, rs, q.bind fun d S1 v w1 _ x1 rs1 rd1 q1 => ?_⟩
    cases e : truth S1 d with
    | none => simp only [e] at q1; exact q1.elim
    | some t =>
      simp only [e] at q1
      refine ⟨t, tru_of rs1 rd1 e, ?_⟩
      cases t with
      | false => exact ⟨w1, s, S1, rfl, st.ext x1, rs1, q1⟩
      | true => exact q1.val rs1 rd1
theorem snd_bool1 (hR : SndR R) {op : BoolOp} {a : Expr} {pos : Pos} {a' : E} (h1 : R c a = some a') : Snd c (.BoolOp op [a] pos) a' := by
  have sa := hR c a a' h1
  refine ⟨fun {G k' kx X W} hc tk => pe_one (sa.pe hc tk), fun {G k' kx X W} hc tk => ?_, fun _ {G k' kx X W} hc tk => ?_, rfl⟩
  · cases op with
    | And => exact (pw_and1 (sa.pt hc tk)).pt
    | Or => exact (pw_or1 (sa.pt hc tk)).pt
  · cases op with
    | And => exact pw_and1 (sa.pt hc tk)
    | Or => exact pw_or1 (sa.pt hc tk)
/-! ### comparisons -/
theorem snd_cmp (hR : SndR R) {a b : Expr} {op : CmpOp} {pos : Pos} {p : Pr} {a' b' : E} (h : cOp op = some p) (h1 : R c a = some a') (h2 : R c b = some b') : Snd c (.Compare a [op] [b] pos) (.pr p [a', b']) := by
  have sa := hR c a a' h1
  have sb := hR c b b' h2
  refine ⟨fun {G k' kx X W} hc tk => ?_, fun {G k' kx X W} hc tk => ?_, nobool rfl, rfl⟩
  · exact PE.imp (pe_cmpR (op_cmp hc.units h) (sa.pe hc tk) (sb.pe hc tk) (nomark_of sb.pl op)) fun σ H Q q => rd2 (fun rs d1 d2 q => px_cmp h rs d1 d2 q) q
  · refine PT.imp (pt_cmpR (op_cmp hc.units h) (sa.pe hc tk) (sb.pe hc tk) (nomark_of sb.pl op)) fun σ H Q q => ?_
    refine rd2 (p := p) (fun rs d1 d2 q => px_cmp h rs d1 d2 q) ?_
    obtain ⟨w, s, S, rfl, st, rs, q⟩ := q
    refine ⟨w, s, S, rfl, st, rs, tst_bl (fun d S1 e => ?_) q⟩
    simp only [ev, evs, bind_assoc, bind_ok] at e
    cases q1 : ev G a' s S with
    | ok d1 S2 =>
      rw [q1] at e
      simp only [Res.bind] at e
      cases q2 : ev G b' s S2 with
      | ok d2 S3 => rw [q2] at e; simp only at e; exact cmp_bl h e
      | exc _ _ => rw [q2] at e; cases e
      | no => rw [q2] at e; cases e
    | exc _ _ => rw [q1] at e; cases e
    | no => rw [q1] at e; cases e
theorem snd_is (hR : SndR R) {a : Expr} {k : Const} {j : Nat} {pos p2 : Pos} {a' : E} {d : D} (h1 : R c a = some a') (h2 : trC k = some (.con d)) : Snd c (.Compare a [.Is] [.Constant k j p2] pos) (.pr (.isc d) [a']) ∧ Snd c (.Compare a [.IsNot] [.Constant k j p2] pos) (.pr (.isntc d) [a']) := by
  have sa := hR c a a' h1
  have sb : Snd c (.Constant k j p2) (.con d) := snd_const h2
  have key : ∀ {G : Nat → List D → Sto → Res D} {kx : Nat → Value} {X : Cx} {W : WX} {p : Pr} {t : R2} {σ : L2.St} {H : Hp} {Q : VK},
      (∀ {w : Wd} {S : Sto} {d1 : D} {v u : V} {Q : VK}, RS X.K w S → RD X.K w d1 v → RD X.K w d u → Aft kx X.K W σ (RD X.K) w (pr p [d1] S) Q → t v u w.H Q) →
      RdE kx X.K W (ev G (.pr p [a'])) σ H Q → RdE kx X.K W (ev G a') σ H (fun v H1 => RdE kx X.K W (ev G (.con d)) σ H1 fun u H2 => t v u H2 Q) := by
    intro G kx X W p t σ H Q hp q
    obtain ⟨w, s, S, rfl, st, rs, q⟩ := q
    simp only [ev, evs, bind_assoc, bind_ok] at q
    refine ⟨w, s, S, rfl, st, rs, q.bind fun d1 S1 v w1 _ x1 rs1 rd1 q1 => ⟨w1, s, S1, rfl, st.ext x1, rs1, ?_⟩⟩
    simp only [ev]
    intro u w2 x2 rs2 rd2
    exact hp rs2 (RD.ext x2 _ _ rd1) rd2 (q1.mono x2)
  refine ⟨⟨fun {G k' kx X W} hc tk => ?_, fun {G k' kx X W} hc tk => ?_, nobool rfl, rfl⟩, ⟨fun {G k' kx X W} hc tk => ?_, fun {G k' kx X W} hc tk => ?_, nobool rfl, rfl⟩⟩
  · exact PE.imp (pe_cmpR op_isD (sa.pe hc tk) (sb.pe hc tk) (nomark _)) fun σ H Q q => key (fun rs d1 d2 q => px_isc rs d1 d2 q) q
  · refine PT.imp (pt_cmpR op_isD (sa.pe hc tk) (sb.pe hc tk) (nomark _)) fun σ H Q q => ?_
    refine key (p := .isc d) (fun rs d1 d2 q => px_isc rs d1 d2 q) ?_
    obtain ⟨w, s, S, rfl, st, rs, q⟩ := q
    refine ⟨w, s, S, rfl, st, rs, tst_bl (fun d S1 e => ?_) q⟩
    simp only [ev, evs, bind_assoc, bind_ok] at e
    cases q1 : ev G a' s S with
    | ok d1 S2 => rw [q1] at e; simp only [Res.bind, pr] at e; exact isC_bl e
    | exc _ _ => rw [q1] at e; cases e
    | no => rw [q1] at e; cases e
  · exact PE.imp (pe_cmpR op_notD (sa.pe hc tk) (sb.pe hc tk) (nomark _)) fun σ H Q q => key (fun rs d1 d2 q => px_isntc rs d1 d2 q) q
  · refine PT.imp (pt_cmpR op_notD (sa.pe hc tk) (sb.pe hc tk) (nomark _)) fun σ H Q q => ?_
    refine key (p := .isntc d) (fun rs d1 d2 q => px_isntc rs d1 d2 q) ?_
    obtain ⟨w, s, S, rfl, st, rs, q⟩ := q
    refine ⟨w, s, S, rfl, st, rs, tst_bl (fun d S1 e => ?_) q⟩
    simp only [ev, evs, bind_assoc, bind_ok] at e
    cases q1 : ev G a' s S with
    | ok d1 S2 => rw [q1] at e; simp only [Res.bind, pr] at e; exact isC_bl e
    | exc _ _ => rw [q1] at e; cases e
    | no => rw [q1] at e; cases e
theorem chn_bl {G : Nat → List D → Sto → Res D} {o1 o2 : CmpOp} {p q : Pr} (h1 : cOp o1 = some p) (h2 : cOp o2 = some q) {a b e : E} {s : Env} {S S1 : Sto} {d : D} (h : ev G (.chn p q a b e) s S = .ok d S1) : ∃ t, d = .bl t := by
  simp only [ev] at h
  cases q1 : ev G a s S with
  | ok d1 S2 =>
    rw [q1] at h
    simp only [Res.bind] at h
    cases q2 : ev G b s S2 with
    | ok d2 S3 =>
      rw [q2] at h
      simp only at h
      cases q3 : pr p [d1, d2] S3 with
      | ok d3 S4 =>
        rw [q3] at h
        simp only at h
        obtain ⟨t, rfl⟩ := cmp_bl h1 q3
        cases t with
        | true =>
          simp only at h
          cases q4 : ev G e s S4 with
          | ok d4 S5 => rw [q4] at h; simp only at h; exact cmp_bl h2 h
          | exc _ _ => rw [q4] at h; cases h
          | no => rw [q4] at h; cases h
        | false => simp only at h; cases h; exact ⟨_, rfl⟩
      | exc _ _ => rw [q3] at h; cases h
      | no => rw [q3] at h; cases h
    | exc _ _ => rw [q2] at h; cases h
    | no => rw [q2] at h; cases h
  | exc _ _ => rw [q1] at h; cases h
  | no => rw [q1] at h; cases h
theorem snd_chain (hR : SndR R) {a b d : Expr} {o1 o2 : CmpOp} {pos : Pos} {p q : Pr} {a' b' d' : E} (e1 : cOp o1 = some p) (e2 : cOp o2 = some q) (h1 : R c a = some a') (h2 : R c b = some b') (h3 : R c d = some d') :
    Snd c (.Compare a [o1, o2] [b, d] pos) (.chn p q a' b' d') := by
  have sa := hR c a a' h1
  have sb := hR c b b' h2
  have sd := hR c d d' h3
  have hm : lastMarks [o1, o2] [b, d] = false := by
    show behindInMarks o2 d = false
    exact nomark_of sd.pl o2
  have key : ∀ {G : Nat → List D → Sto → Res D} {kx : Nat → Value} {X : Cx} {W : WX} {σ : L2.St} {H : Hp} {Q : VK}, RdE kx X.K W (ev G (.chn p q a' b' d')) σ H Q →
      tChain (rCmp X.K p) (rCmp X.K q) (RdE kx X.K W (ev G a')) (RdE kx X.K W (ev G b')) (RdE kx X.K W (ev G d')) σ H Q := by
    intro G kx X W σ H Q q
    obtain ⟨w, s, S, rfl, st, rs, q⟩ := q
    simp only [ev] at q
    refine ⟨w, s, S, rfl, st, rs, q.bind fun d1 S1 v w1 _ x1 rs1 rd1 q1 => ⟨w1, s, S1, rfl, st.ext x1, rs1, q1.bind fun d2 S2 u w2 _ x2 rs2 rd2 q2 => ?_⟩⟩
    refine px_cmp e1 rs2 (RD.ext x2 _ _ rd1) rd2 (q2.bind fun d3 S3 z w3 e x3 rs3 rd3 q3 => ?_)
    obtain ⟨t, rfl⟩ := cmp_bl e1 e
    refine ⟨t, rd3.blI, ?_⟩
    cases t with
    | false => exact q3.bl rs3
    | true =>
      simp only at q3
      exact ⟨w3, s, S3, rfl, ((st.ext x1).ext x2).ext x3, rs3, q3.bind fun d4 S4 y w4 _ x4 rs4 rd4 q4 => px_cmp e2 rs4 (RD.ext (x3.trans x4) _ _ rd2) rd4 q4⟩
  refine ⟨fun {G k' kx X W} hc tk => ?_, fun {G k' kx X W} hc tk => ?_, nobool rfl, rfl⟩
  · exact PE.imp (pe_chain (op_cmp hc.units e1) (op_cmp hc.units e2) (sa.pe hc tk) (sb.pe hc tk) (sd.pe hc tk) hm) fun σ H Q q => key q
  · refine PT.imp (pt_chain (op_cmp hc.units e1) (op_cmp hc.units e2) (sa.pe hc tk) (sb.pe hc tk) (sd.pe hc tk) hm) fun σ H Q q => ?_
    refine key (G := G) (kx := kx) (X := X) (W := W) ?_
    obtain ⟨w, s, S, rfl, st, rs, q⟩ := q
    exact ⟨w, s, S, rfl, st, rs, tst_bl (fun d S1 e => chn_bl e1 e2 e) q⟩
/-! ### a if t else b -/
theorem snd_ite (hR : SndR R) {t a b : Expr} {pos : Pos} {t' a' b' : E} (h0 : R c t = some t') (h1 : R c a = some a') (h2 : R c b = some b') : Snd c (.IfExp t a b pos) (.ite t' a' b') := by
  have st' := hR c t t' h0
  have sa := hR c a a' h1
  have sb := hR c b b' h2
  refine ⟨fun {G k' kx X W} hc tk => ?_, fun {G k' kx X W} hc tk => ?_, nobool rfl, rfl⟩
  · refine PE.imp (pe_ifExp (st'.pt hc tk) (sa.pe hc tk) (sb.pe hc tk)) fun σ H Q q => ?_
    obtain ⟨w, s, S, rfl, st, rs, q⟩ := q
    simp only [ev] at q
    refine ⟨w, s, S, rfl, st, rs, q.bind fun t S1 t' w1 _ x1 rs1 et q1 => ?_⟩
    subst et
    cases t with
    | true => exact ⟨w1, s, S1, rfl, st.ext x1, rs1, q1⟩
    | false => exact ⟨w1, s, S1, rfl, st.ext x1, rs1, q1⟩
  · refine ⟨fun pins s0 σ H Q I q => ?_⟩
    obtain ⟨w, s, S, rfl, st, rs, q⟩ := q
    simp only [tst, ev, bind_assoc] at q
    have key : RdT kx X.K W (fun s S => tst (ev G t' s S)) σ w.H (fun b H1 => if b = true then RdT kx X.K W (fun s S => tst (ev G a' s S)) σ H1 Q else RdT kx X.K W (fun s S => tst (ev G b' s S)) σ H1 Q) := by
      refine ⟨w, s, S, rfl, st, rs, ?_⟩
      have q' : Aft kx X.K W σ (fun _ b b' => b = b') w ((tst (ev G t' s S)).bind fun t S1 => if t = true then tst (ev G a' s S1) else tst (ev G b' s S1)) Q := by
        refine q.eqv ?_
        simp only [tst, bind_assoc]
        cases ev G t' s S with
        | ok d S1 =>
          simp only [Res.bind]
          cases truth S1 d with
          | none => rfl
          | some t => cases t <;> rfl
        | exc _ _ => rfl
        | no => rfl
      refine q'.bind fun t S1 t' w1 _ x1 rs1 et q1 => ?_
      subst et
      cases t with
      | true => exact ⟨w1, s, S1, rfl, st.ext x1, rs1, q1⟩
      | false => exact ⟨w1, s, S1, rfl, st.ext x1, rs1, q1⟩
    refine isTrue_IfExp (thn ((st'.pt hc tk).run pins s0 σ w.H _ I key) fun b s1 ⟨H1, I1, q1⟩ => ?_)
    cases b with
    | true => exact (sa.pt hc tk).run pins s1 σ H1 Q I1 q1
    | false => exact (sb.pt hc tk).run pins s1 σ H1 Q I1 q1
end Eng

/-! Eng11 -/
set_option Elab.async false
set_option linter.all false
set_option maxRecDepth 100000
set_option maxHeartbeats 4000000
/-! Subscripts, calls, methods. -/
namespace Eng
open PySem PySem.Spec PyProof.Rows L2
variable {c : Ct} {R : Rec}

/-! ### subscripts -/
theorem plainIx_of {e : Expr} (h : plainX e = true) : PlainIx e := by
  intro o i
  cases e <;> first | rfl | (simp [plainX] at h)
theorem snd_idx (hR : SndR R) {a b : Expr} {pos : Pos} {a' b' : E} (h1 : R c a = some a') (h2 : R c b = some b') : Snd c (.Subscript a b pos) (.pr .idx [a', b']) :=
  Snd.of (fun {G k' kx X W} hc tk => PE.imp (pe_ix (ix_A hc.units) ((hR c a a' h1).pe hc tk) ((hR c b b' h2).pe hc tk) (plainIx_of (hR c b b' h2).pl)) fun σ H Q q => rd2 (fun rs d1 d2 q => px_idxA rs d1 d2 q) q) (fun _ _ => rfl) rfl rfl
theorem snd_slc0 (hR : SndR R) {a : Expr} {pos p2 : Pos} {a' : E} (h1 : R c a = some a') : Snd c (.Subscript a (.Slice none none none p2) pos) (.pr (.slc false false) [a']) := by
  refine Snd.of (fun {G k' kx X W} hc tk => ?_) (fun _ _ => rfl) rfl rfl
  refine PE.imp (pe_slice sl_D ((hR c a a' h1).pe hc tk) po_none po_none) fun σ H Q q => ?_
  obtain ⟨w, s, S, rfl, st, rs, q⟩ := q
  simp only [ev, evs, bind_assoc, bind_ok] at q
  refine ⟨w, s, S, rfl, st, rs, q.bind fun d S1 v w1 _ x1 rs1 rd1 q1 => ?_⟩
  exact px_slc rs1 (RV.of rs1 rd1) q1
theorem snd_slcL (hR : SndR R) {a l : Expr} {pos p2 : Pos} {a' l' : E} (h1 : R c a = some a') (h2 : R c l = some l') : Snd c (.Subscript a (.Slice (some l) none none p2) pos) (.pr (.slc true false) [a', l']) := by
  refine Snd.of (fun {G k' kx X W} hc tk => ?_) (fun _ _ => rfl) rfl rfl
  refine PE.imp (pe_slice sl_D ((hR c a a' h1).pe hc tk) (po_some ((hR c l l' h2).pe hc tk)) po_none) fun σ H Q q => ?_
  obtain ⟨w, s, S, rfl, st, rs, q⟩ := q
  simp only [ev, evs, bind_assoc, bind_ok] at q
  refine ⟨w, s, S, rfl, st, rs, q.bind fun d S1 v w1 _ x1 rs1 rd1 q1 => ⟨w1, s, S1, rfl, st.ext x1, rs1, q1.bind fun e S2 u w2 _ x2 rs2 rd2 q2 => ?_⟩⟩
  cases e with
  | int i => exact ⟨i, rd2.intI, px_slc rs2 (RV.of rs2 (RD.ext x2 _ _ rd1)) q2⟩
  | _ => exact q2.elim
theorem snd_slcH (hR : SndR R) {a l : Expr} {pos p2 : Pos} {a' l' : E} (h1 : R c a = some a') (h2 : R c l = some l') : Snd c (.Subscript a (.Slice none (some l) none p2) pos) (.pr (.slc false true) [a', l']) := by
  refine Snd.of (fun {G k' kx X W} hc tk => ?_) (fun _ _ => rfl) rfl rfl
  refine PE.imp (pe_slice sl_D ((hR c a a' h1).pe hc tk) po_none (po_some ((hR c l l' h2).pe hc tk))) fun σ H Q q => ?_
  obtain ⟨w, s, S, rfl, st, rs, q⟩ := q
  simp only [ev, evs, bind_assoc, bind_ok] at q
  refine ⟨w, s, S, rfl, st, rs, q.bind fun d S1 v w1 _ x1 rs1 rd1 q1 => ⟨w1, s, S1, rfl, st.ext x1, rs1, q1.bind fun e S2 u w2 _ x2 rs2 rd2 q2 => ?_⟩⟩
  cases e with
  | int i => exact ⟨i, rd2.intI, px_slc rs2 (RV.of rs2 (RD.ext x2 _ _ rd1)) q2⟩
  | _ => exact q2.elim
theorem snd_slcB (hR : SndR R) {a l h : Expr} {pos p2 : Pos} {a' l' h' : E} (h1 : R c a = some a') (h2 : R c l = some l') (h3 : R c h = some h') : Snd c (.Subscript a (.Slice (some l) (some h) none p2) pos) (.pr (.slc true true) [a', .pr .asint [l'], h']) := by
  refine Snd.of (fun {G k' kx X W} hc tk => ?_) (fun _ _ => rfl) rfl rfl
  refine PE.imp (pe_slice sl_D ((hR c a a' h1).pe hc tk) (po_some ((hR c l l' h2).pe hc tk)) (po_some ((hR c h h' h3).pe hc tk))) fun σ H Q q => ?_
  obtain ⟨w, s, S, rfl, st, rs, q⟩ := q
  simp only [ev, evs, bind_assoc, bind_ok] at q
  refine ⟨w, s, S, rfl, st, rs, q.bind fun d S1 v w1 _ x1 rs1 rd1 q1 => ⟨w1, s, S1, rfl, st.ext x1, rs1, q1.bind fun e S2 u w2 _ x2 rs2 rd2 q2 => ?_⟩⟩
  cases e with
  | int i =>
    simp only [pr, bind_ok] at q2
    refine ⟨i, rd2.intI, w2, s, S2, rfl, (st.ext x1).ext x2, rs2, q2.bind fun f S3 y w3 _ x3 rs3 rd3 q3 => ?_⟩
    cases f with
    | int j => exact ⟨j, rd3.intI, px_slc rs3 (RV.of rs3 (RD.ext (x2.trans x3) _ _ rd1)) q3⟩
    | _ => exact q3.elim
  | _ => exact q2.elim
theorem snd_rev (hR : SndR R) {a : Expr} {pos p1 p2 p3 : Pos} {j : Nat} {a' : E} (h1 : R c a = some a') : Snd c (.Subscript a (.Slice none none (some (.UnaryOp .USub (.Constant (.int 1) j p1) p2)) p3) pos) (.pr .rev [a']) := by
  refine Snd.of (fun {G k' kx X W} hc tk => ?_) (fun _ _ => rfl) rfl rfl
  refine PE.imp (pe_revD ((hR c a a' h1).pe hc tk)) fun σ H Q q => ?_
  obtain ⟨w, s, S, rfl, st, rs, q⟩ := q
  simp only [ev, evs, bind_assoc, bind_ok] at q
  refine ⟨w, s, S, rfl, st, rs, q.bind fun d S1 v w1 _ x1 rs1 rd1 q1 => ?_⟩
  exact px_rev rs1 rd1 q1
end Eng

/-! Eng12 -/
set_option Elab.async false
set_option linter.all false
set_option maxRecDepth 100000
set_option maxHeartbeats 4000000
/-! Calls, methods. -/
namespace Eng
open PySem PySem.Spec PyProof.Rows L2
variable {c : Ct} {R : Rec}

theorem Aft.flat {a b : Type} {kx : Nat → Value} {K : PySem.W.Frag} {W : WX} {σ : L2.St} {R : Wd → a → b → Prop} {w : Wd} {r : Res a} {Q : b → Hp → Prop} (h : Aft kx K W σ R w r Q) : Aft kx K (fun cls d _ H => W cls d σ H) [] R w r Q := by
  cases r with
  | ok d S => exact h
  | exc e S => exact h
  | no => exact h
theorem split_args {es : List Expr} {es' : List E} (hR : SndR R) (h : mapO (R c) es = some es') (hn : 0 < es.length) : ∃ e r, es = e :: r ∧ (∀ env : PySem.Env, starEach (e :: r) env = (false, eval e env) :: starEach r env) ∧ ∀ (pos : Pos) (env : PySem.Env), (backTo pos (starEach r env)).any (·.1) = false := by
  cases es with
  | nil => simp at hn
  | cons e r =>
    have hp := plain_list hR h
    exact ⟨e, r, rfl, fun env => star_of (hp e List.mem_cons_self) r env, fun pos env => nostar_of fun x hx => hp x (List.mem_cons_of_mem _ hx)⟩
theorem snd_own (hR : SndR R) {f : Str} {p pos : Pos} {args : List Expr} {es : List E} {i ar : Nat} (hg : isGl c f = true) (hf : c.g.funs.lookup f = some (i, ar)) (hl : args.length = ar) (h0 : 0 < ar) (h : mapO (R c) args = some es) : Snd c (.Call (.Name f p) args [] pos) (.call i es) := by
  refine Snd.of (fun {G k' kx X W} hc tk => ?_) (fun _ _ => rfl) rfl rfl
  obtain ⟨g1, g2, _, _⟩ := hc.gl hg
  obtain ⟨a, fd, ps, m1, m2, m3, m4, F⟩ := hc.fns f i ar hf
  obtain ⟨e, r, rfl, s1, s2⟩ := split_args hR h (by omega)
  refine PE.imp (pe_callS F hc.room g1 m1 m2 m3 (fun σ => passAt tk σ) (snd_list hR hc tk h) g2 (s1 _) (s2 _ _)) fun σ H Q q => ?_
  obtain ⟨w, s, S, rfl, st, rs, q⟩ := q
  simp only [ev] at q
  refine ⟨w, s, S, rfl, st, rs, q.bind fun ds S1 vs w1 e1 x1 rs1 rd1 q1 => ?_⟩
  exact ⟨w1, ds, S1, rfl, rs1, rd1, by rw [evs_len es S S1 ds e1, mapO_len h]; exact hl, q1.flat⟩
theorem snd_blt (hR : SndR R) {f : Str} {p : Pr} {p1 pos : Pos} {args : List Expr} {es : List E} {u : Value} {r : PySem.W.Frag → List V → Hp → VK → Prop} (hu : (∃ id, u = .builtin id) ∨ ∃ T, u = .type T) (hg : isGl c f = true) (hb : f ∈ BN) (hv : bootBuiltins f = some u)
    (hcall : ∀ {X : Cx}, X.calm = true → CallR X u (r X.K))
    (hpx : ∀ {kx : Nat → Value} {K : PySem.W.Frag} {W : WX} {σ : L2.St} {w : Wd} {S : Sto} {Q : VK} {ds : List D} {vs : List V}, ds.length = es.length → RS K w S → RDs K w ds vs → Aft kx K W σ (RD K) w (pr p ds S) Q → r K vs w.H Q)
    (h0 : 0 < args.length) (h : mapO (R c) args = some es) : Snd c (.Call (.Name f p1) args [] pos) (.pr p es) := by
  refine Snd.of (fun {G k' kx X W} hc tk => ?_) (fun _ _ => rfl) rfl rfl
  obtain ⟨g1, g2, _, g3⟩ := hc.gl hg
  obtain ⟨e, rr, rfl, s1, s2⟩ := split_args hR h h0
  have key : ∀ {σ : L2.St} {H : Hp} {Q : VK}, RdE kx X.K W (ev G (.pr p es)) σ H Q → tCB (r X.K) (RdA kx X.K W (evs G es)) σ H Q := by
    intro σ H Q q
    obtain ⟨w, s, S, rfl, st, rs, q⟩ := q
    simp only [ev] at q
    exact ⟨w, s, S, rfl, st, rs, q.bind fun ds S1 vs w1 e1 x1 rs1 rd1 q1 => hpx (evs_len es S S1 ds e1) rs1 rd1 q1⟩
  rcases hu with ⟨id, rfl⟩ | ⟨T, rfl⟩
  · exact PE.imp (pe_callB (hcall hc.calm) g1 (hc.bui f hb) hv (snd_list hR hc tk h) g3 g2 (s1 _) (s2 _ _)) fun σ H Q q => key q
  · exact PE.imp (pe_callTy (hcall hc.calm) g1 (hc.bui f hb) hv (snd_list hR hc tk h) g3 g2 (s1 _) (s2 _ _)) fun σ H Q q => key q
theorem one_of {K : PySem.W.Frag} {w : Wd} {ds : List D} {vs : List V} (hl : ds.length = 1) (h : RDs K w ds vs) : ∃ d v, ds = [d] ∧ vs = [v] ∧ RD K w d v := by
  cases ds with
  | nil => cases hl
  | cons d r =>
    cases r with
    | nil =>
      obtain ⟨v, r, rfl, h1, h2⟩ := h.cons_inv
      exact ⟨d, v, rfl, by rw [h2.nil_inv], h1⟩
    | cons _ _ => simp at hl
theorem two_of {K : PySem.W.Frag} {w : Wd} {ds : List D} {vs : List V} (hl : ds.length = 2) (h : RDs K w ds vs) : ∃ d e v u, ds = [d, e] ∧ vs = [v, u] ∧ RD K w d v ∧ RD K w e u := by
  cases ds with
  | nil => cases hl
  | cons d r =>
    obtain ⟨v, r', rfl, h1, h2⟩ := h.cons_inv
    obtain ⟨e, u, rfl, rfl, h3⟩ := one_of (by simpa using hl) h2
    exact ⟨d, e, v, u, rfl, rfl, h1, h3⟩
theorem snd_b1 (hR : SndR R) {f : Str} {p : Pr} {p1 pos : Pos} {a : Expr} {a' : E} (hg : isGl c f = true) (hb : f ∈ BN) (hp : b1 f = some p) (h : R c a = some a') : Snd c (.Call (.Name f p1) [a] [] pos) (.pr p [a']) := by
  have hm : mapO (R c) [a] = some [a'] := by simp only [mapO, h]
  unfold b1 at hp
  split at hp
  · rename_i e; subst e; cases hp
    exact snd_blt hR (r := rLenX) (.inl ⟨_, rfl⟩) hg hb (by decide +kernel) (fun _ => call_lenX) (fun hl rs rd q => by obtain ⟨d, v, rfl, rfl, r1⟩ := one_of hl rd; exact px_len rs r1 q) (by simp) hm
  split at hp
  · rename_i e; subst e; cases hp
    exact snd_blt hR (r := rAll) (.inl ⟨_, rfl⟩) hg hb (by decide +kernel) (fun hc => cr_all hc) (fun hl rs rd q => by obtain ⟨d, v, rfl, rfl, r1⟩ := one_of hl rd; exact px_all rs r1 q) (by simp) hm
  split at hp
  · rename_i e; subst e; cases hp
    exact snd_blt hR (r := rAny) (.inl ⟨_, rfl⟩) hg hb (by decide +kernel) (fun hc => cr_any hc) (fun hl rs rd q => by obtain ⟨d, v, rfl, rfl, r1⟩ := one_of hl rd; exact px_any rs r1 q) (by simp) hm
  split at hp
  · rename_i e; subst e; cases hp
    exact snd_blt hR (r := rSum) (.inl ⟨_, rfl⟩) hg hb (by decide +kernel) (fun hc => cr_sum hc) (fun hl rs rd q => by obtain ⟨d, v, rfl, rfl, r1⟩ := one_of hl rd; exact px_sum rs r1 q) (by simp) hm
  split at hp
  · rename_i e; subst e; cases hp
    exact snd_blt hR (r := rTupleX) (.inr ⟨_, rfl⟩) hg hb (by decide +kernel) (fun hc => call_tupleF) (fun hl rs rd q => by obtain ⟨d, v, rfl, rfl, r1⟩ := one_of hl rd; exact px_tuple rs r1 q) (by simp) hm
  split at hp
  · rename_i e; subst e; cases hp
    exact snd_blt hR (r := rListX) (.inr ⟨_, rfl⟩) hg hb (by decide +kernel) (fun hc => call_list_of) (fun hl rs rd q => by obtain ⟨d, v, rfl, rfl, r1⟩ := one_of hl rd; exact px_list rs r1 q) (by simp) hm
  split at hp
  · rename_i e; subst e; cases hp
    exact snd_blt hR (r := fun _ => rIntX) (.inr ⟨_, rfl⟩) hg hb (by decide +kernel) (fun hc => call_int1) (fun hl rs rd q => by obtain ⟨d, v, rfl, rfl, r1⟩ := one_of hl rd; exact px_int rs r1 q) (by simp) hm
  split at hp
  · rename_i e; subst e; cases hp
    exact snd_blt hR (r := rMax) (.inl ⟨_, rfl⟩) hg hb (by decide +kernel) (fun hc => cr_max hc) (fun hl rs rd q => by obtain ⟨d, v, rfl, rfl, r1⟩ := one_of hl rd; exact px_maxl rs r1 q) (by simp) hm
  split at hp
  · rename_i e; subst e; cases hp
    exact snd_blt hR (r := rSortX) (.inl ⟨_, rfl⟩) hg hb (by decide +kernel) (fun hc => call_sortX hc) (fun hl rs rd q => by obtain ⟨d, v, rfl, rfl, r1⟩ := one_of hl rd; exact px_sorted rs r1 q) (by simp) hm
  split at hp
  · rename_i e; subst e; cases hp
    exact snd_blt hR (r := rDictX) (.inr ⟨_, rfl⟩) hg hb (by decide +kernel) (fun hc => call_dictX hc) (fun hl rs rd q => by obtain ⟨d, v, rfl, rfl, r1⟩ := one_of hl rd; exact px_dictp rs r1 q) (by simp) hm
  · cases hp
theorem snd_b2 (hR : SndR R) {f : Str} {p : Pr} {p1 pos : Pos} {a b : Expr} {a' b' : E} (hg : isGl c f = true) (hb : f ∈ BN) (hp : b2 f = some p) (h : R c a = some a') (h' : R c b = some b') : Snd c (.Call (.Name f p1) [a, b] [] pos) (.pr p [a', b']) := by
  have hm : mapO (R c) [a, b] = some [a', b'] := by simp only [mapO, h, h']
  unfold b2 at hp
  split at hp
  · rename_i e; subst e; cases hp
    exact snd_blt hR (r := fun _ xs H Q => ∃ i j, xs = [.int i, .int j] ∧ Q (.int (if j < i then j else i)) H) (.inl ⟨_, rfl⟩) hg hb (by decide +kernel) (fun hc => call_min2 hc) (fun hl rs rd q => by obtain ⟨d, e, v, u, rfl, rfl, r1, r2⟩ := two_of hl rd; exact px_min2 rs r1 r2 q) (by simp) hm
  split at hp
  · rename_i e; subst e; cases hp
    exact snd_blt hR (r := fun _ xs H Q => ∃ i j, xs = [.int i, .int j] ∧ Q (.int (if j > i then j else i)) H) (.inl ⟨_, rfl⟩) hg hb (by decide +kernel) (fun hc => call_max2 hc) (fun hl rs rd q => by obtain ⟨d, e, v, u, rfl, rfl, r1, r2⟩ := two_of hl rd; exact px_max2 rs r1 r2 q) (by simp) hm
  · cases hp
/-! ### isinstance -/
theorem tyOf_boot {x : Str} {t : Ty} (h : tyOf x = some t) : x ∈ BN ∧ bootBuiltins x = some (.type t.nm) := by
  unfold tyOf at h
  split at h
  · rename_i e; subst e; cases h; exact ⟨by decide +kernel, by decide +kernel⟩
  split at h
  · rename_i e; subst e; cases h; exact ⟨by decide +kernel, by decide +kernel⟩
  split at h
  · rename_i e; subst e; cases h; exact ⟨by decide +kernel, by decide +kernel⟩
  split at h
  · rename_i e; subst e; cases h; exact ⟨by decide +kernel, by decide +kernel⟩
  split at h
  · rename_i e; subst e; cases h; exact ⟨by decide +kernel, by decide +kernel⟩
  · cases h
theorem pe_ty {G : Nat → List D → Sto → Res D} {k : Nat} {kx : Nat → Value} {X : Cx} (hc : CxOk c G k kx X) {e : Expr} {t : Ty} (h : tyE c e = some t) : PE X e (tC (.ty t.nm)) ∧ plainX e = true := by
  cases e with
  | Name x p =>
    simp only [tyE] at h
    split at h
    · rename_i hg
      obtain ⟨g1, g2, _, g3⟩ := hc.gl hg
      obtain ⟨b1, b2⟩ := tyOf_boot h
      exact ⟨pe_bltn g1 (hc.bui x b1) b2 rfl g3 g2, rfl⟩
    · cases h
  | _ => simp only [tyE] at h; cases h
def tTys (ts : List Ty) : TA := fun _ H Q => Q (ts.map fun t => .ty t.nm) H
theorem pa_tys {G : Nat → List D → Sto → Res D} {k : Nat} {kx : Nat → Value} {X : Cx} (hc : CxOk c G k kx X) : ∀ {es : List Expr} {ts : List Ty}, mapO (tyE c) es = some ts → PA X es (tTys ts)
  | [], ts, h => by
    simp only [mapO, Option.some.injEq] at h
    subst h
    exact PA.imp pa_nil fun σ H Q q => q
  | e :: es, ts, h => by
    obtain ⟨t, r, h1, h2, rfl⟩ := mapO_cons h
    obtain ⟨p1, p2⟩ := pe_ty hc h1
    exact PA.imp (pa_cons p1 (pa_tys hc h2) (star_of p2 es X.env)) fun σ H Q q => q
theorem snd_isi1 (hR : SndR R) {p1 pos : Pos} {a b : Expr} {a' : E} {t : Ty} (hg : isGl c "isinstance" = true) (h : R c a = some a') (h' : tyE c b = some t) : Snd c (.Call (.Name "isinstance" p1) [a, b] [] pos) (.pr (.isi [t]) [a']) := by
  have sa := hR c a a' h
  refine Snd.of (fun {G k' kx X W} hc tk => ?_) (fun _ _ => rfl) rfl rfl
  obtain ⟨g1, g2, _, g3⟩ := hc.gl hg
  obtain ⟨q1, q2⟩ := pe_ty hc h'
  refine PE.imp (pe_callB call_isi g1 (hc.bui _ (by decide +kernel)) (by decide +kernel) (pa_cons (sa.pe hc tk) (pa_cons q1 pa_nil (star_of q2 [] X.env)) (star_of sa.pl [b] X.env)) g3 g2 (star_of sa.pl [b] X.env) (by rw [star_of q2 []] <;> rfl)) fun σ H Q q => ?_
  obtain ⟨w, s, S, rfl, st, rs, q⟩ := q
  simp only [ev, evs, bind_assoc, bind_ok] at q
  exact ⟨w, s, S, rfl, st, rs, q.bind fun d S1 v w1 _ x1 rs1 rd1 q1 => px_isi1 rs1 rd1 q1⟩
theorem snd_isiT (hR : SndR R) {p1 pos p2 : Pos} {a b : Expr} {bs : List Expr} {j : Nat} {a' : E} {ts : List Ty} (hg : isGl c "isinstance" = true) (hl : bs.length ≤ 100) (h : R c a = some a') (h' : mapO (tyE c) (b :: bs) = some ts) :
    Snd c (.Call (.Name "isinstance" p1) [a, .Tuple (b :: bs) j p2] [] pos) (.pr (.isi ts) [a']) := by
  have sa := hR c a a' h
  refine Snd.of (fun {G k' kx X W} hc tk => ?_) (fun _ _ => rfl) rfl rfl
  obtain ⟨g1, g2, _, g3⟩ := hc.gl hg
  have q1 := pa_tys hc h'
  refine PE.imp (pe_callB call_isiT g1 (hc.bui _ (by decide +kernel)) (by decide +kernel) (pa_cons (sa.pe hc tk) (pa_cons (pe_tup q1) pa_nil (star_of rfl [] X.env)) (star_of sa.pl _ X.env)) g3 g2 (star_of sa.pl _ X.env) (by rw [star_of rfl []] <;> rfl)) fun σ H Q q => ?_
  obtain ⟨w, s, S, rfl, st, rs, q⟩ := q
  simp only [ev, evs, bind_assoc, bind_ok] at q
  refine ⟨w, s, S, rfl, st, rs, q.bind fun d S1 v w1 _ x1 rs1 rd1 q1 => ?_⟩
  have l := mapO_len h'
  refine ⟨by rw [List.length_map, sizeLine_eq, l]; simp; omega, fun p hp => ?_⟩
  obtain ⟨t, r, e1, e2, rfl⟩ := mapO_cons h'
  exact px_isiT (t := t) (ts := r) (p := p) (w := w1.new p (.tup ((t :: r).map fun (t : Ty) => V.ty t.nm))) (rs1.new hp) (RD.ext (Ext.new hp) _ _ rd1) (show upd w1.H p (.tup ((t :: r).map fun (t : Ty) => V.ty t.nm)) p = _ from upd_same) (q1.mono (Ext.new hp))
/-! ### methods -/
theorem base_of {o : Expr} (h : okRecv o = true) (m : Str) (env : PySem.Env) : attributeBase o m env (eval o env) = eval o env := by
  cases o with
  | Call f args kws pos =>
    cases f <;> first | (simp [okRecv] at h; done) | skip
    cases args with
    | nil => simp [okRecv] at h
    | cons _ _ => rfl
  | _ => first | rfl | (simp [okRecv] at h)
theorem few_of {e : Expr} {es : List Expr} (h : ∀ x ∈ e :: es, plainX x = true) (hl : (e :: es).length < 30) (cpos : Pos) (env : PySem.Env) : ((backTo cpos (starEach (e :: es) env)).all (fun x => !x.1) && (backToKw cpos (keywordEach [] env)).all (fun x => x.1.isSome)
      && decide ((e :: es).length + ([] : List Keyword).length + (if ([] : List Keyword).isEmpty then 0 else 1) < 30)) = true := by
  have h1 : (backTo cpos (starEach (e :: es) env)).all (fun x => !x.1) = true := by
    have := nostar_of (pos := cpos) (env := env) h
    rw [List.any_eq_false] at this
    rw [List.all_eq_true]
    intro x hx
    have := this x hx
    simpa using this
  have h2 : (backToKw cpos (keywordEach [] env)).all (fun x => x.1.isSome) = true := by rfl
  have h3 : decide ((e :: es).length + ([] : List Keyword).length + (if ([] : List Keyword).isEmpty then 0 else 1) < 30) = true := decide_eq_true (by show (e :: es).length + 0 + 0 < 30; omega)
  rw [h1, h2, h3] <;> rfl
theorem okM_lst {p : Pr} (hp : p = .app ∨ p = .ext ∨ p = .count) {K : PySem.W.Frag} {w : Wd} {S : Sto} {d : D} {v : V} (rs : RS K w S) (rd : RD K w d v) (h : okM p d S = true) : tyV K "list" v w.H := by
  have rv := RV.of rs rd
  have e : ∃ xs, Eng.rs S d = .lst xs := by
    rcases hp with rfl | rfl | rfl <;> (simp only [okM] at h; split at h <;> first | exact ⟨_, by assumption⟩ | cases h)
  obtain ⟨xs, e⟩ := e
  rw [e] at rv
  obtain ⟨a, vs, rfl, h1, _, _⟩ := rv.lstI
  exact .inl ⟨rfl, vs, SqL.of h1⟩
theorem okM_dct {p : Pr} (hp : p = .get ∨ p = .setd) {K : PySem.W.Frag} {w : Wd} {S : Sto} {d : D} {v : V} (rs : RS K w S) (rd : RD K w d v) (h : okM p d S = true) : ∃ a, v = .ref a ∧ IsD w.H a := by
  cases d with
  | loc n =>
    obtain ⟨a, rfl, e⟩ := rd.locI
    have e1 : ∃ kvs, S[n]? = some (.dct kvs) := by
      rcases hp with rfl | rfl <;> (simp only [okM] at h; split at h <;> first | exact ⟨_, by assumption⟩ | cases h)
    obtain ⟨kvs, e1⟩ := e1
    exact ⟨a, rfl, isD_of rs e e1⟩
  | _ => rcases hp with rfl | rfl <;> (simp only [okM] at h; cases h)
theorem snd_m0 (hR : SndR R) {o : Expr} {m : Str} {p : Pr} {apos pos : Pos} {o' : E} (hp : m0 m = some p) (hr : okRecv o = true) (hln : (apos.endLine == pos.line) = true) (h : R c o = some o') : Snd c (.Call (.Attribute o m apos) [] [] pos) (.mth p o' []) := by
  refine Snd.of (fun {G k' kx X W} hc tk => ?_) (fun _ _ => rfl) rfl rfl
  unfold m0 at hp
  split at hp
  · rename_i e; subst e; cases hp
    refine PE.imp (pe_bm0 PySem.F.plainAttrs_str PySem.F.slot_str_upper PySem.F.type_str_upper mt_upper ((hR c o o' h).pe hc tk) (base_of hr _ _) hln) fun σ H Q q => ?_
    obtain ⟨w, s, S, rfl, st, rs, q⟩ := q
    simp only [ev, evs, bind_ok] at q
    refine ⟨w, s, S, rfl, st, rs, q.bind fun d S1 v w1 _ x1 rs1 rd1 q1 => ?_⟩
    split at q1
    · exact px_upper rs1 rd1 q1
    · exact q1.elim
  · cases hp
theorem snd_m1 (hR : SndR R) {o a : Expr} {m : Str} {p : Pr} {apos pos : Pos} {o' a' : E} (hp : m1 m = some p) (hr : okRecv o = true) (hln : (apos.endLine == pos.line) = true) (h : R c o = some o') (h' : R c a = some a') : Snd c (.Call (.Attribute o m apos) [a] [] pos) (.mth p o' [a']) := by
  refine Snd.of (fun {G k' kx X W} hc tk => ?_) (fun _ _ => rfl) rfl rfl
  have sa := hR c a a' h'
  have hm : mapO (R c) [a] = some [a'] := by simp only [mapO, h']
  have hf := few_of (e := a) (es := []) (fun x hx => by simp at hx; subst hx; exact sa.pl) (by simp) pos X.env
  have hs : starEach [a] X.env = (false, eval a X.env) :: starEach [] X.env := star_of sa.pl [] X.env
  unfold m1 at hp
  split at hp
  · rename_i e; subst e; cases hp
    refine PE.imp (pe_bm PySem.F.plainAttrs_list PySem.F.slot_list_append PySem.F.type_list_append mt_append ((hR c o o' h).pe hc tk) (snd_list hR hc tk hm) (base_of hr _ _) hf hln hs rfl) fun σ H Q q => ?_
    obtain ⟨w, s, S, rfl, st, rs, q⟩ := q
    simp only [ev] at q
    refine ⟨w, s, S, rfl, st, rs, q.bind fun d S1 v w1 _ x1 rs1 rd1 q1 => ?_⟩
    split at q1
    · rename_i ok
      refine ⟨okM_lst (.inl rfl) rs1 rd1 ok, w1, s, S1, rfl, st.ext x1, rs1, q1.bind fun ds S2 vs w2 e2 x2 rs2 rd2 q2 => ?_⟩
      obtain ⟨d', v', rfl, rfl, r2⟩ := one_of (evs_len _ _ _ _ e2) rd2
      exact (px_app rs2 (RD.ext x2 _ _ rd1) r2 q2).2
    · exact q1.elim
  split at hp
  · rename_i e; subst e; cases hp
    refine PE.imp (pe_bm PySem.F.plainAttrs_list PySem.F.slot_list_extend PySem.F.type_list_extend mt_extend ((hR c o o' h).pe hc tk) (snd_list hR hc tk hm) (base_of hr _ _) hf hln hs rfl) fun σ H Q q => ?_
    obtain ⟨w, s, S, rfl, st, rs, q⟩ := q
    simp only [ev] at q
    refine ⟨w, s, S, rfl, st, rs, q.bind fun d S1 v w1 _ x1 rs1 rd1 q1 => ?_⟩
    split at q1
    · rename_i ok
      refine ⟨okM_lst (.inr (.inl rfl)) rs1 rd1 ok, w1, s, S1, rfl, st.ext x1, rs1, q1.bind fun ds S2 vs w2 e2 x2 rs2 rd2 q2 => ?_⟩
      obtain ⟨d', v', rfl, rfl, r2⟩ := one_of (evs_len _ _ _ _ e2) rd2
      exact (px_ext rs2 (RD.ext x2 _ _ rd1) r2 q2).2
    · exact q1.elim
  split at hp
  · rename_i e; subst e; cases hp
    refine PE.imp (pe_bm PySem.F.plainAttrs_list PySem.F.slot_list_count PySem.F.type_list_count (mt_countD hc.units) ((hR c o o' h).pe hc tk) (snd_list hR hc tk hm) (base_of hr _ _) hf hln hs rfl) fun σ H Q q => ?_
    obtain ⟨w, s, S, rfl, st, rs, q⟩ := q
    simp only [ev] at q
    refine ⟨w, s, S, rfl, st, rs, q.bind fun d S1 v w1 _ x1 rs1 rd1 q1 => ?_⟩
    split at q1
    · rename_i ok
      refine ⟨okM_lst (.inr (.inr rfl)) rs1 rd1 ok, w1, s, S1, rfl, st.ext x1, rs1, q1.bind fun ds S2 vs w2 e2 x2 rs2 rd2 q2 => ?_⟩
      obtain ⟨d', v', rfl, rfl, r2⟩ := one_of (evs_len _ _ _ _ e2) rd2
      exact px_count rs2 (RD.ext x2 _ _ rd1) r2 q2
    · exact q1.elim
  split at hp
  · rename_i e; subst e; cases hp
    refine PE.imp (pe_index (mt_indD hc.units) (mt_indT hc.units) ((hR c o o' h).pe hc tk) (snd_list hR hc tk hm) (base_of hr _ _) hf hln hs rfl) fun σ H Q q => ?_
    obtain ⟨w, s, S, rfl, st, rs, q⟩ := q
    simp only [ev] at q
    refine ⟨w, s, S, rfl, st, rs, q.bind fun d S1 v w1 _ x1 rs1 rd1 q1 => ?_⟩
    split at q1
    · rename_i ok
      have rv := RV.of rs1 rd1
      simp only [okM] at ok
      split at ok
      · rename_i xs e0
        rw [e0] at rv
        obtain ⟨a, vs, rfl, g1, _, _⟩ := rv.lstI
        refine .inl ⟨.inl ⟨rfl, vs, SqL.of g1⟩, w1, s, S1, rfl, st.ext x1, rs1, q1.bind fun ds S2 vs w2 e2 x2 rs2 rd2 q2 => ?_⟩
        obtain ⟨d', v', rfl, rfl, r2⟩ := one_of (evs_len _ _ _ _ e2) rd2
        cases e3 : Eng.rs S2 d with
        | lst ys => exact px_index rs2 (RD.ext x2 _ _ rd1) r2 e3 q2
        | tup ys =>
          cases d with
          | loc n => simp only [Eng.rs] at e3; split at e3 <;> cases e3
          | lst zs => simp [Eng.rs] at e3
          | _ => simp [Eng.rs] at e0
        | _ => simp only [pr, e3] at q2; exact q2.elim
      · rename_i xs e0
        rw [e0] at rv
        obtain ⟨a, vs, rfl, g1, _, _⟩ := rv.tupI
        refine .inr ⟨⟨a, vs, rfl, g1⟩, w1, s, S1, rfl, st.ext x1, rs1, q1.bind fun ds S2 vs w2 e2 x2 rs2 rd2 q2 => ?_⟩
        obtain ⟨d', v', rfl, rfl, r2⟩ := one_of (evs_len _ _ _ _ e2) rd2
        have : d = .tup xs := by
          cases d with
          | loc n =>
            simp only [Eng.rs] at e0
            split at e0 <;> cases e0
          | tup ys => simpa [Eng.rs] using e0
          | _ => simp [Eng.rs] at e0
        subst this
        exact px_indexT rs2 (RD.ext x2 _ _ rd1) r2 rfl q2
      · cases ok
    · exact q1.elim
  · cases hp
theorem snd_m2 (hR : SndR R) {o a b : Expr} {m : Str} {p : Pr} {apos pos : Pos} {o' a' b' : E} (hp : m2 m = some p) (hr : okRecv o = true) (hln : (apos.endLine == pos.line) = true) (h : R c o = some o') (h1 : R c a = some a') (h2 : R c b = some b') :
    Snd c (.Call (.Attribute o m apos) [a, b] [] pos) (.mth p o' [a', b']) := by
  refine Snd.of (fun {G k' kx X W} hc tk => ?_) (fun _ _ => rfl) rfl rfl
  have so := hR c o o' h
  have sa := hR c a a' h1
  have sb := hR c b b' h2
  have hf := few_of (e := a) (es := [b]) (fun x hx => by simp at hx; rcases hx with rfl | rfl; exact sa.pl; exact sb.pl) (by simp) pos X.env
  have M : M2 X o m apos a b pos := ⟨base_of hr _ _, hf, hln, by rw [star_of sa.pl, star_of sb.pl] <;> rfl⟩
  unfold m2 at hp
  split at hp
  · rename_i e; subst e; cases hp
    refine PE.imp (pe_dget2 (by have := hc.units; omega) (so.pe hc tk) (sa.pe hc tk) (sb.pe hc tk) M) fun σ H Q q => ?_
    obtain ⟨w, s, S, rfl, st, rs, q⟩ := q
    simp only [ev, evs, bind_assoc, bind_ok] at q
    refine ⟨w, s, S, rfl, st, rs, q.bind fun d S1 v w1 _ x1 rs1 rd1 q1 => ?_⟩
    split at q1
    · rename_i ok
      obtain ⟨l, rfl, hd⟩ := okM_dct (.inl rfl) rs1 rd1 ok
      refine ⟨l, rfl, hd, w1, s, S1, rfl, st.ext x1, rs1, q1.bind fun d2 S2 v2 w2 e2 x2 rs2 rd2 q2 => ⟨w2, s, S2, rfl, (st.ext x1).ext x2, rs2, q2.bind fun d3 S3 v3 w3 e3 x3 rs3 rd3 q3 => ?_⟩⟩
      obtain ⟨l', o, e, g, q⟩ := px_get rs3 (RD.ext (x2.trans x3) _ _ rd1) (RD.ext x3 _ _ rd2) rd3 q3
      cases e
      exact ⟨o, g, q⟩
    · exact q1.elim
  split at hp
  · rename_i e; subst e; cases hp
    refine PE.imp (pe_dsetd (so.pe hc tk) (sa.pe hc tk) (sb.pe hc tk) M) fun σ H Q q => ?_
    obtain ⟨w, s, S, rfl, st, rs, q⟩ := q
    simp only [ev, evs, bind_assoc, bind_ok] at q
    refine ⟨w, s, S, rfl, st, rs, q.bind fun d S1 v w1 _ x1 rs1 rd1 q1 => ?_⟩
    split at q1
    · rename_i ok
      obtain ⟨l, rfl, hd⟩ := okM_dct (.inr rfl) rs1 rd1 ok
      refine ⟨l, rfl, hd, w1, s, S1, rfl, st.ext x1, rs1, q1.bind fun d2 S2 v2 w2 e2 x2 rs2 rd2 q2 => ⟨w2, s, S2, rfl, (st.ext x1).ext x2, rs2, q2.bind fun d3 S3 v3 w3 e3 x3 rs3 rd3 q3 => ?_⟩⟩
      obtain ⟨l', e, q⟩ := px_setd rs3 (RD.ext (x2.trans x3) _ _ rd1) (RD.ext x3 _ _ rd2) rd3 q3
      cases e
      exact q
    · exact q1.elim
  · cases hp
/-! ### {k: v, ..} -/
theorem pps_of (hR : SndR R) {G : Nat → List D → Sto → Res D} {k : Nat} {kx : Nat → Value} {X : Cx} {W : WX} {pos : Pos} (hc : CxOk c G k kx X) (tk : Takes X W) : ∀ {ks : List (Option Expr)} {vs : List Expr} {ks' vs' : List E}, mapO (keyE R c) ks = some ks' → mapO (R c) vs = some vs' → ks.length = vs.length →
    PPs X pos ks vs ((ks'.zip vs').map fun p => (RdE kx X.K W (ev G p.1), RdE kx X.K W (ev G p.2))) ∧ ks.all (·.isSome) = true
  | [], vs, ks', vs', h1, h2, hl => by
    simp only [mapO, Option.some.injEq] at h1
    subst h1
    cases vs with
    | nil => exact ⟨pps_nil, rfl⟩
    | cons _ _ => simp at hl
  | kk :: ks, vs, ks', vs', h1, h2, hl => by
    obtain ⟨y, r, e1, e2, rfl⟩ := mapO_cons h1
    cases vs with
    | nil => simp at hl
    | cons v vs =>
      obtain ⟨z, r', e3, e4, rfl⟩ := mapO_cons h2
      obtain ⟨q1, q2⟩ := pps_of hR (pos := pos) hc tk e2 e4 (by simpa using hl)
      cases kk with
      | none => simp [keyE] at e1
      | some ke =>
        simp only [keyE] at e1
        exact ⟨pps_cons ((hR c ke y e1).pe hc tk) ((hR c v z e3).pe hc tk) q1, by simpa using q2⟩
theorem tp_of {G : Nat → List D → Sto → Res D} {kx : Nat → Value} {K : PySem.W.Frag} {W : WX} {σ : L2.St} {s : Env} : ∀ (l : List (E × E)) {w : Wd} {S : Sto} {Q1 : List V → Hp → Prop} {Q : List (V × V) → Hp → Prop}, StR K w σ s → RS K w S → Aft kx K W σ (RDs K) w (evs G (flE l) s S) Q1 → (∀ ps H, Q1 (flV ps) H → Q ps H) →
    tPairs (l.map fun p => (RdE kx K W (ev G p.1), RdE kx K W (ev G p.2))) σ w.H Q
  | [], w, S, Q1, Q, st, rs, h, hq => by
    simp only [flE, evs] at h
    exact hq [] _ (h [] w (Ext.refl w) rs RDs.nil)
  | p :: l, w, S, Q1, Q, st, rs, h, hq => by
    simp only [flE, evs, bind_assoc] at h
    refine ⟨w, s, S, rfl, st, rs, h.bind fun d1 S1 v1 w1 _ x1 rs1 rd1 h1 => ⟨w1, s, S1, rfl, st.ext x1, rs1, h1.bind fun d2 S2 v2 w2 _ x2 rs2 rd2 h2 => ?_⟩⟩
    have st2 := (st.ext x1).ext x2
    refine tp_of l (Q1 := fun vs H => Q1 (v1 :: v2 :: vs) H) st2 rs2 (h2.bind fun ds S3 vs w3 _ x3 rs3 rd3 h3 => ?_) fun ps H q => hq ((v1, v2) :: ps) H q
    simp only [bind_ok] at h3
    exact h3 _ w3 (Ext.refl w3) rs3 (RDs.cons (RD.ext (x2.trans x3) _ _ rd1) (RDs.cons (RD.ext x3 _ _ rd2) rd3))
theorem snd_dlit (hR : SndR R) {ks : List (Option Expr)} {vs : List Expr} {ks' vs' : List E} {pos : Pos} (h1 : mapO (keyE R c) ks = some ks') (h2 : mapO (R c) vs = some vs') (hl : ks.length = vs.length) (h15 : ks.length ≤ 15) (h0 : ks ≠ []) : Snd c (.Dict ks vs pos) (.pr .dlit (flE (ks'.zip vs'))) := by
  refine Snd.of (fun {G k' kx X W} hc tk => ?_) (fun _ _ => rfl) rfl rfl
  obtain ⟨q1, q2⟩ := pps_of hR (pos := pos) hc tk h1 h2 hl
  refine PE.imp (pe_disp q1 q2 hl h0 h15) fun σ H Q q => ?_
  obtain ⟨w, s, S, rfl, st, rs, q⟩ := q
  simp only [ev] at q
  intro p hp
  refine tp_of (w := w.new p (.dK [])) (S := S) (s := s) (ks'.zip vs') (Q1 := fun vs H2 => ∃ ds S2 w2, evs G (flE (ks'.zip vs')) s S = .ok ds S2 ∧ w2.H = H2 ∧ Ext (w.new p (.dK [])) w2 ∧ RS X.K w2 S2 ∧ RDs X.K w2 ds vs) (st.ext (Ext.new hp)) (rs.new hp) ?_ fun ps H hh => ?_
  · cases e : evs G (flE (ks'.zip vs')) s S with
    | ok ds S2 => exact fun v w2 x rs2 rd => ⟨ds, S2, w2, rfl, rfl, x, rs2, rd⟩
    | exc cc S2 =>
      rw [e] at q
      exact fun w2 x rs2 => q w2 ((Ext.new hp).trans x) rs2
    | no => rw [e] at q; exact q
  · obtain ⟨ds, S2, w2, e, rfl, x, rs2, rd⟩ := hh
    rw [e] at q
    exact px_dlit rs hp x rs2 rd q
theorem snd_dnew {pos : Pos} : Snd c (.Dict [] [] pos) (.pr .dnew []) := by
  refine Snd.of (fun {G k' kx X W} hc tk => ?_) (fun _ _ => rfl) rfl rfl
  refine PE.imp pe_dnewK fun σ H Q q => ?_
  obtain ⟨w, s, S, rfl, st, rs, q⟩ := q
  simp only [ev, evs, bind_ok] at q
  exact px_dnew rs q
end Eng

/-! Eng13 -/
set_option Elab.async false
set_option linter.all false
set_option maxRecDepth 100000
set_option maxHeartbeats 4000000
/-! What is walked; comprehensions. -/
namespace Eng
open PySem PySem.Spec PyProof.Rows L2 RZ
variable {c : Ct} {R : Rec}

section
variable {K : PySem.W.Frag} {un : Bool} {w : Wd} {S : Sto}
theorem zipIdx_get {a : Type} : ∀ (xs : List a) (i k : Nat), (xs.zipIdx k)[i]? = (xs[i]?).map fun x => (x, k + i)
  | [], i, k => by simp
  | x :: xs, 0, k => by simp
  | x :: xs, i + 1, k => by
    have := zipIdx_get xs i (k + 1)
    have e : k + 1 + i = k + (i + 1) := by omega
    simpa [e] using this
theorem walk_enum {xs : List D} {a : Addr} {vs : List V} (h1 : LsA w a vs) (h3 : RDs K w xs vs) : WalkD K true w (xs.zipIdx.map fun p => .tup [.int p.2, p.1], none) (Ite K a) := fun w2 S2 x rs _ => by
  have q := (h1.ext x).2
  have r := RDs.ext x _ _ h3
  refine ⟨⟨vs, SqL.of q, by rw [r.length]; simp⟩, fun i d e => ?_⟩
  simp only [List.getElem?_map, zipIdx_get] at e
  cases ex : xs[i]? with
  | none => rw [ex] at e; cases e
  | some y =>
    rw [ex] at e
    simp only [Option.map_some, Option.some.injEq] at e
    subst e
    obtain ⟨v, e1, e2⟩ := r.get ex
    refine ⟨⟨vs, v, SqL.of q, e1⟩, fun v' H' yl => ?_⟩
    obtain ⟨T, x', rfl, hT, rfl, hx⟩ := yl
    have := hx vs (SqL.of q)
    rw [e1] at this; cases this
    refine ⟨w2.new T (.tup [.int (i : Nat), v]), rfl, Ext.new hT, rs.new hT, .inr ⟨rfl, ?_⟩⟩
    refine ⟨_, [.int (i : Nat), v], T, rfl, rfl, upd_same, RDs.cons (by simp only [RD]; simp) (RDs.cons (RD.ext (Ext.new hT) _ _ e2) RDs.nil)⟩
theorem walk_enumT {xs : List D} {a : Addr} {vs : List V} (h1 : TpA w a vs) (h3 : RDs K w xs vs) : WalkD K true w (xs.zipIdx.map fun p => .tup [.int p.2, p.1], none) (ItT K a) := fun w2 S2 x rs _ => by
  have q := h1.ext x
  have r := RDs.ext x _ _ h3
  refine ⟨⟨vs, q.sq, by rw [r.length]; simp⟩, fun i d e => ?_⟩
  simp only [List.getElem?_map, zipIdx_get] at e
  cases ex : xs[i]? with
  | none => rw [ex] at e; cases e
  | some y =>
    rw [ex] at e
    simp only [Option.map_some, Option.some.injEq] at e
    subst e
    obtain ⟨v, e1, e2⟩ := r.get ex
    refine ⟨⟨vs, v, q.sq, e1⟩, fun v' H' yl => ?_⟩
    obtain ⟨T, x', rfl, hT, rfl, hx⟩ := yl
    have := hx vs (q.sq)
    rw [e1] at this; cases this
    refine ⟨w2.new T (.tup [.int (i : Nat), v]), rfl, Ext.new hT, rs.new hT, .inr ⟨rfl, ?_⟩⟩
    refine ⟨_, [.int (i : Nat), v], T, rfl, rfl, upd_same, RDs.cons (by simp only [RD]; simp) (RDs.cons (RD.ext (Ext.new hT) _ _ e2) RDs.nil)⟩
theorem zip_get {a b : Type} : ∀ (xs : List a) (ys : List b) (i : Nat) (p : a × b), (xs.zip ys)[i]? = some p → xs[i]? = some p.1 ∧ ys[i]? = some p.2
  | [], ys, i, p, h => by simp at h
  | x :: xs, [], i, p, h => by simp at h
  | x :: xs, y :: ys, 0, p, h => by simp at h; subst h; exact ⟨rfl, rfl⟩
  | x :: xs, y :: ys, i + 1, p, h => by
    simp only [List.zip_cons_cons, List.getElem?_cons_succ] at h
    simpa using zip_get xs ys i p h
theorem walk_zipL {xs ys : List D} {a b : Addr} {vs us : List V} (h1 : LsA w a vs) (h3 : RDs K w xs vs) (g1 : LsA w b us) (g3 : RDs K w ys us) : WalkD K true w ((xs.zip ys).map fun p => .tup [p.1, p.2], none) (Itz K a b) := fun w2 S2 x rs _ => by
  have q := (h1.ext x).2
  have r := RDs.ext x _ _ h3
  have q' := (g1.ext x).2
  have r' := RDs.ext x _ _ g3
  refine ⟨⟨vs, us, SqL.of q, SqL.of q', ?_⟩, fun i d e => ?_⟩
  · rw [r.length, r'.length]; simp only [List.length_map, List.length_zip]; omega
  rw [List.getElem?_map] at e
  obtain ⟨p, e0, rfl⟩ := Option.map_eq_some_iff.mp e
  obtain ⟨z1, z2⟩ := zip_get _ _ _ _ e0
  obtain ⟨v, e1, e2⟩ := r.get z1
  obtain ⟨u, f1, f2⟩ := r'.get z2
  refine ⟨⟨vs, us, v, u, SqL.of q, SqL.of q', e1, f1⟩, fun v' H' yl => ?_⟩
  obtain ⟨T, x', y', rfl, hT, rfl, hx, hy⟩ := yl
  have t1 := hx vs (SqL.of q)
  have t2 := hy us (SqL.of q')
  rw [e1] at t1; cases t1
  rw [f1] at t2; cases t2
  refine ⟨w2.new T (.tup [v, u]), rfl, Ext.new hT, rs.new hT, .inr ⟨rfl, ?_⟩⟩
  exact ⟨_, [v, u], T, rfl, rfl, upd_same, RDs.cons (RD.ext (Ext.new hT) _ _ e2) (RDs.cons (RD.ext (Ext.new hT) _ _ f2) RDs.nil)⟩
theorem walk_zipT {xs ys : List D} {a b : Addr} {vs us : List V} (h1 : TpA w a vs) (h3 : RDs K w xs vs) (g1 : TpA w b us) (g3 : RDs K w ys us) : WalkD K true w ((xs.zip ys).map fun p => .tup [p.1, p.2], none) (ItzT K a b) := fun w2 S2 x rs _ => by
  have q := h1.ext x
  have r := RDs.ext x _ _ h3
  have q' := g1.ext x
  have r' := RDs.ext x _ _ g3
  refine ⟨⟨vs, us, q.sq, q'.sq, ?_⟩, fun i d e => ?_⟩
  · rw [r.length, r'.length]; simp only [List.length_map, List.length_zip]; omega
  rw [List.getElem?_map] at e
  obtain ⟨p, e0, rfl⟩ := Option.map_eq_some_iff.mp e
  obtain ⟨z1, z2⟩ := zip_get _ _ _ _ e0
  obtain ⟨v, e1, e2⟩ := r.get z1
  obtain ⟨u, f1, f2⟩ := r'.get z2
  refine ⟨⟨vs, us, v, u, q.sq, q'.sq, e1, f1⟩, fun v' H' yl => ?_⟩
  obtain ⟨T, x', y', rfl, hT, rfl, hx, hy⟩ := yl
  have t1 := hx vs (q.sq)
  have t2 := hy us (q'.sq)
  rw [e1] at t1; cases t1
  rw [f1] at t2; cases t2
  refine ⟨w2.new T (.tup [v, u]), rfl, Ext.new hT, rs.new hT, .inr ⟨rfl, ?_⟩⟩
  exact ⟨_, [v, u], T, rfl, rfl, upd_same, RDs.cons (RD.ext (Ext.new hT) _ _ e2) (RDs.cons (RD.ext (Ext.new hT) _ _ f2) RDs.nil)⟩
end

/-- the reckoning of a source -/
def evI (G : Nat → List D → Sto → Res D) (k : SK) (es : List E) (s : Env) (S : Sto) : Res (List D × Option Nat) := (evs G es s S).bind fun ds S1 => srcR k ds S1
theorem src_seq {un : Bool} {G : Nat → List D → Sto → Res D} {kx : Nat → Value} {X : Cx} {W : WX} {tg it : Expr} {e : E} (h : PE X it (RdE kx X.K W (ev G e))) : PI X tg it (RdI kx X.K un W (evI G .seq [e])) := by
  refine PI.imp (pi_any h) fun σ H Q q => ?_
  obtain ⟨w, s, S, rfl, st, rs, q⟩ := q
  simp only [evI, evs, bind_assoc, bind_ok] at q
  refine ⟨w, s, S, rfl, st, rs, q.bind fun d S1 v w1 _ x1 rs1 rd1 q1 => ?_⟩
  unfold srcR at q1
  obtain ⟨p, ep, q1⟩ := q1.ofO
  have fin : ∀ J, WalkD X.K un w1 p J → Q J w1.H := fun J hJ => q1 J w1 (Ext.refl w1) rs1 hJ
  cases d with
  | lst xs =>
    simp only [items, Option.some.injEq] at ep; subst ep
    obtain ⟨a, vs, rfl, h1, h2, h3⟩ := rd1.lstI
    exact .inl ⟨a, rfl, ⟨vs, SqL.of h1.2⟩, fin _ (walk_lst h1 h3)⟩
  | tup xs =>
    simp only [items, Option.some.injEq] at ep; subst ep
    obtain ⟨a, vs, rfl, h1, h2, h3⟩ := rd1.tupI
    exact .inr (.inl ⟨a, rfl, ⟨vs, h1.sq⟩, fin _ (walk_tup h1 h3)⟩)
  | str z =>
    simp only [items, Option.some.injEq] at ep; subst ep
    obtain ⟨rfl, ok⟩ := rd1.strI
    exact .inr (.inr ⟨_, rfl, fin _ (walk_str ok)⟩)
  | loc n =>
    obtain ⟨a, rfl, e1⟩ := rd1.locI
    obtain ⟨m, e2, e3⟩ := rs1.loc e1
    simp only [items, e2] at ep
    cases m with
    | lst xs =>
      simp only [Option.some.injEq] at ep; subst ep
      obtain ⟨vs, h1, _, _⟩ := e3
      exact .inl ⟨a, rfl, ⟨vs, SqL.of h1⟩, fin _ (walk_loc e1)⟩
    | dct _ => cases ep
    | dtt _ => cases ep
  | _ => simp only [items] at ep; cases ep
theorem src_rng1 {un : Bool} {G : Nat → List D → Sto → Res D} {k : Nat} {kx : Nat → Value} {X : Cx} {W : WX} {tg a : Expr} {p pos : Pos} {a' : E} (hc : CxOk c G k kx X) (tk : Takes X W) (hR : SndR R) (hg : isGl c "range" = true) (h : R c a = some a') : PI X tg (.Call (.Name "range" p) [a] [] pos) (RdI kx X.K un W (evI G .rng [a'])) := by
  obtain ⟨g1, _, _, _⟩ := hc.gl hg
  have hm : mapO (R c) [a] = some [a'] := by simp only [mapO, h]
  refine PI.imp (pi_range1 g1 (hc.bui _ (by decide +kernel)) (snd_list hR hc tk hm) (star_of (hR c a a' h).pl [] X.env)) fun σ H Q q => ?_
  obtain ⟨w, s, S, rfl, st, rs, q⟩ := q
  unfold evI at q
  refine ⟨w, s, S, rfl, st, rs, q.bind fun ds S1 vs w1 e1 x1 rs1 rd1 q1 => ?_⟩
  obtain ⟨d, v, rfl, rfl, r1⟩ := one_of (evs_len _ _ _ _ e1) rd1
  unfold srcR at q1
  obtain ⟨p, ep, q1⟩ := q1.ofO
  cases d with
  | int j =>
    obtain rfl := r1.intI
    simp only [items] at ep
    split at ep
    · rename_i hj
      cases ep
      have := walk_rng (K := X.K) (un := un) (w := w1) (lo := 0) (n := j.toNat)
      simp only [Int.zero_add] at this
      exact ⟨j, rfl, hj.1, hj.2, q1 _ w1 (Ext.refl w1) rs1 this⟩
    · cases ep
  | _ => simp only [items] at ep; cases ep
theorem src_rng2 {un : Bool} {G : Nat → List D → Sto → Res D} {k : Nat} {kx : Nat → Value} {X : Cx} {W : WX} {tg a b : Expr} {p pos : Pos} {a' b' : E} (hc : CxOk c G k kx X) (tk : Takes X W) (hR : SndR R) (hg : isGl c "range" = true) (h : R c a = some a') (h' : R c b = some b') : PI X tg (.Call (.Name "range" p) [a, b] [] pos) (RdI kx X.K un W (evI G .rng [a', b'])) := by
  obtain ⟨g1, _, _, _⟩ := hc.gl hg
  have hm : mapO (R c) [a, b] = some [a', b'] := by simp only [mapO, h, h']
  refine PI.imp (pi_range2 g1 (hc.bui _ (by decide +kernel)) (snd_list hR hc tk hm) (by rw [star_of (hR c a a' h).pl, star_of (hR c b b' h').pl] <;> rfl) (star_of (hR c b b' h').pl [] X.env)) fun σ H Q q => ?_
  obtain ⟨w, s, S, rfl, st, rs, q⟩ := q
  unfold evI at q
  refine ⟨w, s, S, rfl, st, rs, q.bind fun ds S1 vs w1 e1 x1 rs1 rd1 q1 => ?_⟩
  obtain ⟨d, e, v, u, rfl, rfl, r1, r2⟩ := two_of (evs_len _ _ _ _ e1) rd1
  unfold srcR at q1
  obtain ⟨p, ep, q1⟩ := q1.ofO
  cases d with
  | int i =>
    cases e with
    | int j =>
      obtain rfl := r1.intI
      obtain rfl := r2.intI
      simp only [items] at ep
      split at ep
      · rename_i hj
        cases ep
        exact ⟨i, j, rfl, hj, q1 _ w1 (Ext.refl w1) rs1 (walk_rng (K := X.K) (un := un) (w := w1) (lo := i) (n := (j - i).toNat))⟩
      · cases ep
    | _ => simp only [items] at ep; cases ep
  | _ => cases e <;> (simp only [items] at ep; cases ep)
theorem src_rng3 {un : Bool} {G : Nat → List D → Sto → Res D} {k : Nat} {kx : Nat → Value} {X : Cx} {W : WX} {tg a b d : Expr} {p pos : Pos} {a' b' d' : E} (hc : CxOk c G k kx X) (tk : Takes X W) (hR : SndR R) (hg : isGl c "range" = true) (h : R c a = some a') (h' : R c b = some b') (h'' : R c d = some d') : PI X tg (.Call (.Name "range" p) [a, b, d] [] pos) (RdI kx X.K un W (evI G .rng [a', b', d'])) := by
  obtain ⟨g1, _, _, _⟩ := hc.gl hg
  have hm : mapO (R c) [a, b, d] = some [a', b', d'] := by simp only [mapO, h, h', h'']
  refine PI.imp (pi_range3 g1 (hc.bui _ (by decide +kernel)) (snd_list hR hc tk hm) (star_of (hR c a a' h).pl _ X.env) (nostar_of fun x hx => by simp at hx; rcases hx with rfl | rfl; exact (hR c _ _ h').pl; exact (hR c _ _ h'').pl)) fun σ H Q q => ?_
  obtain ⟨w, s, S, rfl, st, rs, q⟩ := q
  unfold evI at q
  refine ⟨w, s, S, rfl, st, rs, q.bind fun ds S1 vs w1 e1 x1 rs1 rd1 q1 => ?_⟩
  have hl := evs_len _ _ _ _ e1
  cases ds with
  | nil => simp at hl
  | cons x ds =>
    obtain ⟨v0, r0, rfl, r1, rd2⟩ := rd1.cons_inv
    obtain ⟨y, z, v1, v2, rfl, rfl, r2, r3⟩ := two_of (by simpa using hl) rd2
    unfold srcR at q1
    obtain ⟨p, ep, q1⟩ := q1.ofO
    cases x with
    | int i =>
      cases y with
      | int j =>
        cases z with
        | int e =>
          obtain rfl := r1.intI
          obtain rfl := r2.intI
          obtain rfl := r3.intI
          simp only [items] at ep
          obtain ⟨n, en, rfl⟩ := Option.map_eq_some_iff.mp ep
          exact ⟨i, j, e, n, rfl, rgN_ok en, q1 _ w1 (Ext.refl w1) rs1 (walk_rgC (K := X.K) (un := un) (w := w1) (lo := i) (c := e) (n := n))⟩
        | _ => simp only [items] at ep; cases ep
      | _ => cases z <;> (simp only [items] at ep; cases ep)
    | _ => cases y <;> cases z <;> (simp only [items] at ep; cases ep)
theorem tupT_of {tg : Expr} (h : isTupT tg = true) : ∃ es k p, tg = .Tuple es k p := by
  cases tg <;> first | (simp [isTupT] at h; done) | exact ⟨_, _, _, rfl⟩
theorem src_enum {G : Nat → List D → Sto → Res D} {k : Nat} {kx : Nat → Value} {X : Cx} {W : WX} {tg a : Expr} {p pos : Pos} {a' : E} (hc : CxOk c G k kx X) (tk : Takes X W) (hR : SndR R) (hg : isGl c "enumerate" = true) (ht : isTupT tg = true) (h : R c a = some a') : PI X tg (.Call (.Name "enumerate" p) [a] [] pos) (RdI kx X.K true W (evI G .enum [a'])) := by
  obtain ⟨g1, _, _, _⟩ := hc.gl hg
  obtain ⟨es, kk, tp, rfl⟩ := tupT_of ht
  have hm : mapO (R c) [a] = some [a'] := by simp only [mapO, h]
  refine PI.imp (pi_enumA g1 (hc.bui _ (by decide +kernel)) (snd_list hR hc tk hm) (star_of (hR c a a' h).pl [] X.env)) fun σ H Q q => ?_
  obtain ⟨w, s, S, rfl, st, rs, q⟩ := q
  unfold evI at q
  refine ⟨w, s, S, rfl, st, rs, q.bind fun ds S1 vs w1 e1 x1 rs1 rd1 q1 => ?_⟩
  obtain ⟨d, v, rfl, rfl, r1⟩ := one_of (evs_len _ _ _ _ e1) rd1
  unfold srcR at q1
  obtain ⟨p, ep, q1⟩ := q1.ofO
  cases d with
  | lst xs =>
    simp only [items, Option.some.injEq] at ep; subst ep
    obtain ⟨a, vs, rfl, h1, h2, h3⟩ := r1.lstI
    exact ⟨a, vs, rfl, .inl ⟨SqL.of h1.2, q1 _ w1 (Ext.refl w1) rs1 (walk_enum h1 h3)⟩⟩
  | tup xs =>
    simp only [items, Option.some.injEq] at ep; subst ep
    obtain ⟨a, vs, rfl, h1, h2, h3⟩ := r1.tupI
    exact ⟨a, vs, rfl, .inr ⟨h1.sq, q1 _ w1 (Ext.refl w1) rs1 (walk_enumT h1 h3)⟩⟩
  | _ => simp only [items] at ep; cases ep
theorem src_zip {G : Nat → List D → Sto → Res D} {k : Nat} {kx : Nat → Value} {X : Cx} {W : WX} {tg a b : Expr} {p pos : Pos} {a' b' : E} (hc : CxOk c G k kx X) (tk : Takes X W) (hR : SndR R) (hg : isGl c "zip" = true) (ht : isTupT tg = true) (h : R c a = some a') (h' : R c b = some b') : PI X tg (.Call (.Name "zip" p) [a, b] [] pos) (RdI kx X.K true W (evI G .zip [a', b'])) := by
  obtain ⟨g1, _, _, _⟩ := hc.gl hg
  obtain ⟨es, kk, tp, rfl⟩ := tupT_of ht
  have hm : mapO (R c) [a, b] = some [a', b'] := by simp only [mapO, h, h']
  refine PI.imp (pi_zipA g1 (hc.bui _ (by decide +kernel)) (snd_list hR hc tk hm) (star_of (hR c a a' h).pl _ X.env) (by rw [star_of (hR c b b' h').pl] <;> rfl)) fun σ H Q q => ?_
  obtain ⟨w, s, S, rfl, st, rs, q⟩ := q
  unfold evI at q
  refine ⟨w, s, S, rfl, st, rs, q.bind fun ds S1 vs w1 e1 x1 rs1 rd1 q1 => ?_⟩
  obtain ⟨d, e, v, u, rfl, rfl, r1, r2⟩ := two_of (evs_len _ _ _ _ e1) rd1
  unfold srcR at q1
  obtain ⟨p, ep, q1⟩ := q1.ofO
  cases d with
  | lst xs =>
    cases e with
    | lst ys =>
      simp only [items, Option.some.injEq] at ep; subst ep
      obtain ⟨a, vs, rfl, h1, h2, h3⟩ := r1.lstI
      obtain ⟨b, us, rfl, g1, g2, g3⟩ := r2.lstI
      exact ⟨a, b, vs, us, rfl, .inl ⟨SqL.of h1.2, SqL.of g1.2, q1 _ w1 (Ext.refl w1) rs1 (walk_zipL h1 h3 g1 g3)⟩⟩
    | _ => simp only [items] at ep; cases ep
  | tup xs =>
    cases e with
    | tup ys =>
      simp only [items, Option.some.injEq] at ep; subst ep
      obtain ⟨a, vs, rfl, h1, h2, h3⟩ := r1.tupI
      obtain ⟨b, us, rfl, g1, g2, g3⟩ := r2.tupI
      exact ⟨a, b, vs, us, rfl, .inr ⟨h1.sq, g1.sq, q1 _ w1 (Ext.refl w1) rs1 (walk_zipT h1 h3 g1 g3)⟩⟩
    | _ => simp only [items] at ep; cases ep
  | _ => cases e <;> (simp only [items] at ep; cases ep)
theorem src_of {un : Bool} {G : Nat → List D → Sto → Res D} {k : Nat} {kx : Nat → Value} {X : Cx} {W : WX} {tg it : Expr} {kk : SK} {es : List E} (hc : CxOk c G k kx X) (tk : Takes X W) (hR : SndR R) (hu : isTupT tg = true → un = true) (h : trSrc R c tg it = some (kk, es)) : PI X tg it (RdI kx X.K un W (evI G kk es)) ∧ (∀ env x, foldedSetIterable it env x = pure x) := by
  have gen : ∀ it, (R c it).map (fun e => (SK.seq, [e])) = some (kk, es) → PI X tg it (RdI kx X.K un W (evI G kk es)) ∧ (∀ env x, foldedSetIterable it env x = pure x) := by
    intro it h
    obtain ⟨e, e1, e2⟩ := Option.map_eq_some_iff.mp h
    cases e2
    exact ⟨src_seq ((hR c it e e1).pe hc tk), fun env x => noset_of (hR c it e e1).pl env x⟩
  unfold trSrc at h
  split at h
  · rename_i x p args p2
    split at h
    · rename_i hg
      split at h
      · rename_i e; subst e
        split at h
        · obtain ⟨e, e1, e2⟩ := Option.map_eq_some_iff.mp h
          cases e2
          exact ⟨src_rng1 hc tk hR hg.1 e1, fun _ _ => rfl⟩
        · rename_i a b
          cases h1 : R c a with
          | none => rw [h1] at h; cases h
          | some a' =>
            cases h2 : R c b with
            | none => rw [h1, h2] at h; cases h
            | some b' =>
              rw [h1, h2] at h; cases h
              exact ⟨src_rng2 hc tk hR hg.1 h1 h2, fun _ _ => rfl⟩
        · rename_i a b d
          cases h1 : R c a with
          | none => rw [h1] at h; cases h
          | some a' =>
            cases h2 : R c b with
            | none => rw [h1, h2] at h; cases h
            | some b' =>
              cases h3 : R c d with
              | none => rw [h1, h2, h3] at h; cases h
              | some d' =>
                rw [h1, h2, h3] at h; cases h
                exact ⟨src_rng3 hc tk hR hg.1 h1 h2 h3, fun _ _ => rfl⟩
        · cases h
      split at h
      · rename_i e; subst e
        split at h
        · split at h
          · rename_i ht
            obtain ⟨e, e1, e2⟩ := Option.map_eq_some_iff.mp h
            cases e2
            cases hu ht
            exact ⟨src_enum hc tk hR hg.1 ht e1, fun _ _ => rfl⟩
          · cases h
        · cases h
      split at h
      · rename_i e; subst e
        split at h
        · rename_i a b
          split at h
          · rename_i ht
            cases h1 : R c a with
            | none => rw [h1] at h; cases h
            | some a' =>
              cases h2 : R c b with
              | none => rw [h1, h2] at h; cases h
              | some b' =>
                rw [h1, h2] at h; cases h
                cases hu ht
                exact ⟨src_zip hc tk hR hg.1 ht h1 h2, fun _ _ => rfl⟩
          · cases h
        · cases h
      · exact gen _ h
    · exact gen _ h
  · exact gen _ h

/-! ### comprehensions -/
section
variable {K : PySem.W.Frag}
/-- the list that grows -/
structure Gro (w1 : Wd) (D : Addr) (w : Wd) (acc : List Eng.D) (av : List V) : Prop where
  ext : Ext w1 w
  at_ : w.H D = some (.lst av)
  nF : ¬ w.F D
  nr : D ∉ w.r
  ds : RDs K w acc av
theorem Gro.go {w1 w w' : Wd} {D : Addr} {acc : List Eng.D} {av : List V} (g : Gro (K := K) w1 D w acc av) (x : Ext w w') : Gro (K := K) w1 D w' acc av := by
  obtain ⟨h1, h2, h3⟩ := x.frm D g.nF g.nr (by rw [g.at_]; simp)
  exact ⟨g.ext.trans x, by rw [h1]; exact g.at_, h2, h3, RDs.ext x _ _ g.ds⟩
theorem Gro.put {w1 w : Wd} {D : Addr} {acc : List Eng.D} {av : List V} {y : Eng.D} {v : V} (g : Gro (K := K) w1 D w acc av) (h0 : w1.H D = none) (hy : RD K w y v) : Gro (K := K) w1 D (w.put D (.lst (av ++ [v]))) (acc ++ [y]) (av ++ [v]) := by
  have k := Wk.side (o := .lst (av ++ [v])) g.nF g.at_
  refine ⟨⟨⟨fun b xs h => k.tup _ _ (g.ext.tup _ _ h), fun b o u h => k.frz _ _ _ (g.ext.frz _ _ _ h), fun b xs f h => k.lst _ _ (g.ext.phi _ f) (g.ext.lst _ _ f h), fun b f => g.ext.phi _ f, g.ext.rho⟩, fun b h1 h2 h3 => ?_⟩, upd_same, g.nF, g.nr, RDs.wk k _ _ (g.ds.append (RDs.cons hy RDs.nil))⟩
  obtain ⟨e1, e2, e3⟩ := g.ext.frm b h1 h2 h3
  have hb : b ≠ D := fun z => h3 (by rw [z]; exact h0)
  exact ⟨(upd_ne hb).trans e1, e2, e3⟩
/-- a list that nobody knows yet -/
def RNew (K : PySem.W.Frag) (w0 w : Wd) (xs : List Eng.D) (v : V) : Prop := ∃ p vs, v = .ref p ∧ w0.H p = none ∧ w.H p = some (.lst vs) ∧ ¬ w.F p ∧ p ∉ w.r ∧ xs.length ≤ szL ∧ RDs K w xs vs
theorem Ext.fresh {w w1 : Wd} {S : Sto} {p : Addr} (x : Ext w w1) (rs : RS K w1 S) (h : w1.H p = none) : w.H p = none := by
  cases e : w.H p with
  | none => rfl
  | some o =>
    exfalso
    by_cases hF : w.F p
    · exact rs.live p (x.phi p hF) h
    by_cases hr : p ∈ w.r
    · obtain ⟨m, e⟩ := x.rho
      exact rs.mem (by rw [e]; exact List.mem_append_left _ hr) h
    · have := (x.frm p hF hr (by rw [e]; simp)).1
      rw [h, e] at this
      cases this
/-- .. stays as it is from here on -/
theorem RNew.frz {w0 w : Wd} {xs : List Eng.D} {v : V} {S : Sto} (h : RNew K w0 w xs v) (x : Ext w0 w) (rs : RS K w S) : ∃ w', w'.H = w.H ∧ Ext w0 w' ∧ RS K w' S ∧ RD K w' (.lst xs) v := by
  obtain ⟨D, av, rfl, h0, at_, nF, nr, hl, ds⟩ := h
  have k : Wk w ⟨w.H, fun b => w.F b ∨ b = D, w.r⟩ := ⟨fun _ _ h => h, fun _ _ _ h => h, fun _ _ _ h => h, fun b f => .inl f, ⟨[], by simp⟩⟩
  refine ⟨⟨w.H, fun b => w.F b ∨ b = D, w.r⟩, rfl, ⟨⟨fun b xs h => x.tup _ _ h, fun b o u h => x.frz _ _ _ h, fun b xs f h => x.lst _ _ f h, fun b f => .inl (x.phi _ f), x.rho⟩, fun b h1 h2 h3 => ?_⟩, ⟨rs.len, rs.nd, fun a ha f => ?_, fun a f => ?_, fun n a m e1 e2 => (rs.obj n a m e1 e2).wk k rfl⟩, ?_⟩
  · obtain ⟨e1, e2, e3⟩ := x.frm b h1 h2 h3
    exact ⟨e1, fun f => f.elim e2 fun z => h3 (by rw [z]; exact h0), e3⟩
  · rcases f with f | f
    · exact rs.apart a ha f
    · subst f; exact nr ha
  · rcases f with f | f
    · exact rs.live a f
    · subst f; show w.H a ≠ none; rw [at_]; simp
  · simp only [RD]
    exact ⟨D, av, rfl, ⟨.inr rfl, at_⟩, hl, RDs.wk k _ _ ds⟩
/-- .. is the store's from here on -/
theorem RNew.sto {w0 w : Wd} {xs : List Eng.D} {v : V} {S : Sto} (h : RNew K w0 w xs v) (x : Ext w0 w) (rs : RS K w S) : ∃ w', w'.H = w.H ∧ Ext w0 w' ∧ RS K w' (S ++ [.lst xs]) ∧ RD K w' (.loc S.length) v := by
  obtain ⟨D, av, rfl, h0, at_, nF, nr, hl, ds⟩ := h
  have k : Wk w ⟨w.H, w.F, w.r ++ [D]⟩ := ⟨fun _ _ h => h, fun _ _ _ h => h, fun _ _ _ h => h, fun b f => f, ⟨[D], rfl⟩⟩
  refine ⟨⟨w.H, w.F, w.r ++ [D]⟩, rfl, ⟨⟨fun b xs h => x.tup _ _ h, fun b o u h => x.frz _ _ _ h, fun b xs f h => x.lst _ _ f h, fun b f => x.phi _ f, ?_⟩, fun b h1 h2 h3 => ?_⟩, ⟨?_, ?_, fun a ha f => ?_, fun a f => rs.live a f, fun n a m e1 e2 => ?_⟩, ?_⟩
  · obtain ⟨m, e⟩ := x.rho
    exact ⟨m ++ [D], by show w.r ++ [D] = _; rw [e, List.append_assoc]⟩
  · obtain ⟨e1, e2, e3⟩ := x.frm b h1 h2 h3
    refine ⟨e1, e2, fun m => ?_⟩
    have m : b ∈ w.r ++ [D] := m
    rcases List.mem_append.mp m with m | m
    · exact e3 m
    · simp at m; subst m; exact h3 h0
  · show (w.r ++ [D]).length = _
    simp [rs.len]
  · show (w.r ++ [D]).Nodup
    rw [List.nodup_append]
    exact ⟨rs.nd, by simp, fun a ha b hb e => by simp at hb; subst hb; subst e; exact nr ha⟩
  · have ha : a ∈ w.r ++ [D] := ha
    rcases List.mem_append.mp ha with ha | ha
    · exact rs.apart a ha f
    · simp at ha; subst ha; exact nF f
  · have e1 : (w.r ++ [D])[n]? = some a := e1
    by_cases hn : n < w.r.length
    · rw [List.getElem?_append_left hn] at e1
      rw [List.getElem?_append_left (by rw [← rs.len]; exact hn)] at e2
      exact (rs.obj n a m e1 e2).wk k rfl
    · rw [List.getElem?_append_right (by omega)] at e1
      rw [List.getElem?_append_right (by rw [← rs.len]; omega)] at e2
      rw [rs.len] at e1
      cases q : n - S.length with
      | zero =>
        rw [q] at e1 e2; simp at e1 e2; subst e1; subst e2
        exact ⟨av, at_, hl, RDs.wk k _ _ ds⟩
      | succ j => rw [q] at e1; simp at e1
  · simp only [RD]
    exact ⟨D, rfl, by show (w.r ++ [D])[S.length]? = some D; rw [← rs.len]; simp⟩
end
theorem own_name {N : List Str} {scope : Scope} {x : Str} {i : Nat} (hu : ∀ y ∈ scope.names, scope.names.lookup y.1 = some y.2) (h : idxOf x N = some i) (hm : i ∈ (ownOf N scope).map (·.2)) : scope.names.lookup x = some .local ∨ scope.names.lookup x = some .cell := by
  obtain ⟨p, hp, e⟩ := List.mem_map.mp hm
  unfold ownOf at hp
  obtain ⟨y, hy, ey⟩ := List.mem_filterMap.mp hp
  have q := hu y hy
  have same : ∀ j, idxOf y.1 N = some j → j = i → y.1 = x := fun j h1 h2 => by
    subst h2
    have a := idxOf_get h1
    have b := idxOf_get h
    rw [a] at b
    exact Option.some.inj b
  split at ey
  · rename_i hk
    obtain ⟨j, e1, e2⟩ := Option.map_eq_some_iff.mp ey
    subst e2
    rw [same j e1 e, hk] at q
    exact .inl q
  · rename_i hk
    obtain ⟨j, e1, e2⟩ := Option.map_eq_some_iff.mp ey
    subst e2
    rw [same j e1 e, hk] at q
    exact .inr q
  · cases ey
theorem CxOk.blk {G : Nat → List D → Sto → Res D} {k : Nat} {kx : Nat → Value} {X : Cx} (h : CxOk c G k kx X) (s : Shared) (H : Hp) (scope : Scope) (C : Addr) (cl : List (Str × Addr)) (fp : List Addr) : CxOk (subCt c scope) G k kx (X.blk s H scope (compEnvC scope cl C X.env) fp) := by
  refine ⟨h.hN, h.nd, ?_, h.calm, h.room, h.con, h.bui, h.fns, h.exc⟩
  show relS scope X.env.scope = _
  rw [h.sc] <;> rfl
theorem trT_un {c : Ct} {tg : Expr} {is : List Nat} {un : Bool} (h : trT c tg = some (is, un)) : isTupT tg = true → un = true := by
  intro ht
  obtain ⟨es, k, p, rfl⟩ := tupT_of ht
  simp only [trT] at h
  obtain ⟨_, _, e⟩ := Option.map_eq_some_iff.mp h
  cases e; rfl
theorem items_chk {k : SK} {ds : List D} {S : Sto} {p : List D × Option Nat} (h : items k ds S = some p) : chk p.1 p.2 S = true := by
  unfold items at h
  split at h
  · split at h
    · cases h; exact decide_eq_true (by assumption)
    · cases h
  all_goals first
    | (cases h; done)
    | (cases h; rfl)
    | (obtain ⟨n, _, rfl⟩ := Option.map_eq_some_iff.mp h; rfl)
    | (split at h
       · cases h; rfl
       · cases h)
theorem evI_chk {G : Nat → List D → Sto → Res D} {k : SK} {es : List E} {s : Env} {S S1 : Sto} {p : List D × Option Nat} (h : evI G k es s S = .ok p S1) : chk p.1 p.2 S1 = true := by
  unfold evI at h
  cases q : evs G es s S with
  | ok ds S2 =>
    rw [q] at h
    simp only [Res.bind, srcR] at h
    cases q2 : items k ds S2 with
    | none => rw [q2] at h; cases h
    | some p' => rw [q2] at h; cases h; exact items_chk q2
  | exc _ _ => rw [q] at h; cases h
  | no => rw [q] at h; cases h
/-- a comprehension, its list not yet known -/
def compE (G : Nat → List D → Sto → Res D) (own is : List Nat) (un : Bool) (k : SK) (es cs : List E) (el : E) (s : Env) (S : Sto) : Res (List D) := (evI G k es s S).bind fun p S1 => if p.1.length ≤ szL then compL (fun d => bindT is un d (Eng.wipe s own)) (fun s S => evT G cs s S) (fun s S => ev G el s S) (chk p.1 p.2) p.1 S1 else .no
theorem ev_comp {G : Nat → List D → Sto → Res D} {own is : List Nat} {un : Bool} {k : SK} {es cs : List E} {el : E} {s : Env} {S : Sto} : ev G (.comp own is un k es cs el) s S = (compE G own is un k es cs el s S).bind fun ys S2 => .ok (.lst ys) S2 := by
  simp only [ev]
  unfold compE evI
  rw [bind_assoc, bind_assoc]
  congr 1
  funext ds S1
  unfold srcR
  cases items k ds S1 with
  | none => rfl
  | some p =>
    simp only [ofO, bind_ok]
    split <;> rfl
def RdN (kx : Nat → Value) (K : PySem.W.Frag) (W : WX) (m : Env → Sto → Res (List D)) : TE := fun σ H Q => ∃ w s S, w.H = H ∧ StR K w σ s ∧ RS K w S ∧ Aft kx K W σ (RNew K w) w (m s S) Q
theorem RdN.of {kx : Nat → Value} {K : PySem.W.Frag} {W : WX} {m : Env → Sto → Res (List D)} {σ : L2.St} {H : Hp} {Q : VK} (h : RdE kx K W (fun s S => (m s S).bind fun ys S2 => .ok (.lst ys) S2) σ H Q) : RdN kx K W m σ H Q := by
  obtain ⟨w, s, S, rfl, st, rs, q⟩ := h
  refine ⟨w, s, S, rfl, st, rs, ?_⟩
  dsimp only at q
  cases e : m s S with
  | ok ys S1 =>
    rw [e] at q
    intro v w' x rs' h
    obtain ⟨w2, e2, x2, rs2, rd2⟩ := h.frz x rs'
    rw [← e2]
    exact q v w2 x2 rs2 rd2
  | exc _ _ => rw [e] at q; exact q
  | no => rw [e] at q; exact q
theorem comp_parts (hR : SndR R) {elt tg it : Expr} {ifs : List Expr} {scope : Scope} {e' : E} (h : trComp R c elt tg it ifs scope = some e') : ∃ (is : List Nat) (un : Bool) (k : SK) (es cs : List E) (el : E), e' = .comp ((ownOf c.N scope).map (·.2)) is un k es cs el ∧
    ∀ {G : Nat → List D → Sto → Res D} {k' : Nat} {kx : Nat → Value} {X : Cx} {W : WX}, CxOk c G k' kx X → Takes X W → ∃ (wi : TI) (g : TG) (tt : TT) (te : TE), PI X tg it wi ∧ BlkOk X.N X.env.scope scope (ownOf c.N scope) ∧
      (∀ (s : Shared) (H : Hp) (C : Addr) (cl : List (Str × Addr)) (fp : List Addr), PG (X.blk s H scope (compEnvC scope cl C X.env) fp) tg g) ∧ (∀ (s : Shared) (H : Hp) (C : Addr) (cl : List (Str × Addr)) (fp : List Addr), PTs (X.blk s H scope (compEnvC scope cl C X.env) fp) ifs tt) ∧
      (∀ (s : Shared) (H : Hp) (C : Addr) (cl : List (Str × Addr)) (fp : List Addr), PE (X.blk s H scope (compEnvC scope cl C X.env) fp) elt te) ∧ (∀ x, foldedSetIterable it X.env x = pure x) ∧
      ∀ σ H Q, RdN kx X.K W (compE G ((ownOf c.N scope).map (·.2)) is un k es cs el) σ H Q → tLc wi g tt te ((ownOf c.N scope).map (·.2)) σ H Q := by
  unfold trComp at h
  split at h
  · rename_i hb
    split at h
    · rename_i is un kk es cs el h1 h2 h3 h4
      split at h
      · rename_i hi
        cases h
        refine ⟨is, un, kk, es, cs, el, rfl, fun {G k' kx X W} hc tk => ?_⟩
        have bk : BlkOk X.N X.env.scope scope (ownOf c.N scope) := by rw [hc.hN, hc.sc]; exact blkOk_by hb
        obtain ⟨src, srcS⟩ := src_of hc tk hR (trT_un h1) h2
        have hpt : ∀ (s : Shared) (H : Hp) (C : Addr) (cl : List (Str × Addr)) (fp : List Addr), PTs (X.blk s H scope (compEnvC scope cl C X.env) fp) ifs (RdT kx X.K (fun _ _ _ _ => False) fun s S => evT G cs s S) := by
          intro s H C cl fp
          have hc' := hc.blk s H scope C cl fp
          cases ifs with
          | nil =>
            simp only [mapO, Option.some.injEq] at h3; subst h3
            refine PTs.imp pts_nil fun σ H Q q => ?_
            obtain ⟨w, s, S, rfl, st, rs, q⟩ := q
            simp only [evT] at q
            exact q true w (Ext.refl w) rs rfl
          | cons f r =>
            obtain ⟨y, ys, q1, q2, rfl⟩ := mapO_cons h3
            have l := mapO_len q2
            have l2 := hi.2
            cases r with
            | nil =>
              simp only [mapO, Option.some.injEq] at q2; subst q2
              refine PTs.imp (pts_one ((hR _ _ _ q1).pt hc' takes0)) fun σ H Q q => ?_
              simp only [evT] at q
              exact q
            | cons _ _ => simp only [List.length_cons] at l l2; omega
        refine ⟨_, gT X.K is un, RdT kx X.K (fun _ _ _ _ => False) (fun s S => evT G cs s S), RdE kx X.K (fun _ _ _ _ => False) (ev G el), src, bk, fun s H C cl fp => pg_of (hc.blk s H scope C cl fp) h1 ?_, hpt, fun s H C cl fp => (hR _ _ _ h4).pe (hc.blk s H scope C cl fp) takes0, srcS X.env, fun σ H Q q => ?_⟩
        · intro x i hx hm
          have hm' : i ∈ (ownOf c.N scope).map (·.2) := by
            have := hi.1
            rw [List.all_eq_true] at this
            simpa using this i hm
          have hx' : idxOf x c.N = some i := by
            unfold slotW at hx
            split at hx <;> first | exact hx | cases hx
          rcases own_name bk.uniq hx' hm' with q | q
          · right
            show (relS scope X.env.scope).names.lookup x = _
            exact lookup_relS_keep (by decide) q
          · left
            show (scope.names.lookup x == some NameKind.cell) = true
            rw [q] <;> rfl
        obtain ⟨w, s, S, rfl, st, rs, q⟩ := q
        unfold compE at q
        refine ⟨w, s, S, rfl, st, rs, q.bind fun p S1 J w1 e0 x1 rs1 hJ q1 => ?_⟩
        split at q1
        rotate_left
        · exact q1.elim
        rename_i hlen
        intro D hD
        have st1 := (st.ext x1).wipe ((ownOf c.N scope).map (·.2))
        generalize hb' : (fun d => bindT is un d (Eng.wipe s ((ownOf c.N scope).map (·.2)))) = bb at q1
        refine ⟨fun i m Hc => ∃ w2 S2 acc av, w2.H = Hc ∧ Gro (K := X.K) w1 D w2 acc av ∧ RS X.K w2 S2 ∧ m + i = p.1.length ∧ acc.length ≤ i ∧ chk p.1 p.2 S2 = true ∧
          Aft kx X.K W σ (RNew X.K w) w1 ((compL bb (fun s S => evT G cs s S) (fun s S => ev G el s S) (chk p.1 p.2) (p.1.drop i) S2).bind fun ys S3 => .ok (acc ++ ys) S3) Q, ⟨p.1.length, w1.new D (.lst []), S1, [], [], rfl, ⟨Ext.new hD, upd_same, rs1.notF hD, rs1.notIn hD, RDs.nil⟩, rs1.new hD, rfl, Nat.le_refl _, evI_chk e0, q1.eqv (by simp only [List.drop_zero, List.nil_append]; cases compL bb (fun s S => evT G cs s S) (fun s S => ev G el s S) (chk p.1 p.2) p.1 S1 <;> rfl)⟩, ?_⟩
        rintro i m Hc ⟨w2, S2, acc, av, rfl, g, rs2, hm, ha, hk, q2⟩
        obtain ⟨walk1, walk2⟩ := hJ w2 S2 g.ext rs2 hk
        cases hd : p.1[i]? with
        | none =>
          have hi' : i = p.1.length := by
            have := List.getElem?_eq_none_iff.mp hd
            omega
          left
          refine ⟨by rw [hi']; exact walk1, ?_⟩
          rw [hi', List.drop_length] at q2
          simp only [compL, bind_ok, List.append_nil] at q2
          exact q2 _ w2 g.ext rs2 ⟨D, av, rfl, x1.fresh rs1 hD, g.at_, g.nF, g.nr, by omega, g.ds⟩
        | some d =>
          right
          obtain ⟨wg, wy⟩ := walk2 i d hd
          have hlt := (List.getElem?_eq_some_iff.mp hd).1
          have hdr : p.1.drop i = d :: p.1.drop (i + 1) := by
            rw [List.drop_eq_getElem_cons hlt]
            congr 1
            exact (List.getElem?_eq_some_iff.mp hd).2
          rw [hdr] at q2
          simp only [compL] at q2
          refine ⟨wg, fun H' => ∃ m', m' < m ∧ ∃ w2 S2 acc av, w2.H = H' ∧ Gro (K := X.K) w1 D w2 acc av ∧ RS X.K w2 S2 ∧ m' + (i + 1) = p.1.length ∧ acc.length ≤ i + 1 ∧ chk p.1 p.2 S2 = true ∧
            Aft kx X.K W σ (RNew X.K w) w1 ((compL bb (fun s S => evT G cs s S) (fun s S => ev G el s S) (chk p.1 p.2) (p.1.drop (i + 1)) S2).bind fun ys S3 => .ok (acc ++ ys) S3) Q, fun _ h => h, fun x H' y => ?_⟩
          obtain ⟨w3, rfl, x3, rs3, rd3⟩ := wy x H' y
          have g3 := g.go x3
          cases eb : bb d with
          | none => rw [eb] at q2; exact q2.elim
          | some s1 =>
            rw [eb] at q2
            simp only at q2
            rw [← hb'] at eb
            refine gT_of (st1.ext g3.ext) rd3 eb fun σ2 st2 hw => ⟨?_, w3, s1, S2, rfl, st2, rs3, ?_⟩
            · rw [hw _ (fun j hj => by
                have := hi.1
                rw [List.all_eq_true] at this
                simpa using this j hj)]
              exact wipe_idem _
            · dsimp only at q2 ⊢
              cases et : evT G cs s1 S2 with
              | no => rw [et] at q2; exact q2.elim
              | exc _ _ => rw [et] at q2; exact q2.elim
              | ok tt S4 =>
                rw [et] at q2
                simp only [Res.calm, bind_ok] at q2
                intro b w4 x4 rs4 eb2
                subst eb2
                have g4 := g3.go x4
                cases tt with
                | false =>
                  simp only [Bool.false_eq_true, if_false] at q2 ⊢
                  split at q2
                  · rename_i hk4
                    exact ⟨m - 1, by omega, w4, S4, acc, av, rfl, g4, rs4, by omega, by omega, hk4, q2⟩
                  · exact q2.elim
                | true =>
                  simp only [if_true] at q2 ⊢
                  refine ⟨w4, s1, S4, rfl, st2.ext x4, rs4, ?_⟩
                  cases ee : ev G el s1 S4 with
                  | no => rw [ee] at q2; exact q2.elim
                  | exc _ _ => rw [ee] at q2; exact q2.elim
                  | ok y S5 =>
                    rw [ee] at q2
                    simp only [bind_ok] at q2
                    intro v w5 x5 rs5 rd5
                    have g5 := g4.go x5
                    have l5 := g5.ds.length
                    split at q2
                    · rename_i hk5
                      refine ⟨av, g5.at_, by rw [l5, ← szL_eq]; omega, m - 1, by omega, w5.put D (.lst (av ++ [v])), S5, acc ++ [y], av ++ [v], rfl, g5.put hD rd5, rs5.side g5.nF g5.nr g5.at_, by omega, by simp; omega, hk5, q2.eqv ?_⟩
                      rw [bind_assoc]
                      congr 1
                      funext ys S6
                      simp [bind_ok]
                    · exact q2.elim
      · cases h
    · cases h
  · cases h
theorem snd_comp (hR : SndR R) {elt tg it : Expr} {ifs : List Expr} {scope : Scope} {pos : Pos} {e' : E} (h : trComp R c elt tg it ifs scope = some e') : Snd c (.ListComp elt [⟨tg, it, ifs, 0⟩] scope pos) e' := by
  obtain ⟨is, un, kk, es, cs, el, rfl, parts⟩ := comp_parts hR h
  refine Snd.of (fun {G k' kx X W} hc tk => ?_) (fun _ _ => rfl) rfl rfl
  obtain ⟨wi, g, tt, te, h1, h2, h3, h4, h5, h6, h7⟩ := parts hc tk
  refine PE.imp (pe_lc hc.calm (by rw [hc.hN]; exact hc.nd) h1 h2 h3 h4 h5 h6) fun σ H Q q => h7 σ H Q (RdN.of ?_)
  obtain ⟨w, s, S, rfl, st, rs, q⟩ := q
  exact ⟨w, s, S, rfl, st, rs, q.eqv ev_comp⟩
end Eng

/-! Eng14 -/
set_option Elab.async false
set_option linter.all false
set_option maxRecDepth 100000
set_option maxHeartbeats 4000000
/-! Every expression. -/
namespace Eng
open PySem PySem.Spec PyProof.Rows L2
variable {c : Ct} {R : Rec}

theorem snd_call (hR : SndR R) {f : Str} {p pos : Pos} {args : List Expr} {e' : E} (h : trCall R c f args = some e') : Snd c (.Call (.Name f p) args [] pos) e' := by
  unfold trCall at h
  split at h
  · rename_i hg
    split at h
    · rename_i i ar hf
      split at h
      · rename_i hl
        obtain ⟨es, e1, rfl⟩ := Option.map_eq_some_iff.mp h
        exact snd_own hR hg hf hl.1 hl.2 e1
      · cases h
    · split at h
      · rename_i hb
        split at h
        · split at h
          · rename_i p a' e1 e2; cases h
            exact snd_b1 hR hg hb e1 e2
          · cases h
        · split at h
          · rename_i e; subst e
            split at h
            · split at h
              · rename_i hl
                split at h
                · rename_i a' ts e1 e2; cases h
                  exact snd_isiT hR hg hl e1 e2
                · cases h
              · cases h
            · split at h
              · rename_i a' t e1 e2; cases h
                exact snd_isi1 hR hg e1 e2
              · cases h
          · split at h
            · rename_i p a' b' e1 e2 e3; cases h
              exact snd_b2 hR hg hb e1 e2 e3
            · cases h
        · cases h
      · cases h
  · cases h
theorem snd_meth (hR : SndR R) {o : Expr} {m : Str} {apos pos : Pos} {args : List Expr} {e' : E} (hr : okRecv o = true) (hln : (apos.endLine == pos.line) = true) (h : trMeth R c o m args = some e') : Snd c (.Call (.Attribute o m apos) args [] pos) e' := by
  unfold trMeth at h
  split at h
  · split at h
    · rename_i p o' e1 e2; cases h
      exact snd_m0 hR e1 hr hln e2
    · cases h
  · split at h
    · rename_i p o' a' e1 e2 e3; cases h
      exact snd_m1 hR e1 hr hln e2 e3
    · cases h
  · split at h
    · rename_i p o' a' b' e1 e2 e3 e4; cases h
      exact snd_m2 hR e1 hr hln e2 e3 e4
    · cases h
  · cases h
theorem snd_trCmp (hR : SndR R) {a : Expr} {ops : List CmpOp} {bs : List Expr} {pos : Pos} {e' : E} (h : trCmp R c a ops bs = some e') : Snd c (.Compare a ops bs pos) e' := by
  unfold trCmp at h
  split at h
  · rename_i op b
    split at h
    · split at h
      · split at h
        · rename_i a' d e1 e2
          cases h
          exact (snd_is hR e1 e2).1
        · cases h
      · cases h
    · split at h
      · split at h
        · rename_i a' d e1 e2
          cases h
          exact (snd_is hR e1 e2).2
        · cases h
      · cases h
    · split at h
      · rename_i p a' b' e1 e2 e3; cases h
        exact snd_cmp hR e1 e2 e3
      · cases h
  · split at h
    · rename_i p q a' b' d' e1 e2 e3 e4 e5; cases h
      exact snd_chain hR e1 e2 e3 e4 e5
    · cases h
  · cases h
theorem snd_trSub (hR : SndR R) {v i : Expr} {pos : Pos} {e' : E} (h : trSub R c v i = some e') : Snd c (.Subscript v i pos) e' := by
  unfold trSub at h
  split at h
  · split at h
    · split at h
      · obtain ⟨v', e1, rfl⟩ := Option.map_eq_some_iff.mp h
        exact snd_slc0 hR e1
      · split at h
        · rename_i v' l' e1 e2; cases h
          exact snd_slcL hR e1 e2
        · cases h
      · split at h
        · rename_i v' l' e1 e2; cases h
          exact snd_slcH hR e1 e2
        · cases h
      · split at h
        · rename_i v' l' h' e1 e2 e3; cases h
          exact snd_slcB hR e1 e2 e3
        · cases h
    · split at h
      · obtain ⟨v', e1, rfl⟩ := Option.map_eq_some_iff.mp h
        exact snd_rev hR e1
      · cases h
    · cases h
  · split at h
    · rename_i v' l' e1 e2; cases h
      exact snd_idx hR e1 e2
    · cases h
theorem snd_F (hR : SndR R) : SndR (trF R) := by
  intro c e e' h
  unfold trF at h
  split at h
  · exact snd_const h
  · exact snd_name h
  · split at h
    · rename_i hl
      obtain ⟨es, e1, rfl⟩ := Option.map_eq_some_iff.mp h
      exact snd_tuple hR hl e1
    · cases h
  · split at h
    · rename_i hl
      obtain ⟨es, e1, rfl⟩ := Option.map_eq_some_iff.mp h
      exact snd_lst hR hl e1
    · cases h
  · split at h
    · rename_i p a' b' e1 e2 e3; cases h
      exact snd_bin hR e1 e2 e3
    · cases h
  · split at h
    · obtain ⟨a', e1, rfl⟩ := Option.map_eq_some_iff.mp h
      exact snd_not hR e1
    · obtain ⟨a', e1, rfl⟩ := Option.map_eq_some_iff.mp h
      exact snd_neg hR e1
    · cases h
  · split at h
    · exact snd_bool1 hR h
    · rename_i op pos vs a b r
      split at h
      · rename_i a' b' e1 e2
        cases h
        have q := snd_bool hR e1 e2
        cases op <;> exact q
      · cases h
    · cases h
  · exact snd_trCmp hR h
  · split at h
    · rename_i p a' b' e1 e2 e3; cases h
      exact snd_ite hR e1 e2 e3
    · cases h
  · exact snd_trSub hR h
  · split at h
    · split at h
      · exact snd_call hR h
      · split at h
        · rename_i hk
          exact snd_meth hR hk.1 hk.2 h
        · cases h
      · cases h
    · cases h
  · split at h
    · split at h
      · rename_i ha; subst ha
        exact snd_comp hR h
      · cases h
    · cases h
  · split at h
    · cases h; exact snd_dnew
    · split at h
      · rename_i hl
        split at h
        · rename_i ks' vs' e1 e2
          cases h
          exact snd_dlit hR e1 e2 hl.1 hl.2 (by simp)
        · cases h
      · cases h
    · cases h
  · cases h
theorem snd_E : ∀ n, SndR (trE n)
  | 0 => fun c e e' h => by simp [trE] at h
  | n + 1 => fun c e e' h => snd_F (snd_E n) c e e' h
end Eng

/-! EngW -/
set_option Elab.async false
set_option linter.all false
set_option maxRecDepth 100000
set_option maxHeartbeats 4000000
/-! What the laws say of a caught error: the def _law_word, told while the error is handled. -/
namespace Eng
open PySem PySem.Spec PyProof.Rows L2 L2H

def isCo : Expr → Bool
  | .ListComp _ _ _ _ => true
  | .SetComp _ _ _ _ => true
  | .DictComp _ _ _ _ _ => true
  | _ => false
theorem sw_no {e : Expr} (h : isCo e = false) (t : Option Expr) (l : Nat) (env : PySem.Env) : swapsWith e t l env = pure false := by
  cases e <;> first | rfl | (simp [isCo] at h)

/-! ### list.count, flat items -/
def rCntV (K : PySem.W.Frag) : V → List V → Hp → VK → Prop := fun x xs H Q => ∃ (a : Addr) (ys : List V) (y : V), x = V.ref a ∧ xs = [y] ∧ SqL K H a ys ∧ flatV y = true ∧ ys.all flatV = true ∧ Q (.int ((ys.countP fun z => eqV z y : Nat) : Int)) H
theorem cnt_eqU {y : V} : ∀ {ys : List V} {us : List Value}, Vals ys us → ys.all flatV = true → us.countP (eqU y) = ys.countP fun z => eqV z y
  | _, _, .nil, _ => rfl
  | z :: ys, u :: us, .cons r rr, f => by
    rw [List.all_cons, Bool.and_eq_true] at f
    rw [List.countP_cons, List.countP_cons, cnt_eqU rr f.2, eqU_of r f.1]
theorem mt_countV {X : Cx} : MtR X "list.count" (rCntV X.K) := by
  intro pins s σ H x xs v us Q I rx rxs h
  obtain ⟨a, ys, y, rfl, rfl, hs, fy, fys, q⟩ := h
  cases rx
  obtain ⟨uy, rfl, ry⟩ := rxs.one
  obtain ⟨its, rv, ⟨⟨cls, dd, data, sl⟩, n, ho, hc, hdn, hd⟩, hlen⟩ := I.list hs
  simp only at hc hd
  subst hc hd
  refine call_meets PySem.F.slot_list_count ⟨_, ho, rfl⟩ PySem.F.entry_list_count (PySem.F.args_list_count_2 _ _)
    (SeqAt.list_countAt a its.toArray n dd sl uy (eqU y)) ⟨ho, fun u' hu' => mem_eqAt ry fy rv fys u' (by simpa using hu'), ?_⟩
  have ec : its.toArray.toList.countP (eqU y) = ys.countP fun z => eqV z y := cnt_eqU rv fys
  refine ⟨.int ((ys.countP fun z => eqV z y : Nat) : Int), H, I.tok _, ⟨s.toks, ?_⟩, q⟩
  show Value.int ((its.toArray.toList.countP (eqU y) : Nat) : Int) s.toks = _
  rw [ec]

/-! ### isinstance of the handled error -/
theorem call_isP {X : Cx} {a D : Addr} {oe : Obj} (hp : (a, oe) ∈ X.pn) (C : ExcC X.K D) (hz : Zc (.ref D) none oe) (hf : ∃ vs, oe.data = .fields vs) : CallR X (.builtin "isinstance") (rIsE X.K D a) := by
  intro pins s σ H xs us Q I r h
  obtain ⟨c, cv, b, rfl, hcv, e, q⟩ := h
  cases r with
  | cons r1 rr =>
    cases rr with
    | cons r2 rr =>
      cases rr
      cases r1
      have ec := hcv _ r2
      subst ec
      obtain ⟨hget, _⟩ := I.pin (a, oe) (List.mem_append_left _ hp)
      obtain ⟨vs, hv⟩ := hf
      have J : PySem.W.InstAt s.heap a oe D none := by
        obtain ⟨oc, od, oda, osl⟩ := oe
        obtain ⟨h1, h2⟩ := hz
        dsimp only at h1 h2 hv
        subst h1 h2 hv
        exact ⟨hget, rfl, rfl, trivial⟩
      exact PySem.W.kia_one (PySem.W.handS_kitx_exc C.hg C.hk C.hs C.hd C.ha C.hn C.ht C.hm) I.kIn J e (fun z => nomatch z) fun tk => ⟨.bl b, H, I.kept (t' := tk) fun _ _ z => z, rfl, q⟩

structure WCx (X : Cx) (a : Addr) (oe : Obj) (D : Addr) (i : Nat) : Prop where
  hN : X.N = (["kept", "kinds", "some"] : List Str)
  lc0 : X.env.scope.names.lookup ("kept" : Str) = some .local
  lc1 : X.env.scope.names.lookup ("kinds" : Str) = some .local
  lc2 : X.env.scope.names.lookup ("some" : Str) = some .local
  pin : (a, oe) ∈ X.pn
  ec : ExcC X.K D
  hz : Zc (.ref D) none oe
  hf : ∃ vs, oe.data = .fields vs
  isi : Gl X "isinstance" ∧ X.mg "isinstance" = none
  cls : ∀ (j : Nat) (y : Str), wNames[j]? = some y → Gl X y ∧ ∃ C, X.mg y = some (.ref C) ∧ PySem.W.kitOne X.K (.ref D) (.ref C) = some (decide (i = j))
  ve : Gl X "ValueError" ∧ X.mg "ValueError" = none ∧ PySem.W.kitOne X.K (.ref D) (.type "ValueError") = some true
section
variable {X : Cx} {a D : Addr} {oe : Obj} {i : Nat}
theorem WCx.kept (h : WCx X a oe D i) {l c : Nat} : PE X (wN "kept" l c) (tVar 0) := pe_var (by rw [h.hN] <;> rfl) (.inl h.lc0)
theorem WCx.kinds (h : WCx X a oe D i) {l c : Nat} : PE X (wN "kinds" l c) (tVar 1) := pe_var (by rw [h.hN] <;> rfl) (.inl h.lc1)
theorem WCx.some_ (h : WCx X a oe D i) {l c : Nat} : PE X (wN "some" l c) (tVar 2) := pe_var (by rw [h.hN] <;> rfl) (.inl h.lc2)
theorem wN_dbg {j : Nat} {y : Str} (h : wNames[j]? = some y) : (y == ("__debug__" : Str)) = false := by
  have : ∀ y ∈ wNames, (y == ("__debug__" : Str)) = false := by decide +kernel
  exact this y (List.mem_of_getElem? h)
theorem WCx.pe_isi (h : WCx X a oe D i) {l c j : Nat} {y : Str} (hy : wNames[j]? = some y) : PE X (wI y l c) (fun σ H Q => σ[0]? = some (some (.ref a)) ∧ Q (.bl (decide (i = j))) H) := by
  obtain ⟨g, C, m, k⟩ := h.cls j y hy
  refine PE.imp (pe_callB (call_isP h.pin h.ec h.hz h.hf) h.isi.1 h.isi.2 (by decide +kernel) (pa_cons h.kept (pa_cons (pe_glob (v := .ref C) g m rfl (wN_dbg hy)) pa_nil))) fun σ H Q q => ?_
  exact ⟨_, q.1, .ref C, .ref C, _, rfl, fun u r => r, k, q.2⟩
theorem WCx.pe_isv (h : WCx X a oe D i) {l c : Nat} : PE X (wI "ValueError" l c) (fun σ H Q => σ[0]? = some (some (.ref a)) ∧ Q (.bl true) H) := by
  obtain ⟨g, m, k⟩ := h.ve
  refine PE.imp (pe_callB (call_isP h.pin h.ec h.hz h.hf) h.isi.1 h.isi.2 (by decide +kernel) (pa_cons h.kept (pa_cons (pe_bltn (v := .ty "ValueError") (u := .type "ValueError") g m (by decide +kernel) rfl) pa_nil))) fun σ H Q q => ?_
  exact ⟨_, q.1, .ty "ValueError", .type "ValueError", _, rfl, fun u r => r, k, q.2⟩
def bsF (i : Nat) : Nat → Nat → List V
  | _, 0 => []
  | m, n + 1 => .bl (decide (i = m)) :: bsF i (m + 1) n
theorem WCx.pa_isi (h : WCx X a oe D i) {l : Nat} : ∀ {ys : List Str} {m c : Nat}, (∀ k y, ys[k]? = some y → wNames[m + k]? = some y) → PA X (wL ys l c) (fun σ H Q => σ[0]? = some (some (.ref a)) ∧ Q (bsF i m ys.length) H)
  | [], m, c, _ => PA.imp pa_nil fun σ H Q q => q.2
  | y :: ys, m, c, hy => by
    refine PA.imp (pa_cons (h.pe_isi (j := m) (hy 0 y rfl)) (WCx.pa_isi h (ys := ys) (m := m + 1) fun k z e => ?_)) fun σ H Q q => ⟨q.1, q.1, q.2⟩
    have := hy (k + 1) z (by simpa using e)
    rw [← this]; congr 1; omega
theorem bsF_len {i : Nat} : ∀ {n m : Nat}, (bsF i m n).length = n
  | 0, _ => rfl
  | n + 1, m => by simp [bsF, bsF_len (n := n)]
/-- nothing that was there is other -/
def Gr (H H' : Hp) : Prop := ∀ b, H b ≠ none → H' b = H b
theorem Gr.upd {H H' : Hp} {p : Addr} {o : HO} (g : Gr H H') (hp : H' p = none) : Gr H (L2.upd H' p o) := fun b hb => by
  rw [upd_ne (fun e => by subst e; exact hb ((g b hb).symm.trans hp))]
  exact g b hb
/-- kinds holds the first m words -/
def WJ (H0 : Hp) (a : Addr) (i m : Nat) (σ : L2.St) (H : Hp) : Prop := Gr H0 H ∧ σ.length = 3 ∧ σ[0]? = some (some (.ref a)) ∧ ∃ p, σ[1]? = some (some (.ref p)) ∧ H p = some (.lst (bsF i 0 m))
theorem set_len3 {σ : L2.St} {v : Option V} {j : Nat} (h : σ.length = 3) : (σ.set j v).length = 3 := by simpa using h
theorem set1_at {σ : L2.St} {v : Option V} (h : σ.length = 3) : (σ.set 1 v)[1]? = some v := by rw [List.getElem?_set_self (by omega)]
theorem set1_0 {σ : L2.St} {v : Option V} {j : Nat} (hj : j ≠ 0) : (σ.set j v)[0]? = σ[0]? := List.getElem?_set_ne hj
theorem WCx.first (h : WCx X a oe D i) {l : Nat} {pe pa : Pos} {H0 : Hp} : PS X (.Assign [wN "kinds" l 4] (.List (wL ["NoWay", "NoHole"] l 13) pe) pa)
    (fun D' σ H => (Gr H0 H ∧ σ.length = 3 ∧ σ[0]? = some (some (.ref a))) ∧ ∀ σ' H', WJ H0 a i 2 σ' H' → D'.nx σ' H') := by
  refine PS.imp (ps_set (i := 1) (by rw [h.hN]; decide +kernel) (by rw [h.hN] <;> rfl) (.inl h.lc1) (pe_lst (h.pa_isi (m := 0) (ys := ["NoWay", "NoHole"]) fun k y e => ?_)) (sw_no rfl _ _ _) (.inr h.lc1)) fun D' σ H q => ?_
  · match k, e with
    | 0, e => exact e
    | 1, e => exact e
    | k + 2, e => simp at e
  · obtain ⟨⟨g, hl, h0⟩, q⟩ := q
    refine ⟨h0, by rw [bsF_len, sizeLine_eq]; decide, fun p hp => q _ _ ⟨g.upd hp, set_len3 hl, by rw [set1_0 (by decide)]; exact h0, p, set1_at hl, upd_same⟩⟩
theorem bsF_app {i : Nat} : ∀ {n m k : Nat}, bsF i m n ++ bsF i (m + n) k = bsF i m (n + k)
  | 0, m, k => by simp [bsF]
  | n + 1, m, k => by
    have e : n + 1 + k = (n + k) + 1 := by omega
    rw [e]
    simp only [bsF, List.cons_append]
    rw [show m + (n + 1) = (m + 1) + n from by omega, bsF_app (n := n)]
theorem WCx.more (h : WCx X a oe D i) {l m : Nat} {ys : List Str} {H0 : Hp} (hm : m ≤ 9) (hy9 : ys.length ≤ 9) (hy : ∀ k y, ys[k]? = some y → wNames[m + k]? = some y) : PS X (wA ys l)
    (fun D' σ H => WJ H0 a i m σ H ∧ ∀ σ' H', WJ H0 a i (m + ys.length) σ' H' → D'.nx σ' H') := by
  refine PS.imp (ps_set (i := 1) (by rw [h.hN]; decide +kernel) (by rw [h.hN] <;> rfl) (.inl h.lc1) (pe_op op_addD h.kinds (pe_lst (h.pa_isi (m := m) hy))) (sw_no rfl _ _ _) (.inr h.lc1)) fun D' σ H q => ?_
  obtain ⟨⟨g, hl, h0, p, h1, hp⟩, q⟩ := q
  refine ⟨.ref p, h1, h0, by rw [bsF_len, sizeLine_eq]; omega, fun r hr => .inr (.inr (.inr ⟨p, r, bsF i 0 m, bsF i m ys.length, rfl, rfl, ?_, upd_same, ?_, fun t ht => q _ _ ⟨(g.upd hr).upd ht, set_len3 hl, by rw [set1_0 (by decide)]; exact h0, t, set1_at hl, ?_⟩⟩))⟩
  · show L2.upd H r _ p = _
    rw [upd_ne (ne_of_none hp hr)]
    exact hp
  · rw [bsF_len, bsF_len, sizeLine_eq]; omega
  · rw [upd_same]
    have e := bsF_app (i := i) (m := 0) (n := m) (k := ys.length)
    rw [Nat.zero_add] at e
    rw [e]
theorem bsF_flat {i : Nat} : ∀ {n m : Nat}, (bsF i m n).all flatV = true
  | 0, _ => rfl
  | n + 1, m => by simp [bsF, flatV, bsF_flat (n := n)]
theorem WCx.pe_cnt (h : WCx X a oe D i) {l c : Nat} : PE X (wM "count" l c) (fun σ H Q => ∃ p vs, σ[1]? = some (some (.ref p)) ∧ H p = some (.lst vs) ∧ vs.all flatV = true ∧ Q (.int ((vs.countP fun z => eqV z (.bl true) : Nat) : Int)) H) := by
  refine PE.imp (pe_bm PySem.F.plainAttrs_list PySem.F.slot_list_count PySem.F.type_list_count mt_countV h.kinds (pa_cons pe_bl pa_nil) rfl rfl (by simp) rfl rfl) fun σ H Q q => ?_
  obtain ⟨p, vs, h1, h2, h3, q⟩ := q
  exact ⟨.ref p, h1, .inl ⟨rfl, vs, SqL.of h2⟩, p, vs, .bl true, rfl, rfl, SqL.of h2, rfl, h3, q⟩
theorem WCx.pe_ind (h : WCx X a oe D i) {l c : Nat} : PE X (wM "index" l c) (fun σ H Q => ∃ (p : Addr) (vs : List V) (j : Nat) (z : V), σ[1]? = some (some (.ref p)) ∧ H p = some (.lst vs) ∧ vs.all flatV = true ∧ vs[j]? = some z ∧ eqV z (.bl true) = true ∧ (∀ (m : Nat) (z' : V), m < j → vs[m]? = some z' → eqV z' (.bl true) = false) ∧ Q (.int (j : Nat)) H) := by
  refine PE.imp (pe_bm PySem.F.plainAttrs_list PySem.F.slot_list_index PySem.F.type_list_index mt_index h.kinds (pa_cons pe_bl pa_nil) rfl rfl (by simp) rfl rfl) fun σ H Q q => ?_
  obtain ⟨p, vs, j, z, h1, h2, h3, h4, h5, h6, q⟩ := q
  exact ⟨.ref p, h1, .inl ⟨rfl, vs, SqL.of h2⟩, p, vs, .bl true, j, z, rfl, rfl, SqL.of h2, rfl, h3, h4, h5, h6, q⟩
theorem bs_count : ∀ i : Fin 9, ((bsF i.1 0 9).countP fun z => eqV z (.bl true)) = 1 := by decide +kernel
theorem bs_at {i : Nat} : ∀ {n m k : Nat}, k < n → (bsF i m n)[k]? = some (.bl (decide (i = m + k)))
  | 0, m, k, h => by omega
  | n + 1, m, 0, h => rfl
  | n + 1, m, k + 1, h => by
    simp only [bsF, List.getElem?_cons_succ]
    rw [bs_at (by omega)]
    congr 3
    rw [show m + 1 + k = m + (k + 1) from by omega]
theorem WCx.test (h : WCx X a oe D i) (hi : i < 9) {l : Nat} {p1 p2 p3 p4 p5 : Pos} {H0 : Hp} {b : List Stmt} {tb : TS} (hb : PSs X b tb) :
    PS X (.If (.BoolOp .Or [.Compare (wM "count" l 7) [.NotEq] [.Constant (.int 1) 0 p1] p2, .UnaryOp .Not (wI "ValueError" l 37) p3] p4) b [] p5)
    (fun D' σ H => WJ H0 a i 9 σ H ∧ (WJ H0 a i 9 σ H → D'.nx σ H)) := by
  refine PS.imp (ps_if (pw_or (pt_cmp (pc_neI h.pe_cnt pe_int)) (pw_or1 (pt_not (pt_val h.pe_isv)))).pt hb pss_nil) fun D' σ H q => ?_
  obtain ⟨⟨g, hl, h0, p, h1, hp⟩, q⟩ := q
  refine ⟨p, _, h1, hp, bsF_flat, _, _, rfl, rfl, ?_⟩
  have e1 := bs_count ⟨i, hi⟩
  simp only at e1
  rw [e1]
  refine ⟨_, rfl, ?_⟩
  exact ⟨h0, _, rfl, q ⟨g, hl, h0, p, h1, hp⟩⟩
theorem pa_strs {l : Nat} : ∀ {ys : List Str} {c : Nat}, PA X (wT ys l c) (fun _ H Q => Q (ys.map V.str) H)
  | [], c => PA.imp pa_nil fun σ H Q q => q
  | y :: ys, c => PA.imp (pa_cons pe_str (pa_strs (ys := ys))) fun σ H Q q => q
/-- .. and some the texts -/
def WJ2 (H0 : Hp) (a : Addr) (i : Nat) (σ : L2.St) (H : Hp) : Prop := WJ H0 a i 9 σ H ∧ ∃ p, σ[2]? = some (some (.ref p)) ∧ H p = some (.tup (wTexts.map V.str))
theorem WCx.texts (h : WCx X a oe D i) {l : Nat} {p1 p2 : Pos} {k : Nat} {H0 : Hp} : PS X (.Assign [wN "some" l 4] (.Tuple (wT wTexts l 12) k p1) p2)
    (fun D' σ H => WJ H0 a i 9 σ H ∧ ∀ σ' H', WJ2 H0 a i σ' H' → D'.nx σ' H') := by
  refine PS.imp (ps_set (i := 2) (by rw [h.hN]; decide +kernel) (by rw [h.hN] <;> rfl) (.inl h.lc2) (pe_tup pa_strs) (sw_no rfl _ _ _) (.inr h.lc2)) fun D' σ H q => ?_
  obtain ⟨⟨g, hl, h0, p, h1, hp⟩, q⟩ := q
  refine ⟨by rw [List.length_map, sizeLine_eq]; decide, fun r hr => q _ _ ⟨⟨g.upd hr, set_len3 hl, by rw [set1_0 (by decide)]; exact h0, p, by rw [List.getElem?_set_ne (by decide)]; exact h1, ?_⟩, r, by rw [List.getElem?_set_self (by omega)], upd_same⟩⟩
  rw [upd_ne (ne_of_none hp hr)]
  exact hp
theorem wText_at : ∀ i : Fin 9, L2.atI (wTexts.map V.str) (i.1 : Nat) = some (.str (wText i.1)) := by decide +kernel
theorem WCx.last (h : WCx X a oe D i) (hi : i < 9) {l : Nat} {p1 p2 : Pos} {H0 : Hp} : PS X (.Return (some (.Subscript (wN "some" l 11) (wM "index" l 16) p1)) p2)
    (fun D' σ H => WJ2 H0 a i σ H ∧ ∀ H', Gr H0 H' → D'.rt (.str (wText i)) H') := by
  refine PS.imp (ps_ret (pe_ix ix_tup h.some_ h.pe_ind (fun o i => rfl))) fun D' σ H q => ?_
  obtain ⟨⟨⟨g, hl, h0, p, h1, hp⟩, r, h2, hr⟩, q⟩ := q
  refine ⟨.ref r, h2, p, _, i, _, h1, hp, bsF_flat, bs_at (by omega), by rw [decide_eq_true (show i = 0 + i from by omega)] <;> rfl, fun m z' hm e => ?_, r, _, (i : Int), _, rfl, rfl, SqT.of hr, wText_at ⟨i, hi⟩, q _ g⟩
  rw [bs_at (by omega)] at e
  cases e
  have : ¬ i = 0 + m := by omega
  rw [decide_eq_false this]
  rfl
/-- its body -/
theorem WCx.body (h : WCx X a oe D i) (hi : i < 9) {l : Nat} {H0 : Hp} : PSs X (wordAst l) (fun D' σ H => (H = H0 ∧ σ.length = 3 ∧ σ[0]? = some (some (.ref a))) ∧ ∀ H', Gr H0 H' → D'.rt (.str (wText i)) H') := by
  have w1 := h.first (l := l + 1) (pe := ⟨l + 1, 12, l + 1, 63⟩) (pa := ⟨l + 1, 4, l + 1, 63⟩) (H0 := H0)
  have w2 := h.more (l := l + 2) (m := 2) (ys := ["NoRule", "NoFinding"]) (H0 := H0) (by omega) (by decide) fun k y e => match k, e with
    | 0, e => e
    | 1, e => e
    | k + 2, e => by simp at e
  have w3 := h.more (l := l + 3) (m := 4) (ys := ["NoLine", "NoHush", "NoDeed"]) (H0 := H0) (by omega) (by decide) fun k y e => match k, e with
    | 0, e => e
    | 1, e => e
    | 2, e => e
    | k + 3, e => by simp at e
  have w4 := h.more (l := l + 4) (m := 7) (ys := ["BadBook", "NoText"]) (H0 := H0) (by omega) (by decide) fun k y e => match k, e with
    | 0, e => e
    | 1, e => e
    | k + 2, e => by simp at e
  have w5 := h.test (H0 := H0) hi (l := l + 5) (p1 := ⟨l + 5, 28, l + 5, 29⟩) (p2 := ⟨l + 5, 7, l + 5, 29⟩) (p3 := ⟨l + 5, 33, l + 5, 65⟩) (p4 := ⟨l + 5, 7, l + 5, 65⟩) (p5 := ⟨l + 5, 4, l + 6, 22⟩) (pss_cons (ps_ret (X := X) (pos := ⟨l + 6, 8, l + 6, 22⟩) (pe_str (x := "wrong") (j := 0) (pos := ⟨l + 6, 15, l + 6, 22⟩))) pss_nil)
  have w6 := h.texts (l := l + 7) (p1 := ⟨l + 7, 11, l + 7, 113⟩) (p2 := ⟨l + 7, 4, l + 7, 113⟩) (k := 0) (H0 := H0)
  have w7 := h.last hi (l := l + 8) (p1 := ⟨l + 8, 11, l + 8, 34⟩) (p2 := ⟨l + 8, 4, l + 8, 34⟩) (H0 := H0)
  refine PSs.imp (pss_cons w1 (pss_cons w2 (pss_cons w3 (pss_cons w4 (pss_cons w5 (pss_cons w6 (pss_cons w7 pss_nil))))))) fun D' σ H q => ?_
  obtain ⟨⟨rfl, hl, h0⟩, q⟩ := q
  exact ⟨⟨fun _ _ => rfl, hl, h0⟩, fun σ1 H1 j1 => ⟨j1, fun σ2 H2 j2 => ⟨j2, fun σ3 H3 j3 => ⟨j3, fun σ4 H4 j4 => ⟨j4, fun j5 => ⟨j5, fun σ6 H6 j6 => ⟨j6, q⟩⟩⟩⟩⟩⟩⟩
end
/-! ### its call -/
theorem wN_lt {i : Nat} {y : Str} (h : wNames[i]? = some y) : i < 9 := (List.getElem?_eq_some_iff.mp h).1
theorem word_call {CX : CXT} {P : Program} {w : World} {K : PySem.W.Frag} {mg : Str → Option Value} {base : Heap} {f : Addr} {fd : FuncData} {pa : Arguments} {sc : Scope} {l : Nat} {C : Nat → Addr}
    (F : FunD K "_law_word" "_law_word" pa (wordAst l) sc [] [] f fd) (S : FnScope ["kept", "kinds", "some"] ["kept"] sc) (hsc : wordSc sc) (hw : WK K mg C)
    {A : Around} {outer : List PySem.Env} {s : Shared} {H : Hp} {args : Args} {Q : VK} {E : XK} {i : Nat} {a : Addr} {oe : Obj} (hi : i < 9) (hr : A.depth < recursionLimit) (hpin : PinOk outer H s (a, oe)) (e0 : Env0 P w K mg base A outer s H) (hb : BindsTo s fd args [("kept", .ref a)])
    (hz : Zc (.ref (C i)) none oe) (hf : ∃ vs, oe.data = .fields vs) (q : ∀ H', Gr H H' → Q (.str (wText i)) H') : codeAny (model P w) A (.call (.ref f) args) (CR CX outer P w H s Q E) s := by
  obtain ⟨oc, od, dV, kV, doc, pm, an, cdv, ct, osl, rfl, lk, hcd, _, _⟩ := F.ex
  have kx : K.In s.heap := e0.mod.kin.keeps fun b o e => (e0.bs b o e).1
  have lm : s.heap.NoLimit := e0.mod.nolimit.keeps fun b o e => (e0.bs b o e).1
  have hk : ∀ y ∈ [(("kept" : Str), Value.ref a)], sc.names.lookup y.1 = some .local ∨ (sc.names.lookup y.1 = some .cell ∧ ((cellsFrom (s.heap.objs.size + 1) sc.names []).lookup y.1).isSome = true) := fun y hy => by
    simp at hy
    subst hy
    exact .inl hsc.2.2.2.1
  refine codeAny_call_function hr (kx _ _ lk) rfl S.co S.gen rfl (PySem.W.codeRec_of kx hcd) (hb _ _ _ _ ?_)
  refine wpAny_newFunctionEnv_cells S.kind hk fun env he s1 x => ?_
  subst he
  refine ⟨lm.keeps x.toInCall.keep, codeAny_func ?_⟩
  have I : Inv (cxH CX P w K mg base ["kept", "kinds", "some"] "_law_word" sc f cdv A outer s H E (a, oe)) [] (L2.start ["kept", "kinds", "some"] [.ref a]) H s1 := inv_startH S hpin e0 rfl (.cons rfl .nil) x
  have wc : WCx (cxH CX P w K mg base ["kept", "kinds", "some"] "_law_word" sc f cdv A outer s H E (a, oe)) a oe (C i) i := ⟨rfl, hsc.2.2.2.1, hsc.2.2.2.2.1, hsc.2.2.2.2.2, by show (a, oe) ∈ [(a, oe)]; simp, hw.ec i hi, hz, hf, ⟨hsc.2.1, hw.isi⟩,
    fun j y e => ⟨hsc.1 y (List.mem_of_getElem? e), C j, hw.at_ j y e, hw.kit i j hi (wN_lt e)⟩, hsc.2.2.1, hw.ve, hw.vk i hi⟩
  refine wpAny_mono ((wc.body hi (l := l) (H0 := H)).run [] s1 (L2.start ["kept", "kinds", "some"] [.ref a]) H { nx := fun _ H' => Q .non H', rt := Q } I ⟨⟨rfl, rfl, rfl⟩, q⟩) (fun fl s' hs => ?_) fun e s' hs => hs
  cases fl with
  | ret u =>
    obtain ⟨v, σ', H', J, rv, q⟩ := hs
    exact ⟨v, H', J.os, J.bare, J.base, J.hok, rv, q⟩
  | next =>
    obtain ⟨σ', H', J, q⟩ := hs
    exact ⟨.non, H', J.os, J.bare, J.base, J.hok, rfl, q⟩
  | brk =>
    obtain ⟨_, _, _, q⟩ := hs
    exact False.elim q
  | cont =>
    obtain ⟨_, _, _, q⟩ := hs
    exact False.elim q
end Eng

/-! Eng15 -/
set_option Elab.async false
set_option linter.all false
set_option maxRecDepth 100000
set_option maxHeartbeats 4000000
/-! Statements. -/
namespace Eng
open PySem PySem.Spec PyProof.Rows L2

def isComp : Expr → Bool
  | .ListComp _ _ _ _ => true
  | .SetComp _ _ _ _ => true
  | .DictComp _ _ _ _ _ => true
  | _ => false
theorem sw_not {e : Expr} (h : isComp e = false) (t : Option Expr) (l : Nat) (env : PySem.Env) : swapsWith e t l env = pure false := by
  cases e <;> first | rfl | (simp [isComp] at h)
/-- x = [..], x known while the list grows -/
def swL (c : Ct) (x : Str) (xp p : Pos) (scope : Scope) : Bool := (c.sc.names.lookup x == some .local && xp.line == p.line) && !(scope.names.any fun y => y.1 == x && (y.2 == .local || y.2 == .cell))
theorem sw_false {elt : Expr} {gs : List Comprehension} {scope : Scope} {pos py : Pos} {y : Str} {l : Nat} {env : PySem.Env} {c : Ct} (hs : env.scope = c.sc) (hk : c.sc.kind = .function) (h : swL c y py pos scope = false) : swapsWith (.ListComp elt gs scope pos) (some (.Name y py)) l env = pure false := by
  have hb : env.blockKind = .function := by unfold PySem.Env.blockKind; rw [hs, hk]; rfl
  have ky : env.kindOf y = c.sc.names.lookup y := by unfold PySem.Env.kindOf; rw [hs]
  unfold swapsWith
  simp only [hb, ky, Expr.pos]
  unfold swL at h
  show pure ((true && c.sc.names.lookup y == some .local && py.line == pos.line && !(scope.names.any fun x => x.1 == y && (x.2 == .local || x.2 == .cell)))) = _
  rw [Bool.true_and, h]
theorem sw_tr {c : Ct} {y : Str} {py pos : Pos} {scope : Scope} (h : swL c y py pos scope = true) : c.sc.names.lookup y = some .local ∧ (py.line == pos.line) = true ∧ (scope.names.any fun (n, k) => n == y && (k == .local || k == .cell)) = false := by
  unfold swL at h
  simp only [Bool.and_eq_true, Bool.not_eq_true'] at h
  exact ⟨by simpa using h.1.1, h.1.2, h.2⟩
def isTup : Expr → Bool
  | .Tuple _ _ _ => true
  | _ => false
theorem ss_not {tg e : Expr} (h : isTup e = false) (env : PySem.Env) : swappedStores [tg] e env = pure none := by
  cases e <;> first | (cases tg <;> rfl) | (simp [isTup] at h)
def isStar : Expr → Bool
  | .Starred _ _ => true
  | _ => false
def nmL (k : Str → Option NameKind) (ts : List Expr) : List Str := ts.filterMap fun
  | .Name id pos => if (k id == some .local && pos.line == (ts.head?.map (·.pos.line)).getD 0) = true then some id else none
  | _ => none
theorem ss_unf (ts vs : List Expr) (k k2 : Nat) (p p2 : Pos) (env : PySem.Env) : swappedStores [.Tuple ts k p] (.Tuple vs k2 p2) env = (if (!(ts.length == 2 || ts.length == 3) || vs.length != ts.length || env.blockKind != .function) = true then pure none else if (vs.any isStar) = true then pure none
    else if ((nmL env.kindOf ts).length != ts.length || (nmL env.kindOf ts).eraseDups.length != (nmL env.kindOf ts).length) = true then pure none else if (vs.all (foldedForSure 8)) = true then pure none
    else if (vs.all (constantsAlone 8)) = true then (do
      unsupported "assign.tuple-of-constant-expressions:order-of-the-stores"
      pure (some (nmL env.kindOf ts))) else pure (some (nmL env.kindOf ts))) := rfl
def swN (sc : Scope) (ts : List Expr) : List Str := nmL (fun y => sc.names.lookup y) ts
/-- stored by a swap -/
def swY (c : Ct) (ts vs : List Expr) : Bool := (ts.length == 2 || ts.length == 3) && vs.length == ts.length && (swN c.sc ts).length == ts.length && (swN c.sc ts).eraseDups.length == (swN c.sc ts).length && !(vs.all (foldedForSure 8)) && !(vs.all (constantsAlone 8)) && !(vs.any isStar)
/-- stored by way of a tuple -/
def swX (c : Ct) (ts vs : List Expr) : Bool := (!(ts.length == 2 || ts.length == 3) || vs.length != ts.length || (swN c.sc ts).length != ts.length || vs.all (foldedForSure 8)) && !(vs.any isStar)
theorem ss_some {env : PySem.Env} {c : Ct} {ts vs : List Expr} {k k2 : Nat} {p p2 : Pos} (hs : env.scope = c.sc) (hk : c.sc.kind = .function) (h : swY c ts vs = true) : swappedStores [.Tuple ts k p] (.Tuple vs k2 p2) env = pure (some (swN c.sc ts)) := by
  have hb : env.blockKind = .function := by unfold PySem.Env.blockKind; rw [hs, hk]; rfl
  have ky : env.kindOf = fun y => c.sc.names.lookup y := by funext y; unfold PySem.Env.kindOf; rw [hs]
  rw [ss_unf, hb, ky]
  show (if (!(ts.length == 2 || ts.length == 3) || vs.length != ts.length || ScopeKind.function != .function) = true then pure none else if (vs.any isStar) = true then pure none
    else if ((swN c.sc ts).length != ts.length || (swN c.sc ts).eraseDups.length != (swN c.sc ts).length) = true then pure none else if (vs.all (foldedForSure 8)) = true then pure none
    else if (vs.all (constantsAlone 8)) = true then (do
      unsupported "assign.tuple-of-constant-expressions:order-of-the-stores"
      pure (some (swN c.sc ts))) else pure (some (swN c.sc ts))) = _
  unfold swY at h
  simp only [Bool.and_eq_true, Bool.not_eq_true'] at h
  obtain ⟨⟨⟨⟨⟨⟨h1, h2⟩, h3⟩, h4⟩, h5⟩, h6⟩, h7⟩ := h
  have e1 : (vs.length != ts.length) = false := by simp only [bne, h2]; rfl
  have e2 : ((swN c.sc ts).length != ts.length) = false := by simp only [bne, h3]; rfl
  have e3 : ((swN c.sc ts).eraseDups.length != (swN c.sc ts).length) = false := by simp only [bne, h4]; rfl
  have e4 : (ScopeKind.function != ScopeKind.function) = false := rfl
  rw [h1, e1, e2, e3, e4, h5, h6, h7]
  rfl
theorem ss_none {env : PySem.Env} {c : Ct} {ts vs : List Expr} {k k2 : Nat} {p p2 : Pos} (hs : env.scope = c.sc) (hk : c.sc.kind = .function) (h : swX c ts vs = true) : swappedStores [.Tuple ts k p] (.Tuple vs k2 p2) env = pure none := by
  have hb : env.blockKind = .function := by unfold PySem.Env.blockKind; rw [hs, hk]; rfl
  have ky : env.kindOf = fun y => c.sc.names.lookup y := by funext y; unfold PySem.Env.kindOf; rw [hs]
  rw [ss_unf, hb, ky]
  show (if (!(ts.length == 2 || ts.length == 3) || vs.length != ts.length || ScopeKind.function != .function) = true then pure none else if (vs.any isStar) = true then pure none
    else if ((swN c.sc ts).length != ts.length || (swN c.sc ts).eraseDups.length != (swN c.sc ts).length) = true then pure none else if (vs.all (foldedForSure 8)) = true then pure none
    else if (vs.all (constantsAlone 8)) = true then (do
      unsupported "assign.tuple-of-constant-expressions:order-of-the-stores"
      pure (some (swN c.sc ts))) else pure (some (swN c.sc ts))) = _
  unfold swX at h
  simp only [Bool.and_eq_true, Bool.not_eq_true'] at h
  obtain ⟨h, h7⟩ := h
  rw [h7]
  have e4 : (ScopeKind.function != ScopeKind.function) = false := rfl
  rw [e4, Bool.or_false]
  cases e1 : (!(ts.length == 2 || ts.length == 3) || vs.length != ts.length) with
  | true => rfl
  | false =>
    rw [e1, Bool.false_or] at h
    cases e2 : ((swN c.sc ts).length != ts.length) with
    | true => rfl
    | false =>
      rw [e2, Bool.false_or] at h
      rw [h, Bool.false_or]
      cases ((swN c.sc ts).eraseDups.length != (swN c.sc ts).length) <;> rfl

/-! ### the readings -/
def AftS (kx : Nat → Value) (K : PySem.W.Frag) (W : WX) (D : Ends) (w : Wd) : Out → Prop
  | .nx s' S' => ∀ σ' w', Ext w w' → StR K w' σ' s' → RS K w' S' → D.nx σ' w'.H
  | .rt d S' => ∀ v w', Ext w w' → RS K w' S' → RD K w' d v → D.rt v w'.H
  | .exc c s' S' => ∀ σ' w', Ext w w' → StR K w' σ' s' → RS K w' S' → W (kx c) none σ' w'.H
  | .no => False
def RdS (kx : Nat → Value) (K : PySem.W.Frag) (W : WX) (m : Env → Sto → Out) : TS := fun D σ H => ∃ w s S, w.H = H ∧ StR K w σ s ∧ RS K w S ∧ AftS kx K W D w (m s S)
section
variable {kx : Nat → Value} {K : PySem.W.Frag} {W : WX} {D : Ends} {w w' : Wd}
theorem AftS.mono {o : Out} (h : AftS kx K W D w o) (x : Ext w w') : AftS kx K W D w' o := by
  cases o with
  | nx s S => exact fun σ' w2 x2 => h σ' w2 (x.trans x2)
  | rt d S => exact fun v w2 x2 => h v w2 (x.trans x2)
  | exc c s S => exact fun σ' w2 x2 => h σ' w2 (x.trans x2)
  | no => exact h
theorem AftS.eqv {o o' : Out} (h : AftS kx K W D w o) (e : o = o') : AftS kx K W D w o' := e ▸ h
variable {σ : L2.St} {s : Env}
theorem AftS.outE {r : Res Eng.D} {f : Eng.D → Sto → Out} {Q1 : VK} (h : AftS kx K W D w (outE s r f)) (st : StR K w σ s) (h1 : ∀ d S1 v w1, Ext w w1 → RS K w1 S1 → RD K w1 d v → AftS kx K W D w1 (f d S1) → Q1 v w1.H) : Aft kx K W σ (RD K) w r Q1 := by
  cases r with
  | ok d S' => exact fun v w1 x rs rd => h1 d S' v w1 x rs rd (AftS.mono (o := f d S') h x)
  | exc c S' => exact fun w1 x rs => h σ w1 x (st.ext x) rs
  | no => exact h
theorem AftS.outB {r : Res Bool} {f : Bool → Sto → Out} {Q1 : Bool → Hp → Prop} (h : AftS kx K W D w (outB s r f)) (st : StR K w σ s) (h1 : ∀ d S1 w1, Ext w w1 → RS K w1 S1 → AftS kx K W D w1 (f d S1) → Q1 d w1.H) : Aft kx K W σ (fun _ b b' => b = b') w r Q1 := by
  cases r with
  | ok d S' => exact fun v w1 x rs rd => by subst rd; exact h1 d S' w1 x rs (AftS.mono (o := f d S') h x)
  | exc c S' => exact fun w1 x rs => h σ w1 x (st.ext x) rs
  | no => exact h
theorem AftS.outL {r : Res (List Eng.D)} {f : List Eng.D → Sto → Out} {Q1 : List V → Hp → Prop} (h : AftS kx K W D w (outL s r f)) (st : StR K w σ s) (h1 : ∀ d S1 v w1, r = .ok d S1 → Ext w w1 → RS K w1 S1 → RDs K w1 d v → AftS kx K W D w1 (f d S1) → Q1 v w1.H) : Aft kx K W σ (RDs K) w r Q1 := by
  cases r with
  | ok d S' => exact fun v w1 x rs rd => h1 d S' v w1 rfl x rs rd (AftS.mono (o := f d S') h x)
  | exc c S' => exact fun w1 x rs => h σ w1 x (st.ext x) rs
  | no => exact h
theorem AftS.nx_ {s' : Env} {S' : Sto} (h : AftS kx K W D w (.nx s' S')) (st : StR K w σ s') (rs : RS K w S') : D.nx σ w.H := h σ w (Ext.refl w) st rs
end
/-- a def's body's context -/
structure SxOk (c : Ct) (G : Nat → List D → Sto → Res D) (k : Nat) (kx : Nat → Value) (X : Cx) (W : WX) : Prop extends CxOk c G k kx X where
  tk : Takes X W
  pass : PassesOwn (model X.prog X.w) X.A X.env X.xe
  fn : ∀ x, X.fn x = true
  kind : c.sc.kind = .function
  stk : X.stack = X.env :: X.outer
  frm : X.env.frame = some X.env.locals
def SndS (c : Ct) (st : Stmt) (st' : St) : Prop := ∀ (G : Nat → List D → Sto → Res D) (k : Nat) (kx : Nat → Value) (X : Cx) (W : WX), SxOk c G k kx X W → PS X st (RdS kx X.K W (ex G st'))
def SndB (c : Ct) (st : List Stmt) (st' : List St) : Prop := ∀ (G : Nat → List D → Sto → Res D) (k : Nat) (kx : Nat → Value) (X : Cx) (W : WX), SxOk c G k kx X W → PSs X st (RdS kx X.K W (exs G st'))
theorem sndB_of {c : Ct} {T : Stmt → Option St} (hT : ∀ st st', T st = some st' → SndS c st st') : ∀ {sts : List Stmt} {sts' : List St}, mapO T sts = some sts' → SndB c sts sts'
  | [], sts', h => by
    simp only [mapO, Option.some.injEq] at h
    subst h
    intro G k kx X W hx
    refine PSs.imp pss_nil fun D σ H q => ?_
    obtain ⟨w, s, S, rfl, st, rs, q⟩ := q
    simp only [exs] at q
    exact q.nx_ st rs
  | t :: ts, sts', h => by
    obtain ⟨y, r, h1, h2, rfl⟩ := mapO_cons h
    intro G k kx X W hx
    refine PSs.imp (pss_cons (hT t y h1 _ _ _ _ _ hx) (sndB_of hT h2 _ _ _ _ _ hx)) fun D σ H q => ?_
    obtain ⟨w, s, S, rfl, st, rs, q⟩ := q
    simp only [exs] at q
    refine ⟨w, s, S, rfl, st, rs, ?_⟩
    cases e : ex G y s S with
    | nx s1 S1 =>
      rw [e] at q
      exact fun σ' w' x st' rs' => ⟨w', s1, S1, rfl, st', rs', AftS.mono (o := exs G r s1 S1) q x⟩
    | rt d S1 => rw [e] at q; exact q
    | exc _ _ _ => rw [e] at q; exact q
    | no => rw [e] at q; exact q

variable {c : Ct} {R : Rec}
theorem s_pass {pos : Pos} : SndS c (.Pass pos) .pass := by
  intro G k kx X W hx
  refine PS.imp ps_pass fun D σ H q => ?_
  obtain ⟨w, s, S, rfl, st, rs, q⟩ := q
  simp only [ex] at q
  exact q.nx_ st rs
/-- what the proof never comes to -/
theorem s_never {st : Stmt} : SndS c st (.expr (.pr .len [])) := by
  intro G k kx X W hx
  refine PS.imp ps_never fun D σ H q => ?_
  obtain ⟨w, s, S, rfl, st, rs, q⟩ := q
  simp only [ex, ev, evs, bind_ok, pr] at q
  exact q
theorem s_doc {x : Str} {j : Nat} {p pos : Pos} : SndS c (.Expr (.Constant (.str x) j p) pos) .pass := by
  intro G k kx X W hx
  refine PS.imp ps_doc fun D σ H q => ?_
  obtain ⟨w, s, S, rfl, st, rs, q⟩ := q
  simp only [ex] at q
  exact q.nx_ st rs
theorem s_expr (hR : SndR R) {e : Expr} {e' : E} {pos : Pos} (hn : isComp e = false) (h : R c e = some e') : SndS c (.Expr e pos) (.expr e') := by
  intro G k kx X W hx
  refine PS.imp (ps_expr ((hR c e e' h).pe hx.toCxOk hx.tk) (sw_not hn _ _ _)) fun D σ H q => ?_
  obtain ⟨w, s, S, rfl, st, rs, q⟩ := q
  simp only [ex] at q
  exact ⟨w, s, S, rfl, st, rs, q.outE st fun d S1 v w1 x1 rs1 rd1 q1 => q1.nx_ (st.ext x1) rs1⟩
theorem s_ret (hR : SndR R) {e : Expr} {e' : E} {pos : Pos} (h : R c e = some e') : SndS c (.Return (some e) pos) (.ret e') := by
  intro G k kx X W hx
  refine PS.imp (ps_ret ((hR c e e' h).pe hx.toCxOk hx.tk)) fun D σ H q => ?_
  obtain ⟨w, s, S, rfl, st, rs, q⟩ := q
  simp only [ex] at q
  exact ⟨w, s, S, rfl, st, rs, q.outE st fun d S1 v w1 x1 rs1 rd1 q1 => q1 v w1 (Ext.refl w1) rs1 rd1⟩
theorem s_retN {pos : Pos} : SndS c (.Return none pos) .retN := by
  intro G k kx X W hx
  refine PS.imp ps_retN fun D σ H q => ?_
  obtain ⟨w, s, S, rfl, st, rs, q⟩ := q
  simp only [ex] at q
  exact q .non w (Ext.refl w) rs (by simp only [RD])
theorem s_if (hR : SndR R) {t : Expr} {t' : E} {a b : List Stmt} {a' b' : List St} {pos : Pos} (h : R c t = some t') (ha : SndB c a a') (hb : SndB c b b') : SndS c (.If t a b pos) (.ite t' a' b') := by
  intro G k kx X W hx
  refine PS.imp (ps_if ((hR c t t' h).pt hx.toCxOk hx.tk) (ha _ _ _ _ _ hx) (hb _ _ _ _ _ hx)) fun D σ H q => ?_
  obtain ⟨w, s, S, rfl, st, rs, q⟩ := q
  simp only [ex] at q
  refine ⟨w, s, S, rfl, st, rs, q.outB st fun b S1 w1 x1 rs1 q1 => ?_⟩
  cases b with
  | true => exact ⟨w1, s, S1, rfl, st.ext x1, rs1, q1⟩
  | false => exact ⟨w1, s, S1, rfl, st.ext x1, rs1, q1⟩
theorem s_while (hR : SndR R) {t : Expr} {t' : E} {a : List Stmt} {a' : List St} {pos : Pos} (h : R c t = some t') (ha : SndB c a a') : SndS c (.While t a [] pos) (.while t' a') := by
  intro G k kx X W hx
  refine PS.imp (ps_while hx.pass ((hR c t t' h).pt hx.toCxOk hx.tk) (ha _ _ _ _ _ hx)) fun D σ H q => ?_
  obtain ⟨w, s, S, rfl, st, rs, q⟩ := q
  simp only [ex] at q
  refine ⟨fun m σ H => ∃ w s S, w.H = H ∧ StR X.K w σ s ∧ RS X.K w S ∧ AftS kx X.K W D w (whileL (fun s S => tst (ev G t' s S)) (fun s S => exs G a' s S) m s S), ⟨whileMost, w, s, S, rfl, st, rs, q⟩, ?_⟩
  rintro m σ H ⟨w, s, S, rfl, st, rs, q⟩
  cases m with
  | zero => exact q.elim
  | succ m =>
    simp only [whileL] at q
    refine ⟨w, s, S, rfl, st, rs, ?_⟩
    dsimp only
    cases e : tst (ev G t' s S) with
    | no => rw [e] at q; exact q
    | exc x S1 => rw [e] at q; exact fun w1 x1 rs1 => q σ w1 x1 (st.ext x1) rs1
    | ok b S1 =>
      rw [e] at q
      intro b' w1 x1 rs1 eb
      subst eb
      cases b with
      | false =>
        simp only [Bool.false_eq_true, if_false]
        exact q σ w1 x1 (st.ext x1) rs1
      | true =>
        simp only [if_true]
        refine ⟨fun σ' H' => ∃ w s S, w.H = H' ∧ StR X.K w σ' s ∧ RS X.K w S ∧ AftS kx X.K W D w (whileL (fun s S => tst (ev G t' s S)) (fun s S => exs G a' s S) m s S), fun σ' H' h => ⟨m, by omega, h⟩, ?_⟩
        refine ⟨w1, s, S1, rfl, st.ext x1, rs1, ?_⟩
        dsimp only at q
        cases e2 : exs G a' s S1 with
        | nx s2 S2 =>
          rw [e2] at q
          exact fun σ' w' x st' rs' => ⟨w', s2, S2, rfl, st', rs', AftS.mono (o := whileL _ _ m s2 S2) q (x1.trans x)⟩
        | rt d S2 => rw [e2] at q; exact AftS.mono (o := .rt d S2) (D := { D with nx := _, ct := _, bk := D.nx }) q x1
        | exc _ _ _ => rw [e2] at q; exact AftS.mono (o := .exc _ _ _) (D := { D with nx := _, ct := _, bk := D.nx }) q x1
        | no => rw [e2] at q; exact q
theorem fnw_all {X : Cx} {is : List Nat} (h : ∀ x, X.fn x = true) : FnW c X is := fun x _ _ _ => .inl (h x)
theorem s_for (hR : SndR R) {tg it : Expr} {is : List Nat} {un : Bool} {kk : SK} {es : List E} {a : List Stmt} {a' : List St} {pos : Pos} (ht : trT c tg = some (is, un)) (h : trSrc R c tg it = some (kk, es)) (ha : SndB c a a') : SndS c (.For tg it a [] pos) (.for is un kk es a') := by
  intro G k kx X W hx
  obtain ⟨src, srcS⟩ := src_of hx.toCxOk hx.tk hR (trT_un ht) h
  refine PS.imp (ps_for hx.pass hx.calm src (pg_of hx.toCxOk ht (fnw_all hx.fn)) (ha _ _ _ _ _ hx) (srcS X.env)) fun D σ H q => ?_
  obtain ⟨w, s, S, rfl, st, rs, q⟩ := q
  simp only [ex] at q
  refine ⟨w, s, S, rfl, st, rs, ?_⟩
  have q' : AftS kx X.K W D w (match evI G kk es s S with
    | .ok p S1 => forL (fun d s => bindT is un d s) (fun s S => exs G a' s S) (chk p.1 p.2) p.1 s S1
    | .exc c S1 => .exc c s S1
    | .no => .no) := by
    refine q.eqv ?_
    unfold evI
    cases evs G es s S with
    | no => rfl
    | exc _ _ => rfl
    | ok ds S1 =>
      simp only [outL, bind_ok, srcR]
      cases items kk ds S1 with
      | none => rfl
      | some p => rfl
  cases e0 : evI G kk es s S with
  | no => rw [e0] at q'; exact q'
  | exc x S1 => rw [e0] at q'; exact fun w1 x1 rs1 => q' σ w1 x1 (st.ext x1) rs1
  | ok p S1 =>
    rw [e0] at q'
    intro J w1 x1 rs1 hJ
    refine ⟨fun i m σ H => ∃ w2 s2 S2, w2.H = H ∧ Ext w1 w2 ∧ StR X.K w2 σ s2 ∧ RS X.K w2 S2 ∧ m + i = p.1.length ∧ chk p.1 p.2 S2 = true ∧ AftS kx X.K W D w2 (forL (fun d s => bindT is un d s) (fun s S => exs G a' s S) (chk p.1 p.2) (p.1.drop i) s2 S2),
      ⟨p.1.length, w1, s, S1, rfl, Ext.refl w1, st.ext x1, rs1, rfl, evI_chk e0, AftS.mono (o := forL _ _ _ _ _ _) q' x1⟩, ?_⟩
    rintro i m σ2 H2 ⟨w2, s2, S2, rfl, x2, st2, rs2, hm, hk, q2⟩
    obtain ⟨walk1, walk2⟩ := hJ w2 S2 x2 rs2 hk
    cases hd : p.1[i]? with
    | none =>
      have hi' : i = p.1.length := by
        have := List.getElem?_eq_none_iff.mp hd
        omega
      left
      refine ⟨by rw [hi']; exact walk1, ?_⟩
      rw [hi', List.drop_length] at q2
      exact q2.nx_ st2 rs2
    | some d =>
      right
      obtain ⟨wg, wy⟩ := walk2 i d hd
      have hlt := (List.getElem?_eq_some_iff.mp hd).1
      have hdr : p.1.drop i = d :: p.1.drop (i + 1) := by
        rw [List.drop_eq_getElem_cons hlt]
        congr 1
        exact (List.getElem?_eq_some_iff.mp hd).2
      rw [hdr] at q2
      simp only [forL] at q2
      refine ⟨wg, fun σ' H' => ∃ m', m' < m ∧ ∃ w2 s2 S2, w2.H = H' ∧ Ext w1 w2 ∧ StR X.K w2 σ' s2 ∧ RS X.K w2 S2 ∧ m' + (i + 1) = p.1.length ∧ chk p.1 p.2 S2 = true ∧ AftS kx X.K W D w2 (forL (fun d s => bindT is un d s) (fun s S => exs G a' s S) (chk p.1 p.2) (p.1.drop (i + 1)) s2 S2), fun _ _ h => h, fun x H' y => ?_⟩
      obtain ⟨w3, rfl, x3, rs3, rd3⟩ := wy x H' y
      cases eb : bindT is un d s2 with
      | none => rw [eb] at q2; exact q2.elim
      | some s3 =>
        rw [eb] at q2
        refine gT_of (st2.ext x3) rd3 eb fun σ3 st3 _ => ⟨w3, s3, S2, rfl, st3, rs3, ?_⟩
        dsimp only at q2
        cases e2 : exs G a' s3 S2 with
        | nx s4 S4 =>
          rw [e2] at q2
          intro σ' w' x st' rs'
          dsimp only at q2
          split at q2
          · rename_i hk4
            exact ⟨m - 1, by omega, w', s4, S4, rfl, x2.trans (x3.trans x), st', rs', by omega, hk4, q2.mono (x3.trans x)⟩
          · exact q2.elim
        | rt d S2 => rw [e2] at q2; exact AftS.mono (o := .rt d S2) (D := { D with nx := _, ct := _, bk := D.nx }) q2 x3
        | exc _ _ _ => rw [e2] at q2; exact AftS.mono (o := .exc _ _ _) (D := { D with nx := _, ct := _, bk := D.nx }) q2 x3
        | no => rw [e2] at q2; exact q2
/-! ### assignments -/
theorem s_set (hR : SndR R) {x : Str} {xp pos : Pos} {e : Expr} {e' : E} {i : Nat} (hs : slotW c x = some i) (hw : ∀ (l : Nat) (env : PySem.Env), env.scope = c.sc → c.sc.kind = .function → swapsWith e (some (.Name x xp)) l env = pure false) (h : R c e = some e') : SndS c (.Assign [.Name x xp] e pos) (.set i e') := by
  intro G k kx X W hx
  obtain ⟨h1, h2⟩ := hx.slotw hs
  refine PS.imp (ps_set (by rw [hx.hN]; exact hx.nd) h1 h2 ((hR c e e' h).pe hx.toCxOk hx.tk) (hw _ _ hx.sc hx.kind) (.inl (hx.fn x))) fun D σ H q => ?_
  obtain ⟨w, s, S, rfl, st, rs, q⟩ := q
  simp only [ex] at q
  exact ⟨w, s, S, rfl, st, rs, q.outE st fun d S1 v w1 x1 rs1 rd1 q1 => q1 _ w1 (Ext.refl w1) ((st.ext x1).set rd1) rs1⟩
/-- x = [.. for ..] -/
theorem s_setC (hR : SndR R) {x : Str} {xp pos p : Pos} {elt tg it : Expr} {ifs : List Expr} {scope : Scope} {e' : E} {i : Nat} (hs : slotW c x = some i) (hw : swL c x xp p scope = true) (h : trComp R c elt tg it ifs scope = some e') :
    SndS c (.Assign [.Name x xp] (.ListComp elt [⟨tg, it, ifs, 0⟩] scope p) pos) (.set i e') ∧ SndS c (.Assign [.Name x xp] (.ListComp elt [⟨tg, it, ifs, 0⟩] scope p) pos) (.setM i e') := by
  obtain ⟨is, un, kk, es, cs, el, rfl, parts⟩ := comp_parts hR h
  obtain ⟨y1, y2, y3⟩ := sw_tr hw
  constructor
  all_goals
    intro G k kx X W hx
    obtain ⟨n1, n2⟩ := hx.slotw hs
    obtain ⟨wi, g, tt, te, h1, h2, h3, h4, h5, h6, h7⟩ := parts hx.toCxOk hx.tk
    refine PS.imp (ps_setLc hx.calm (by rw [hx.hN]; exact hx.nd) n1 (by rw [hx.sc]; exact y1) (sw_true (by rw [hx.sc]; exact hx.kind) (by rw [hx.sc]; exact y1) y2 y3) h1 h2 h3 h4 h5 h6) fun D σ H q => ?_
    refine h7 σ H _ ?_
    obtain ⟨w, s, S, rfl, st, rs, q⟩ := q
    simp only [ex, ev_comp] at q
    refine ⟨w, s, S, rfl, st, rs, ?_⟩
    cases e0 : compE G ((ownOf c.N scope).map (·.2)) is un kk es cs el s S with
    | no => rw [e0] at q; exact q
    | exc x S1 => rw [e0] at q; exact fun w1 x1 rs1 => q σ w1 x1 (st.ext x1) rs1
    | ok ys S1 =>
      rw [e0] at q
      intro v w1 x1 rs1 hn
      first
        | (obtain ⟨w2, e2, x2, rs2, rd2⟩ := hn.frz x1 rs1
           rw [← e2]
           exact q _ w2 x2 ((st.ext x2).set rd2) rs2)
        | (obtain ⟨w2, e2, x2, rs2, rd2⟩ := hn.sto x1 rs1
           rw [← e2]
           exact q _ w2 x2 ((st.ext x2).set rd2) rs2)
/-- a new list, by its form -/
structure SndM (c : Ct) (e : Expr) (e' : E) : Prop where
  pm : ∀ {G : Nat → List D → Sto → Res D} {k : Nat} {kx : Nat → Value} {X : Cx} {W : WX}, CxOk c G k kx X → Takes X W → PE X e (RdN kx X.K W fun s S => (ev G e' s S).bind fun d S => match d with
    | .lst xs => .ok xs S
    | _ => .no)
theorem Aft.lstN {kx : Nat → Value} {K : PySem.W.Frag} {W : WX} {σ : L2.St} {w w1 : Wd} {S : Sto} {Q : VK} {xs : List D} {vs : List V} (h : Aft kx K W σ (RNew K w) w1 (.ok xs S) Q) (x : Ext w w1) (hs : RS K w1 S) (hl : xs.length ≤ szL) (hr : RDs K w1 xs vs) : ∀ p, w1.H p = none → Q (.ref p) (upd w1.H p (.lst vs)) := fun p hp =>
  h (.ref p) (w1.new p (.lst vs)) (Ext.new hp) (hs.new hp) ⟨p, vs, rfl, x.fresh hs hp, upd_same, hs.notF hp, hs.notIn hp, hl, RDs.ext (Ext.new hp) _ _ hr⟩
theorem m_lst (hR : SndR R) {es : List Expr} {es' : List E} {pos : Pos} (hl : es.length ≤ 1000) (h : mapO (R c) es = some es') : SndM c (.List es pos) (.lst es') := by
  refine ⟨fun {G k' kx X W} hc tk => ?_⟩
  refine PE.imp (pe_lst (snd_list hR hc tk h)) fun σ H Q q => ?_
  obtain ⟨w, s, S, rfl, st, rs, q⟩ := q
  simp only [ev, bind_assoc, bind_ok] at q
  refine ⟨w, s, S, rfl, st, rs, q.bind fun ds S1 vs w1 e x1 rs1 rd1 q1 => ?_⟩
  have l : ds.length ≤ 1000 := by rw [evs_len es' S S1 ds e, mapO_len h]; exact hl
  have l2 := rd1.length
  exact ⟨by rw [l2, sizeLine_eq]; omega, q1.lstN x1 rs1 (by unfold szL; omega) rd1⟩
theorem ite_no {kx : Nat → Value} {K : PySem.W.Frag} {W : WX} {σ : L2.St} {w : Wd} {Rl : Wd → List D → V → Prop} {Q : VK} {P : Prop} [Decidable P] {d : D} {S : Sto} {f : D → Sto → Res (List D)} (h : Aft kx K W σ Rl w ((if P then Res.ok d S else .no).bind f) Q) (hf : f d S = .no := by rfl) : False := by
  by_cases hp : P
  · rw [if_pos hp, bind_ok, hf] at h; exact h
  · rw [if_neg hp] at h; exact h
theorem m_add (hR : SndR R) {a b : Expr} {a' b' : E} {pos : Pos} (h1 : R c a = some a') (h2 : R c b = some b') : SndM c (.BinOp a .Add b pos) (.pr .add [a', b']) := by
  refine ⟨fun {G k' kx X W} hc tk => ?_⟩
  refine PE.imp (pe_op op_addD ((hR c a a' h1).pe hc tk) ((hR c b b' h2).pe hc tk)) fun σ H Q q => ?_
  obtain ⟨w, s, S, rfl, st, rs, q⟩ := q
  simp only [ev, evs, bind_assoc, bind_ok] at q
  refine ⟨w, s, S, rfl, st, rs, q.bind fun d S1 v w1 _ x1 rs1 rd1 q1 => ⟨w1, s, S1, rfl, st.ext x1, rs1, q1.bind fun e S2 u w2 _ x2 rs2 rd2 q2 => ?_⟩⟩
  have ra := RV.of rs2 (RD.ext x2 _ _ rd1)
  have rb := RV.of rs2 rd2
  simp only [pr] at q2
  generalize Eng.rs S2 d = a' at ra q2
  generalize Eng.rs S2 e = b' at rb q2
  cases a' with
  | lst x =>
    cases b' with
    | lst y =>
      obtain ⟨p, vs, rfl, g1, g2, g3⟩ := ra.lstI
      obtain ⟨q, us, rfl, k1, k2, k3⟩ := rb.lstI
      have hg : x.length + y.length ≤ szL ∧ Aft kx X.K W σ (RNew X.K w) w2 (.ok (x ++ y) S2) Q := by
        simp only [gd] at q2
        by_cases hg : x.length + y.length ≤ szL
        · rw [if_pos hg] at q2; exact ⟨hg, q2⟩
        · rw [if_neg hg] at q2; exact q2.elim
      obtain ⟨hl, q3⟩ := hg
      have l1 := g3.length
      have l2 := k3.length
      exact .inr (.inr (.inr ⟨p, q, vs, us, rfl, rfl, g1, k1, by rw [l1, l2, ← szL_eq]; exact hl, q3.lstN (x1.trans x2) rs2 (by simpa using hl) (g3.append k3)⟩))
    | _ => exact q2.elim
  | int _ => cases b' <;> exact q2.elim
  | str _ =>
    cases b' with
    | str _ => simp only [gd] at q2; exact False.elim (ite_no q2)
    | _ => exact q2.elim
  | tup _ =>
    cases b' with
    | tup _ => simp only [gd] at q2; exact False.elim (ite_no q2)
    | _ => exact q2.elim
  | _ => cases b' <;> exact q2.elim
theorem s_setM {x : Str} {xp pos : Pos} {e : Expr} {e' : E} {i : Nat} (hs : slotW c x = some i) (hw : isComp e = false) (h : SndM c e e') : SndS c (.Assign [.Name x xp] e pos) (.setM i e') := by
  intro G k kx X W hx
  obtain ⟨h1, h2⟩ := hx.slotw hs
  refine PS.imp (ps_set (by rw [hx.hN]; exact hx.nd) h1 h2 (h.pm hx.toCxOk hx.tk) (sw_not hw _ _ _) (.inl (hx.fn x))) fun D σ H q => ?_
  obtain ⟨w, s, S, rfl, st, rs, q⟩ := q
  simp only [ex] at q
  refine ⟨w, s, S, rfl, st, rs, ?_⟩
  dsimp only
  cases e0 : ev G e' s S with
  | no => rw [e0] at q; exact q
  | exc x S1 => rw [e0] at q; exact fun w1 x1 rs1 => q σ w1 x1 (st.ext x1) rs1
  | ok d S1 =>
    rw [e0] at q
    cases d with
    | lst ys =>
      intro v w1 x1 rs1 hn
      obtain ⟨w2, e2, x2, rs2, rd2⟩ := hn.sto x1 rs1
      show D.nx _ _
      rw [← e2]
      exact q _ w2 x2 ((st.ext x2).set rd2) rs2
    | _ => exact q
theorem s_unp (hR : SndR R) {ts : List Expr} {kt : Nat} {tp pos : Pos} {e : Expr} {e' : E} {is : List Nat} (ht : mapO (nameIx c) ts = some is) (hn : isComp e = false) (hw : isTup e = false) (h : R c e = some e') : SndS c (.Assign [.Tuple ts kt tp] e pos) (.unp is e') := by
  intro G k kx X W hx
  have ht' : trT c (.Tuple ts kt tp) = some (is, true) := by simp only [trT, ht, Option.map_some]
  refine PS.imp (ps_asg ((hR c e e' h).pe hx.toCxOk hx.tk) (pg_of hx.toCxOk ht' (fnw_all hx.fn)) (show swapsWithSole [.Tuple ts kt tp] e pos.line X.env = pure false from sw_not hn (some (.Tuple ts kt tp)) pos.line X.env) (ss_not hw _)) fun D σ H q => ?_
  obtain ⟨w, s, S, rfl, st, rs, q⟩ := q
  simp only [ex] at q
  refine ⟨w, s, S, rfl, st, rs, q.outE st fun d S1 v w1 x1 rs1 rd1 q1 => ?_⟩
  cases eb : bindT is true d s with
  | none => rw [eb] at q1; exact q1.elim
  | some s1 =>
    rw [eb] at q1
    exact gT_of (st.ext x1) (.inl rd1) eb fun σ' st' _ => q1 σ' w1 (Ext.refl w1) st' rs1
theorem s_setI (hR : SndR R) {o i e : Expr} {op pos : Pos} {o' i' e' : E} (hn : isComp e = false) (h1 : R c o = some o') (h2 : R c i = some i') (h3 : R c e = some e') : SndS c (.Assign [.Subscript o i op] e pos) (.setI o' i' e') := by
  intro G k kx X W hx
  refine PS.imp (ps_dput (by have := hx.units; omega) ((hR c o o' h1).pe hx.toCxOk hx.tk) ((hR c i i' h2).pe hx.toCxOk hx.tk) ((hR c e e' h3).pe hx.toCxOk hx.tk) (sw_not hn _ _ _)) fun D σ H q => ?_
  obtain ⟨w, s, S, rfl, st, rs, q⟩ := q
  simp only [ex] at q
  refine ⟨w, s, S, rfl, st, rs, q.outE st fun d S1 v w1 x1 rs1 rd1 q1 => ⟨w1, s, S1, rfl, st.ext x1, rs1, q1.outE (st.ext x1) fun d2 S2 v2 w2 x2 rs2 rd2 q2 => ⟨w2, s, S2, rfl, (st.ext x1).ext x2, rs2, q2.outE ((st.ext x1).ext x2) fun d3 S3 v3 w3 x3 rs3 rd3 q3 => ?_⟩⟩⟩
  have st3 := ((st.ext x1).ext x2).ext x3
  obtain ⟨a, H4, e1, e2, e3⟩ := px_seti (Q := fun _ H => D.nx σ H) rs3 (RD.ext x3 _ _ rd2) rd3 (RD.ext (x2.trans x3) _ _ rd1) (q3.outE st3 fun d4 S4 v4 w4 x4 rs4 rd4 q4 => q4.nx_ (st3.ext x4) rs4)
  exact ⟨a, H4, e1, e2, e3⟩
/-! ### a, b = x, y -/
theorem s_parX (hR : SndR R) {ts es : List Expr} {kt k2 : Nat} {tp p2 pos : Pos} {es' : List E} {is : List Nat} (ht : mapO (nameIx c) ts = some is) (hl : es.length ≤ 1000) (hw : swX c ts es = true) (h : mapO (R c) es = some es') : SndS c (.Assign [.Tuple ts kt tp] (.Tuple es k2 p2) pos) (.par is es') := by
  intro G k kx X W hx
  have ht' : trT c (.Tuple ts kt tp) = some (is, true) := by simp only [trT, ht, Option.map_some]
  refine PS.imp (ps_asg ((snd_tuple hR hl h).pe hx.toCxOk hx.tk) (pg_of hx.toCxOk ht' (fnw_all hx.fn)) rfl (ss_none hx.sc hx.kind hw)) fun D σ H q => ?_
  obtain ⟨w, s, S, rfl, st, rs, q⟩ := q
  simp only [ex] at q
  have q' : AftS kx X.K W D w (outE s (ev G (.tup es') s S) fun d S => match bindT is true d s with
    | some s1 => .nx s1 S
    | none => .no) := by
    refine q.eqv ?_
    simp only [ev]
    cases evs G es' s S with
    | no => rfl
    | exc _ _ => rfl
    | ok ds S1 =>
      simp only [outL, bind_ok, outE, bindT]
      by_cases hl : ds.length = is.length
      · rw [if_pos hl, if_pos hl]
      · rw [if_neg hl, if_neg hl]
  refine ⟨w, s, S, rfl, st, rs, q'.outE st fun d S1 v w1 x1 rs1 rd1 q1 => ?_⟩
  cases eb : bindT is true d s with
  | none => rw [eb] at q1; exact q1.elim
  | some s1 =>
    rw [eb] at q1
    exact gT_of (st.ext x1) (.inl rd1) eb fun σ' st' _ => q1 σ' w1 (Ext.refl w1) st' rs1
theorem three_of {K : PySem.W.Frag} {w : Wd} {ds : List D} {vs : List V} (hl : ds.length = 3) (h : RDs K w ds vs) : ∃ d e f v u t, ds = [d, e, f] ∧ vs = [v, u, t] ∧ RD K w d v ∧ RD K w e u ∧ RD K w f t := by
  cases ds with
  | nil => cases hl
  | cons d r =>
    obtain ⟨v, r', rfl, h1, h2⟩ := h.cons_inv
    obtain ⟨e, f, u, t, rfl, rfl, h3, h4⟩ := two_of (by simpa using hl) h2
    exact ⟨d, e, f, v, u, t, rfl, rfl, h1, h3, h4⟩
theorem s_par2 (hR : SndR R) {x y : Str} {px py : Pos} {a b : Expr} {kt k2 : Nat} {tp p2 pos : Pos} {es' : List E} {i j : Nat} (hi : slotW c x = some i) (hj : slotW c y = some j) (hij : i ≠ j) (lx : c.sc.names.lookup x = some .local) (ly : c.sc.names.lookup y = some .local) (hw : swY c [.Name x px, .Name y py] [a, b] = true) (hn : swN c.sc [.Name x px, .Name y py] = [x, y])
    (h : mapO (R c) [a, b] = some es') : SndS c (.Assign [.Tuple [.Name x px, .Name y py] kt tp] (.Tuple [a, b] k2 p2) pos) (.par [i, j] es') := by
  intro G k kx X W hx
  obtain ⟨h1, _⟩ := hx.slotw hi
  obtain ⟨h2, _⟩ := hx.slotw hj
  refine PS.imp (ps_par hx.calm (by rw [hx.hN]; exact hx.nd) h1 h2 hij (by rw [hx.sc]; exact lx) (by rw [hx.sc]; exact ly) (snd_list hR hx.toCxOk hx.tk h) (by rw [ss_some hx.sc hx.kind hw, hn])) fun D σ H q => ?_
  obtain ⟨w, s, S, rfl, st, rs, q⟩ := q
  simp only [ex] at q
  refine ⟨w, s, S, rfl, st, rs, q.outL st fun ds S1 vs w1 e1 x1 rs1 rd1 q1 => ?_⟩
  obtain ⟨d, e, v, u, rfl, rfl, r1, r2⟩ := two_of (by rw [evs_len _ _ _ _ e1, mapO_len h] <;> rfl) rd1
  exact ⟨v, u, rfl, q1 _ w1 (Ext.refl w1) (((st.ext x1).set r1).set r2) rs1⟩
theorem s_par3 (hR : SndR R) {x y z : Str} {px py pz : Pos} {a b d : Expr} {kt k2 : Nat} {tp p2 pos : Pos} {es' : List E} {i j l : Nat} (hi : slotW c x = some i) (hj : slotW c y = some j) (hl : slotW c z = some l) (hij : i ≠ j) (hil : i ≠ l) (hjl : j ≠ l) (lx : c.sc.names.lookup x = some .local) (ly : c.sc.names.lookup y = some .local) (lz : c.sc.names.lookup z = some .local)
    (hw : swY c [.Name x px, .Name y py, .Name z pz] [a, b, d] = true) (hn : swN c.sc [.Name x px, .Name y py, .Name z pz] = [x, y, z])
    (h : mapO (R c) [a, b, d] = some es') : SndS c (.Assign [.Tuple [.Name x px, .Name y py, .Name z pz] kt tp] (.Tuple [a, b, d] k2 p2) pos) (.par [i, j, l] es') := by
  intro G k kx X W hx
  obtain ⟨h1, _⟩ := hx.slotw hi
  obtain ⟨h2, _⟩ := hx.slotw hj
  obtain ⟨h3, _⟩ := hx.slotw hl
  refine PS.imp (ps_par3 hx.calm (by rw [hx.hN]; exact hx.nd) h1 h2 h3 hij hil hjl (by rw [hx.sc]; exact lx) (by rw [hx.sc]; exact ly) (by rw [hx.sc]; exact lz) (snd_list hR hx.toCxOk hx.tk h) (by rw [ss_some hx.sc hx.kind hw, hn])) fun D σ H q => ?_
  obtain ⟨w, s, S, rfl, st, rs, q⟩ := q
  simp only [ex] at q
  refine ⟨w, s, S, rfl, st, rs, q.outL st fun ds S1 vs w1 e1 x1 rs1 rd1 q1 => ?_⟩
  obtain ⟨d, e, f, v, u, t, rfl, rfl, r1, r2, r3⟩ := three_of (by rw [evs_len _ _ _ _ e1, mapO_len h] <;> rfl) rd1
  exact ⟨v, u, t, rfl, q1 _ w1 (Ext.refl w1) ((((st.ext x1).set r1).set r2).set r3) rs1⟩
/-- x, y = [], e: x is changed later -/
theorem s_parL (hR : SndR R) {x y : Str} {px py lp : Pos} {b : Expr} {kt k2 : Nat} {tp p2 pos : Pos} {b' : E} {i j : Nat} (hi : slotW c x = some i) (hj : slotW c y = some j) (hij : i ≠ j) (lx : c.sc.names.lookup x = some .local) (ly : c.sc.names.lookup y = some .local) (hw : swY c [.Name x px, .Name y py] [.List [] lp, b] = true) (hn : swN c.sc [.Name x px, .Name y py] = [x, y])
    (h : R c b = some b') : SndS c (.Assign [.Tuple [.Name x px, .Name y py] kt tp] (.Tuple [.List [] lp, b] k2 p2) pos) (.parL i j b') := by
  intro G k kx X W hx
  obtain ⟨h1, _⟩ := hx.slotw hi
  obtain ⟨h2, _⟩ := hx.slotw hj
  have sb := hR c b b' h
  refine PS.imp (ps_par hx.calm (by rw [hx.hN]; exact hx.nd) h1 h2 hij (by rw [hx.sc]; exact lx) (by rw [hx.sc]; exact ly) (pa_cons ((m_lst hR (es := []) (es' := []) (by simp) rfl).pm hx.toCxOk hx.tk) (pa_cons (sb.pe hx.toCxOk hx.tk) pa_nil (star_of sb.pl [] X.env)) (star_of rfl _ _)) (by rw [ss_some hx.sc hx.kind hw, hn])) fun D σ H q => ?_
  obtain ⟨w, s, S, rfl, st, rs, q⟩ := q
  simp only [ex] at q
  refine ⟨w, s, S, rfl, st, rs, ?_⟩
  simp only [ev, evs, bind_ok]
  intro v w1 x1 rs1 hn1
  obtain ⟨w2, e2, x2, rs2, rd2⟩ := hn1.sto x1 rs1
  refine ⟨w2, s, S ++ [.lst []], e2, st.ext x2, rs2, (q.mono x2).outE (st.ext x2) fun d S3 u w3 x3 rs3 rd3 q3 => ?_⟩
  exact ⟨v, u, rfl, q3 _ w3 (Ext.refl w3) ((((st.ext x2).ext x3).set (RD.ext x3 _ _ rd2)).set rd3) rs3⟩
theorem s_parLL (hR : SndR R) {x y : Str} {px py lp lq : Pos} {kt k2 : Nat} {tp p2 pos : Pos} {i j : Nat} (hi : slotW c x = some i) (hj : slotW c y = some j) (hij : i ≠ j) (lx : c.sc.names.lookup x = some .local) (ly : c.sc.names.lookup y = some .local) (hw : swY c [.Name x px, .Name y py] [.List [] lp, .List [] lq] = true) (hn : swN c.sc [.Name x px, .Name y py] = [x, y]) :
    SndS c (.Assign [.Tuple [.Name x px, .Name y py] kt tp] (.Tuple [.List [] lp, .List [] lq] k2 p2) pos) (.parLL i j) := by
  intro G k kx X W hx
  obtain ⟨h1, _⟩ := hx.slotw hi
  obtain ⟨h2, _⟩ := hx.slotw hj
  refine PS.imp (ps_par hx.calm (by rw [hx.hN]; exact hx.nd) h1 h2 hij (by rw [hx.sc]; exact lx) (by rw [hx.sc]; exact ly) (pa_cons ((m_lst hR (es := []) (es' := []) (by simp) rfl).pm hx.toCxOk hx.tk) (pa_cons ((m_lst hR (es := []) (es' := []) (by simp) rfl).pm hx.toCxOk hx.tk) pa_nil (star_of rfl _ _)) (star_of rfl _ _)) (by rw [ss_some hx.sc hx.kind hw, hn])) fun D σ H q => ?_
  obtain ⟨w, s, S, rfl, st, rs, q⟩ := q
  simp only [ex] at q
  refine ⟨w, s, S, rfl, st, rs, ?_⟩
  simp only [ev, evs, bind_ok]
  intro v w1 x1 rs1 hn1
  obtain ⟨w2, e2, x2, rs2, rd2⟩ := hn1.sto x1 rs1
  refine ⟨w2, s, S ++ [.lst []], e2, st.ext x2, rs2, ?_⟩
  simp only [ev, evs, bind_ok]
  intro u w3 x3 rs3 hn3
  obtain ⟨w4, e4, x4, rs4, rd4⟩ := hn3.sto x3 rs3
  rw [List.length_append, List.length_singleton] at rd4
  rw [List.append_assoc] at rs4
  refine ⟨v, u, rfl, ?_⟩
  show D.nx _ _
  rw [← e4]
  exact q _ w4 (x2.trans x4) ((((st.ext x2).ext x4).set (RD.ext x4 _ _ rd2)).set rd4) rs4

/-! ### raise, try -/
theorem s_raise {x m : Str} {j i : Nat} {p p2 pos' pos : Pos} (hg : isGl c x = true) (he : c.g.excs ≠ []) (hi : wNames[i]? = some x) : SndS c (.Raise (some (.Call (.Name x p) [.Constant (.str m) j p2] [] pos')) none pos) (.raise i) := by
  intro G k kx X W hx
  obtain ⟨C, M, f, fd, l, pa, sc, h1, h2, h3, h4, h5, _⟩ := hx.exc he
  have hi9 := wN_lt hi
  obtain ⟨q1, q2, q3, q4⟩ := h5 i hi9
  obtain ⟨g1, g2, _, _⟩ := hx.gl hg
  refine PS.imp (ps_raise hx.calm hx.tk (pmk_own PySem.F.excBase_ValueError q1 (h2.at_ i x hi) q2 (raises_own q3 q4) g1 g2)) fun D σ H q => ?_
  obtain ⟨w, s, S, rfl, st, rs, q⟩ := q
  simp only [ex] at q
  have := q σ w (Ext.refl w) st rs
  rw [h1 i hi9] at this
  exact this
theorem gr_ext {K : PySem.W.Frag} {w : Wd} {H' : Hp} (g : Gr w.H H') : Ext w ⟨H', w.F, w.r⟩ :=
  ⟨⟨fun b xs h => (g b (by rw [h]; simp)).trans h, fun b o u h => (g b (by rw [h]; simp)).trans h, fun b xs _ h => (g b (by rw [h]; simp)).trans h, fun b h => h, ⟨[], by simp⟩⟩, fun b h1 h2 h3 => ⟨g b h3, h1, h2⟩⟩
theorem gr_rs {K : PySem.W.Frag} {w : Wd} {S : Sto} {H' : Hp} (rs : RS K w S) (g : Gr w.H H') : RS K ⟨H', w.F, w.r⟩ S :=
  ⟨rs.len, rs.nd, rs.apart, fun a f => by rw [show (⟨H', w.F, w.r⟩ : Wd).H a = w.H a from g a (rs.live a f)]; exact rs.live a f, fun n a o e1 e2 => (rs.obj n a o e1 e2).wk (gr_ext (K := K) g).toWk (g a (rs.mem (List.mem_of_getElem? e1)))⟩
/-- return _law_word(e), e the handled error -/
theorem pe_wcall {K : PySem.W.Frag} {X : Cx} {C : Nat → Addr} {f a : Addr} {fd : FuncData} {l i j : Nat} {pa : Arguments} {sc : Scope} {oe : Obj} {n : Str} {p p2 pos : Pos} (hK : X.K = K) (hp : (a, oe) ∈ X.pn) (hd : X.A.depth < recursionLimit) (hg : Gl X "_law_word") (hm : X.mg "_law_word" = some (.ref f))
    (F : FunD K "_law_word" "_law_word" pa (wordAst l) sc [] [] f fd) (S : FnScope ["kept", "kinds", "some"] ["kept"] sc) (hsc : wordSc sc) (hw : WK K X.mg C) (hb : Binds K fd ["kept"] []) (hj : j < 9) (hz : Zc (.ref (C j)) none oe) (hf : ∃ vs, oe.data = .fields vs) (hn : PE X (.Name n p2) (tVar i)) :
    PE X (.Call (.Name "_law_word" p) [.Name n p2] [] pos) (fun σ H Q => σ[i]? = some (some (.ref a)) ∧ ∀ H', Gr H H' → Q (.str (wText j)) H') := by
  subst hK
  refine ⟨fun pins s σ H Q I h => ?_⟩
  refine wpAny_Call_Name_kw (ld_glob I hg hm ?_ (by decide))
  refine PySem.W.callWith_K (h₀ := X.base) I.ok.mod.kin F.kp (thn ((pa_cons hn pa_nil).run pos pins s σ H (fun vs H1 => vs = [V.ref a] ∧ H1 = H) I ⟨_, h.1, rfl, rfl⟩) fun us s1 hh => ?_) rfl rfl
  obtain ⟨vs, H1, I1, r, rfl, rfl⟩ := hh
  refine ⟨I1.kIn, ?_⟩
  cases r with
  | cons ru rn =>
    cases rn
    cases ru
    have b := hb s1 [.ref a] I1.kIn rfl
    rw [List.append_nil] at b
    have P1 := I1.pin (a, oe) (List.mem_append_left _ hp)
    have hpin : L2H.PinOk X.stack H1 s1 (a, oe) := ⟨P1.1, P1.2.1, fun hm => (List.mem_cons.mp (I1.stkSub a hm)).elim P1.2.2.1 P1.2.2.2.1, P1.2.2.2.2⟩
    refine wpAny_call (codeAny_mono (word_call (CX := L2.CX0) (Q := Q) (E := fun _ _ _ => False) F S hsc hw hj hd hpin I1.env0 b hz hf h.2) fun r s' hq => ?_)
    cases r with
    | error e => exact False.elim hq
    | ok fl =>
      cases fl with
      | ret u => exact I1.after hq
      | next => exact False.elim hq
      | brk => exact False.elim hq
      | cont => exact False.elim hq
theorem wText_cps {j : Nat} {t : List Nat} (h : wTextsD[j]? = some t) : j < 9 ∧ V.str (wText j) = .str (sv t) ∧ okS t := by
  have hj : j < 9 := (List.getElem?_eq_some_iff.mp h).1
  have key : ∀ j : Fin 9, wTextsD[j.1]? = some (wText j.1).cps.toList ∧ okS (wText j.1).cps.toList := by
    intro j
    constructor
    · revert j; decide +kernel
    · revert j
      unfold okS
      decide +kernel
  obtain ⟨k1, k2⟩ := key ⟨j, hj⟩
  rw [h] at k1
  cases k1
  exact ⟨hj, by congr 1, k2⟩
theorem s_try {body : List Stmt} {body' : List St} {x f n : Str} {i : Nat} {np p p2 p3 p4 p5 pos : Pos} (hx1 : isGl c x = true) (hx2 : x = "MendError") (hf1 : isGl c f = true) (hf2 : f = "_law_word") (hn1 : slotR c n = some i) (hn2 : c.sc.names.lookup n = some .local) (he : c.g.excs ≠ []) (hb : SndB c body body') :
    SndS c (.Try body [.ExceptHandler (some (.Name x np)) (some n) [.Return (some (.Call (.Name f p) [.Name n p2] [] p3)) p4] p5] [] [] pos) (.tryw body' wTextsD) := by
  intro G k kx X W hx
  subst hx2 hf2
  obtain ⟨C, M, f, fd, l, pa, sc, h1, h2, h3, h4, h5, h6, h7, h8, h9, h10⟩ := hx.exc he
  obtain ⟨g1, g2, _, _⟩ := hx.gl hx1
  obtain ⟨g3, _, _, _⟩ := hx.gl hf1
  obtain ⟨n1, n2, n3, n4⟩ := hx.slot hn1
  have hk : X.env.kindOf n = some .local := by unfold PySem.Env.kindOf; rw [hx.sc]; exact hn2
  refine PS.imp (ps_try_as (Wout := W) (tb := fun W' => RdS kx X.K W' (exs G body')) (ts := fun a cls d D' σ H => (i < σ.length → σ[i]? = some (some (.ref a))) ∧ ∃ j, j < 9 ∧ cls = .ref (C j) ∧ d = none ∧ ∀ H', Gr H H' → D'.rt (.str (wText j)) H') hx.stk hx.frm (by rw [hx.hN]; exact hx.nd) n1 hk ⟨g1, g2, .inl h3⟩ hx.tk
    (fun W' pn xe tk po => ?_) (fun a oe cls d pn hz hf => ?_)) fun D σ H q => ?_
  · exact hb G k kx (X.tr pn xe) W' ⟨⟨hx.hN, hx.nd, hx.sc, hx.calm, hx.room, hx.con, hx.bui, hx.fns, hx.exc⟩, tk, po, hx.fn, hx.kind, hx.stk, hx.frm⟩
  · refine ⟨fun pins s σ H D' I q => ?_⟩
    obtain ⟨q0, j, hj, rfl, rfl, q⟩ := q
    have w := pe_wcall (X := X.suite a ((a, oe) :: pn)) (a := a) (oe := oe) (n := n) (p := p) (p2 := p2) (pos := p3) (i := i) rfl List.mem_cons_self (by have := hx.room.dp; show X.A.depth < _; omega) g3 h6 h7 h8 h9 h2 h10 hj hz hf (pe_var n1 n2 n3 n4)
    exact (pss_cons (ps_ret (pos := p4) w) pss_nil).run pins s σ H D' I ⟨q0 (by rw [I.len]; exact (List.getElem?_eq_some_iff.mp n1).1), q⟩
  · obtain ⟨w, s, S, rfl, st, rs, q⟩ := q
    refine ⟨w, s, S, rfl, st, rs, ?_⟩
    simp only [ex] at q
    cases e : exs G body' s S with
    | nx s1 S1 => rw [e] at q; exact q
    | rt d S1 => rw [e] at q; exact q
    | no => rw [e] at q; exact q
    | exc cc s1 S1 =>
      rw [e] at q
      dsimp only at q
      cases e2 : wTextsD[cc]? with
      | none => rw [e2] at q; exact q.elim
      | some t =>
        rw [e2] at q
        obtain ⟨hj, k1, k2⟩ := wText_cps e2
        intro σ' w' x st' rs'
        rw [h1 cc hj]
        refine ⟨true, h4 cc hj, fun _ a ha => ⟨fun hil => by rw [List.getElem?_set_self (by simpa using hil)], cc, hj, rfl, rfl, fun H' g => ?_⟩, fun z => by cases z⟩
        show D.rt _ H'
        rw [k1]
        exact q _ ⟨H', w'.F, w'.r⟩ (x.trans (gr_ext (K := X.K) g)) (gr_rs rs' g) (by simp only [RD]; first | exact ⟨rfl, k2⟩ | exact ⟨trivial, k2⟩)
/-! ### every statement -/
def kindF (sc : Scope) : Bool := match sc.kind with
  | .function => true
  | _ => false
section
variable (R : Rec) (mv : List Str) (c : Ct)
def trSet (x : Str) (xp : Pos) (e : Expr) : Option St := match slotW c x with
  | none => none
  | some i => if x ∈ mv then (match e with
      | .List es _ => if es.length ≤ 1000 then (mapO (R c) es).map fun es' => .setM i (.lst es') else none
      | .BinOp a .Add b _ => match R c a, R c b with
        | some a', some b' => some (.setM i (.pr .add [a', b']))
        | _, _ => none
      | .ListComp elt [⟨tg, it, ifs, a⟩] scope p => if a = 0 ∧ swL c x xp p scope = true then (trComp R c elt tg it ifs scope).map fun e' => .setM i e' else none
      | _ => none)
    else match e with
      | .ListComp elt [⟨tg, it, ifs, a⟩] scope p => if a = 0 then (if swL c x xp p scope = true then (trComp R c elt tg it ifs scope).map fun e' => .set i e' else (R c (.ListComp elt [⟨tg, it, ifs, a⟩] scope p)).map fun e' => .set i e') else none
      | e => if isComp e = false then (R c e).map fun e' => .set i e' else none
def isNil : Expr → Bool
  | .List [] _ => true
  | _ => false
/-- x, y = [], e with x changed later -/
def trParL (ts es : List Expr) : Option St := match ts, es with
  | [.Name x px, .Name y py], [.List [] lp, b] => match slotW c x, slotW c y with
    | some i, some j => if i ≠ j ∧ c.sc.names.lookup x = some .local ∧ c.sc.names.lookup y = some .local ∧ swN c.sc [.Name x px, .Name y py] = [x, y] ∧ swY c [.Name x px, .Name y py] [.List [] lp, b] = true ∧ x ∈ mv then
        (if y ∈ mv then (match b with
          | .List [] _ => some (.parLL i j)
          | _ => none) else (R c b).map fun b' => .parL i j b') else none
    | _, _ => none
  | _, _ => none
def trPar (ts es : List Expr) : Option St := match mapO (nameIx c) ts, mapO (R c) es with
  | some is, some es' => if swX c ts es = true ∧ es.length ≤ 1000 then some (.par is es') else if swY c ts es = true then (match ts, es with
      | [.Name x px, .Name y py], [a, b] => if is.Nodup ∧ c.sc.names.lookup x = some .local ∧ c.sc.names.lookup y = some .local ∧ swN c.sc ts = [x, y] then some (.par is es') else none
      | [.Name x px, .Name y py, .Name z pz], [a, b, d] => if is.Nodup ∧ c.sc.names.lookup x = some .local ∧ c.sc.names.lookup y = some .local ∧ c.sc.names.lookup z = some .local ∧ swN c.sc ts = [x, y, z] then some (.par is es') else none
      | _, _ => none) else none
  | _, _ => none
def trAsg (tg e : Expr) : Option St := match tg with
  | .Name x xp => trSet R mv c x xp e
  | .Tuple ts _ _ => (match e with
    | .Tuple es _ _ => (match trParL R mv c ts es with
      | some st => some st
      | none => trPar R c ts es)
    | e => if isComp e = false ∧ isTup e = false then (match mapO (nameIx c) ts, R c e with
      | some is, some e' => some (.unp is e')
      | _, _ => none) else none)
  | .Subscript o i _ => if isComp e = false then (match R c o, R c i, R c e with
      | some o', some i', some e' => some (.setI o' i' e')
      | _, _, _ => none) else none
  | _ => none
def trS : Nat → Stmt → Option St
  | 0, _ => none
  | n + 1, st => match st with
    | .Pass _ => some .pass
    | .Raise e cz _ => (match e, cz with
      | some (.Call (.Name x _) [.Constant (.str _) _ _] [] _), none => if isGl c x = true ∧ c.g.excs ≠ [] then (match c.g.excs.lookup x with
        | some i => if wNames[i]? = some x then some (.raise i) else none
        | none => none) else some (.expr (.pr .len []))
      | _, _ => some (.expr (.pr .len [])))
    | .Try b hs oe fi _ => (match hs, oe, fi with
      | [.ExceptHandler (some (.Name x _)) (some nn) [.Return (some (.Call (.Name f _) [.Name m _] [] _)) _] _], [], [] =>
        if isGl c x = true ∧ x = "MendError" ∧ isGl c f = true ∧ f = "_law_word" ∧ m = nn ∧ c.sc.names.lookup nn = some .local ∧ (slotR c nn).isSome = true ∧ c.g.excs ≠ [] then (mapO (trS n) b).map fun b' => .tryw b' wTextsD else none
      | _, _, _ => none)
    | .Expr e _ => (match e with
      | .Constant (.str _) _ _ => some .pass
      | e => if isComp e = false then (R c e).map .expr else none)
    | .Return o _ => (match o with
      | none => some .retN
      | some e => (R c e).map .ret)
    | .If t a b _ => (match R c t, mapO (trS n) a, mapO (trS n) b with
      | some t', some a', some b' => some (.ite t' a' b')
      | _, _, _ => none)
    | .While t a o _ => (match o with
      | [] => match R c t, mapO (trS n) a with
        | some t', some a' => some (.while t' a')
        | _, _ => none
      | _ => none)
    | .For tg it a o _ => (match o with
      | [] => match trT c tg, trSrc R c tg it, mapO (trS n) a with
        | some (is, un), some (k, es), some a' => some (.for is un k es a')
        | _, _, _ => none
      | _ => none)
    | .Assign tgs e _ => (match tgs with
      | [tg] => trAsg R mv c tg e
      | _ => none)
    | _ => none
end
theorem s_trSet (hR : SndR R) (hF : SndR fun c e => trF R c e) {mv : List Str} {x : Str} {xp pos : Pos} {e : Expr} {st' : St} (h : trSet R mv c x xp e = some st') : SndS c (.Assign [.Name x xp] e pos) st' := by
  unfold trSet at h
  split at h
  · cases h
  · rename_i i hs
    split at h
    · split at h
      · split at h
        · rename_i hl
          obtain ⟨es', e1, rfl⟩ := Option.map_eq_some_iff.mp h
          exact s_setM hs rfl (m_lst hR hl e1)
        · cases h
      · split at h
        · rename_i a' b' e1 e2
          cases h
          exact s_setM hs rfl (m_add hR e1 e2)
        · cases h
      · split at h
        · rename_i hl
          obtain ⟨rfl, hl⟩ := hl
          obtain ⟨es', e1, rfl⟩ := Option.map_eq_some_iff.mp h
          exact (s_setC hR hs hl e1).2
        · cases h
      · cases h
    · split at h
      · split at h
        · rename_i ha; subst ha
          split at h
          · rename_i hl
            obtain ⟨es', e1, rfl⟩ := Option.map_eq_some_iff.mp h
            exact (s_setC hR hs hl e1).1
          · rename_i hl
            obtain ⟨es', e1, rfl⟩ := Option.map_eq_some_iff.mp h
            exact s_set hR hs (fun l env q1 q2 => sw_false q1 q2 (by simpa using hl)) e1
        · cases h
      · split at h
        · rename_i hn
          obtain ⟨es', e1, rfl⟩ := Option.map_eq_some_iff.mp h
          exact s_set hR hs (fun l env _ _ => sw_not hn _ _ _) e1
        · cases h
theorem mapO2 {a b : Type} {f : a → Option b} {x y : a} {r : List b} (h : mapO f [x, y] = some r) : ∃ p q, f x = some p ∧ f y = some q ∧ r = [p, q] := by
  obtain ⟨p, r1, h1, h2, rfl⟩ := mapO_cons h
  obtain ⟨q, r2, h3, h4, rfl⟩ := mapO_cons h2
  simp only [mapO, Option.some.injEq] at h4
  subst h4
  exact ⟨p, q, h1, h3, rfl⟩
theorem mapO3 {a b : Type} {f : a → Option b} {x y z : a} {r : List b} (h : mapO f [x, y, z] = some r) : ∃ p q t, f x = some p ∧ f y = some q ∧ f z = some t ∧ r = [p, q, t] := by
  obtain ⟨p, r1, h1, h2, rfl⟩ := mapO_cons h
  obtain ⟨q, t, h3, h4, rfl⟩ := mapO2 h2
  exact ⟨p, q, t, h1, h3, h4, rfl⟩
theorem s_trParL (hR : SndR R) {mv : List Str} {ts es : List Expr} {kt k2 : Nat} {tp p2 pos : Pos} {st' : St} (h : trParL R mv c ts es = some st') : SndS c (.Assign [.Tuple ts kt tp] (.Tuple es k2 p2) pos) st' := by
  unfold trParL at h
  split at h
  · split at h
    · rename_i i j hi hj
      split at h
      · rename_i hq
        obtain ⟨q1, q2, q3, q4, q5, q6⟩ := hq
        split at h
        · split at h
          · cases h
            exact s_parLL hR hi hj q1 q2 q3 q5 q4
          · cases h
        · obtain ⟨b', e1, rfl⟩ := Option.map_eq_some_iff.mp h
          exact s_parL hR hi hj q1 q2 q3 q5 q4 e1
      · cases h
    · cases h
  · cases h
theorem s_trPar (hR : SndR R) {ts es : List Expr} {kt k2 : Nat} {tp p2 pos : Pos} {st' : St} (h : trPar R c ts es = some st') : SndS c (.Assign [.Tuple ts kt tp] (.Tuple es k2 p2) pos) st' := by
  unfold trPar at h
  split at h
  · rename_i is es' h1 h2
    split at h
    · rename_i hw
      cases h
      exact s_parX hR h1 hw.2 hw.1 h2
    · split at h
      · rename_i hw
        split at h
        · split at h
          · rename_i hq
            cases h
            obtain ⟨i, j, a1, a2, rfl⟩ := mapO2 h1
            simp only [nameIx] at a1 a2
            have nd := hq.1
            simp at nd
            exact s_par2 hR a1 a2 nd hq.2.1 hq.2.2.1 hw hq.2.2.2 h2
          · cases h
        · split at h
          · rename_i hq
            cases h
            obtain ⟨i, j, l, a1, a2, a3, rfl⟩ := mapO3 h1
            simp only [nameIx] at a1 a2 a3
            have nd := hq.1
            simp at nd
            exact s_par3 hR a1 a2 a3 nd.1.1 nd.1.2 nd.2 hq.2.1 hq.2.2.1 hq.2.2.2.1 hw hq.2.2.2.2 h2
          · cases h
        · cases h
      · cases h
  · cases h
theorem s_trAsg (hR : SndR R) (hF : SndR fun c e => trF R c e) {mv : List Str} {tg e : Expr} {pos : Pos} {st' : St} (h : trAsg R mv c tg e = some st') : SndS c (.Assign [tg] e pos) st' := by
  unfold trAsg at h
  split at h
  · exact s_trSet hR hF h
  · split at h
    · split at h
      · rename_i e1
        cases h
        exact s_trParL hR e1
      · exact s_trPar hR h
    · split at h
      · rename_i hn
        split at h
        · rename_i is e' e1 e2
          cases h
          exact s_unp hR e1 hn.1 hn.2 e2
        · cases h
      · cases h
  · split at h
    · rename_i hn
      split at h
      · rename_i o' i' e' e1 e2 e3
        cases h
        exact s_setI hR hn e1 e2 e3
      · cases h
    · cases h
  · cases h
theorem s_all (hR : SndR R) (hF : SndR fun c e => trF R c e) {mv : List Str} : ∀ (n : Nat) (st : Stmt) (st' : St), trS R mv c n st = some st' → SndS c st st'
  | 0, st, st', h => by simp [trS] at h
  | n + 1, st, st', h => by
    have ih := s_all hR hF (mv := mv) n
    unfold trS at h
    split at h
    · cases h; exact s_pass
    · split at h
      · split at h
        · rename_i hg
          split at h
          · rename_i i hi
            split at h
            · rename_i hw
              cases h
              exact s_raise hg.1 hg.2 hw
            · cases h
          · cases h
        · cases h; exact s_never
      · cases h; exact s_never
    · split at h
      · split at h
        · rename_i hq
          obtain ⟨q1, q2, q3, q4, q5, q6, q7, q8⟩ := hq
          obtain ⟨b', e1, rfl⟩ := Option.map_eq_some_iff.mp h
          obtain ⟨i, hi⟩ := Option.isSome_iff_exists.mp q7
          subst q5
          exact s_try q1 q2 q3 q4 hi q6 q8 (sndB_of ih e1)
        · cases h
      · cases h
    · split at h
      · cases h; exact s_doc
      · split at h
        · rename_i hn
          obtain ⟨e', e1, rfl⟩ := Option.map_eq_some_iff.mp h
          exact s_expr hR hn e1
        · cases h
    · split at h
      · cases h; exact s_retN
      · obtain ⟨e', e1, rfl⟩ := Option.map_eq_some_iff.mp h
        exact s_ret hR e1
    · split at h
      · rename_i t' a' b' e1 e2 e3
        cases h
        exact s_if hR e1 (sndB_of ih e2) (sndB_of ih e3)
      · cases h
    · split at h
      · split at h
        · rename_i t' a' e1 e2
          cases h
          exact s_while hR e1 (sndB_of ih e2)
        · cases h
      · cases h
    · split at h
      · split at h
        · rename_i is un k es a' e1 e2 e3
          cases h
          exact s_for hR e1 e2 (sndB_of ih e3)
        · cases h
      · cases h
    · split at h
      · exact s_trAsg hR hF h
      · cases h
    · cases h
end Eng

/-! Eng16 -/
set_option Elab.async false
set_option linter.all false
set_option maxRecDepth 100000
set_option maxHeartbeats 4000000
/-! Defs. -/
namespace Eng
open PySem PySem.Spec PyProof.Rows L2

/-! ### a def ends -/
mutual
def D.low (n : Nat) : D → Bool
  | .tup xs => D.lows n xs
  | .lst xs => D.lows n xs
  | .loc l => decide (l < n)
  | _ => true
def D.lows (n : Nat) : List D → Bool
  | [] => true
  | x :: xs => x.low n && D.lows n xs
end
mutual
theorem pure_below (n : Nat) : ∀ d : D, d.pure = true → d.low n = true
  | .non, _ => by simp only [D.low]
  | .bl _, _ => by simp only [D.low]
  | .int _, _ => by simp only [D.low]
  | .str _, _ => by simp only [D.low]
  | .scr _, _ => by simp only [D.low]
  | .tup xs, h => by simp only [D.pure] at h; simp only [D.low]; exact pures_below n xs h
  | .lst xs, h => by simp only [D.pure] at h; simp only [D.low]; exact pures_below n xs h
  | .loc _, h => by simp [D.pure] at h
theorem pures_below (n : Nat) : ∀ ds : List D, D.pures ds = true → D.lows n ds = true
  | [], _ => by simp only [D.lows]
  | x :: xs, h => by
    simp only [D.pures, Bool.and_eq_true] at h
    simp only [D.lows, Bool.and_eq_true]
    exact ⟨pure_below n x h.1, pures_below n xs h.2⟩
end
section
variable {K : PySem.W.Frag} {w w' : Wd}
mutual
theorem RD.low : ∀ (d : D) (v : V), RD K w d v → d.low w.r.length = true
  | .non, _, _ => by simp only [D.low]
  | .bl _, _, _ => by simp only [D.low]
  | .int _, _, _ => by simp only [D.low]
  | .str _, _, _ => by simp only [D.low]
  | .scr _, _, _ => by simp only [D.low]
  | .tup xs, v, h => by
    obtain ⟨a, vs, rfl, h1, h2, h3⟩ := h.tupI
    simp only [D.low]; exact RDs.low xs vs h3
  | .lst xs, v, h => by
    obtain ⟨a, vs, rfl, h1, h2, h3⟩ := h.lstI
    simp only [D.low]; exact RDs.low xs vs h3
  | .loc l, v, h => by
    obtain ⟨a, rfl, e⟩ := h.locI
    simp only [D.low]
    exact decide_eq_true (List.getElem?_eq_some_iff.mp e).1
theorem RDs.low : ∀ (ds : List D) (vs : List V), RDs K w ds vs → D.lows w.r.length ds = true
  | [], _, _ => by simp only [D.lows]
  | x :: xs, vs, h => by
    obtain ⟨v, r, rfl, h1, h2⟩ := h.cons_inv
    simp only [D.lows, Bool.and_eq_true]
    exact ⟨RD.low x v h1, RDs.low xs r h2⟩
end
/-- the same heap, a shorter store -/
structure Cut (n : Nat) (w w' : Wd) : Prop where
  H : w'.H = w.H
  F : ∀ b, w.F b → w'.F b
  r : ∀ l a, l < n → w.r[l]? = some a → w'.r[l]? = some a
mutual
theorem RD.cutW {n : Nat} (x : Cut n w w') : ∀ (d : D) (v : V), d.low n = true → RD K w d v → RD K w' d v
  | .non, _, _, h => by simpa only [RD] using h
  | .bl _, _, _, h => by simpa only [RD] using h
  | .int _, _, _, h => by simpa only [RD] using h
  | .str _, _, _, h => by simpa only [RD] using h
  | .tup xs, v, hb, h => by
    simp only [D.low] at hb
    simp only [RD] at h ⊢
    obtain ⟨a, vs, e, h1, h2, h3⟩ := h
    exact ⟨a, vs, e, let ⟨o, g1, g2⟩ := h1; ⟨o, by rw [x.H]; exact g1, g2⟩, h2, RDs.cutW x xs vs hb h3⟩
  | .lst xs, v, hb, h => by
    simp only [D.low] at hb
    simp only [RD] at h ⊢
    obtain ⟨a, vs, e, h1, h2, h3⟩ := h
    exact ⟨a, vs, e, ⟨x.F _ h1.1, by rw [x.H]; exact h1.2⟩, h2, RDs.cutW x xs vs hb h3⟩
  | .loc l, v, hb, h => by
    simp only [D.low, decide_eq_true_eq] at hb
    simp only [RD] at h ⊢
    obtain ⟨a, e, h1⟩ := h
    exact ⟨a, e, x.r l a hb h1⟩
  | .scr ns, v, _, h => by
    simp only [RD] at h ⊢
    obtain ⟨a, e, h1⟩ := h
    refine ⟨a, e, ?_⟩
    rcases h1 with ⟨o, h1⟩ | h1
    · exact .inl ⟨o, by rw [x.H]; exact h1⟩
    · exact .inr h1
theorem RDs.cutW {n : Nat} (x : Cut n w w') : ∀ (ds : List D) (vs : List V), D.lows n ds = true → RDs K w ds vs → RDs K w' ds vs
  | [], _, _, h => by simpa only [RDs] using h
  | d :: ds, vs, hb, h => by
    simp only [D.lows, Bool.and_eq_true] at hb
    simp only [RDs] at h ⊢
    obtain ⟨v, r, e, h1, h2⟩ := h
    exact ⟨v, r, e, RD.cutW x d v hb.1 h1, RDs.cutW x ds r hb.2 h2⟩
end
def MO.low (n : Nat) : MO → Bool
  | .lst xs => D.lows n xs
  | .dct kvs => D.lows n (vals kvs)
  | .dtt kvs => D.lows n (vals kvs)
theorem KVs.vals : ∀ {kvs : List (List Nat × D)} {ks : List (Key × V)}, KVs K w kvs ks → RDs K w (Eng.vals kvs) (ks.map (·.2))
  | [], ks, h => by rw [show ks = [] from h]; exact RDs.nil
  | (s, d) :: r, ks, h => by
    obtain ⟨v, r', rfl, h1, h2⟩ := h
    exact RDs.cons h1.2 (KVs.vals h2)
theorem KTs.vals : ∀ {kvs : List (List (List Nat) × D)} {ks : List (List Key × V)}, KTs K w kvs ks → RDs K w (Eng.vals kvs) (ks.map (·.2))
  | [], ks, h => by rw [show ks = [] from h]; exact RDs.nil
  | (s, d) :: r, ks, h => by
    obtain ⟨v, r', rfl, h1, h2⟩ := h
    exact RDs.cons h1 (KTs.vals h2)
theorem KVs.cutW {n : Nat} (x : Cut n w w') : ∀ {kvs : List (List Nat × D)} {ks : List (Key × V)}, D.lows n (Eng.vals kvs) = true → KVs K w kvs ks → KVs K w' kvs ks
  | [], ks, _, h => h
  | (s, d) :: r, ks, hb, h => by
    obtain ⟨v, r', e, h1, h2⟩ := h
    simp only [Eng.vals, List.map_cons, D.lows, Bool.and_eq_true] at hb
    exact ⟨v, r', e, ⟨h1.1, RD.cutW x d v hb.1 h1.2⟩, KVs.cutW x hb.2 h2⟩
theorem KTs.cutW {n : Nat} (x : Cut n w w') : ∀ {kvs : List (List (List Nat) × D)} {ks : List (List Key × V)}, D.lows n (Eng.vals kvs) = true → KTs K w kvs ks → KTs K w' kvs ks
  | [], ks, _, h => h
  | (s, d) :: r, ks, hb, h => by
    obtain ⟨v, r', e, h1, h2⟩ := h
    simp only [Eng.vals, List.map_cons, D.lows, Bool.and_eq_true] at hb
    exact ⟨v, r', e, RD.cutW x d v hb.1 h1, KTs.cutW x hb.2 h2⟩
theorem MOk.low {a : Addr} {m : MO} (h : MOk K w a m) : m.low w.r.length = true := by
  cases m with
  | lst xs => obtain ⟨vs, h1, h2, h3⟩ := h; exact RDs.low _ _ h3
  | dct xs => obtain ⟨vs, h1, h2, h3⟩ := h; exact RDs.low _ _ h3.vals
  | dtt xs => obtain ⟨vs, h1, h2, h3⟩ := h; exact RDs.low _ _ h3.vals
theorem MOk.cutW {n : Nat} (x : Cut n w w') {a : Addr} {m : MO} (hb : m.low n = true) (h : MOk K w a m) : MOk K w' a m := by
  cases m with
  | lst xs => obtain ⟨vs, h1, h2, h3⟩ := h; exact ⟨vs, by rw [x.H]; exact h1, h2, RDs.cutW x _ _ hb h3⟩
  | dct xs => obtain ⟨vs, h1, h2, h3⟩ := h; exact ⟨vs, by rw [x.H]; exact h1, h2, KVs.cutW x hb h3⟩
  | dtt xs => obtain ⟨vs, h1, h2, h3⟩ := h; exact ⟨vs, by rw [x.H]; exact h1, h2, KTs.cutW x hb h3⟩
theorem mo_pure {m : MO} (n : Nat) (h : m.pure = true) : m.low n = true := by
  cases m <;> (simp only [MO.pure] at h; simp only [MO.low]; exact pures_below n _ h)
/-- what stays of the store -/
theorem keep_below {S S' : Sto} (rs : RS K w S) (h : keepS S S' = true) : ∀ (l : Nat) (m : MO), (S'.take S.length)[l]? = some m → m.low S.length = true := by
  intro l m e
  unfold keepS at h
  simp only [Bool.or_eq_true, decide_eq_true_eq] at h
  rcases h with h | h
  · rw [h] at e
    have hl := (List.getElem?_eq_some_iff.mp e).1
    have hl' : l < w.r.length := by rw [rs.len]; exact hl
    have q := rs.obj l w.r[l] m (List.getElem?_eq_getElem hl') e
    have := q.low
    rw [rs.len] at this
    exact this
  · rw [List.all_eq_true] at h
    exact mo_pure _ (h m (List.mem_of_getElem? e))
/-- the def's own objects are left behind -/
theorem cut_ok {S S' : Sto} {F' : Addr → Prop} (rs : RS K w S) (x : Ext w w') (rs' : RS K w' S') (hk : keepS S S' = true) (hF : ∀ b, w'.F b → F' b) (hF2 : ∀ b, F' b → w'.F b ∨ (∃ l, S.length ≤ l ∧ w'.r[l]? = some b)) :
    Cut S.length w' ⟨w'.H, F', w'.r.take S.length⟩ ∧ Ext w ⟨w'.H, F', w'.r.take S.length⟩ ∧ RS K ⟨w'.H, F', w'.r.take S.length⟩ (S'.take S.length) := by
  have c : Cut S.length w' ⟨w'.H, F', w'.r.take S.length⟩ := ⟨rfl, hF, fun l a hl e => by
    show (w'.r.take S.length)[l]? = some a
    rw [List.getElem?_take, if_pos hl]; exact e⟩
  have hpre : w'.r.take S.length = w.r := by
    obtain ⟨m, e⟩ := x.rho
    rw [e, ← rs.len, List.take_left' rfl]
  have hle : S.length ≤ S'.length := by
    have h1 := rs'.len
    obtain ⟨m, e⟩ := x.rho
    rw [e, List.length_append, rs.len] at h1
    omega
  have out : ∀ b l, S.length ≤ l → w'.r[l]? = some b → b ∉ w.r := fun b l hl e hm => by
    obtain ⟨j, hj, ej⟩ := List.mem_iff_getElem.mp hm
    have e2 : w'.r[j]? = some b := rho_get x (by rw [List.getElem?_eq_getElem hj, ej])
    obtain ⟨h1, q1⟩ := List.getElem?_eq_some_iff.mp e
    obtain ⟨h2, q2⟩ := List.getElem?_eq_some_iff.mp e2
    have := (List.getElem_inj rs'.nd).mp (q1.trans q2.symm)
    have hj' : j < S.length := by rw [← rs.len]; exact hj
    omega
  refine ⟨c, ⟨⟨fun b xs h => x.tup _ _ h, fun b o u h => x.frz _ _ _ h, fun b xs f h => x.lst _ _ f h, fun b f => hF _ (x.phi _ f), ⟨[], by show w'.r.take S.length = _; rw [hpre]; simp⟩⟩, fun b h1 h2 h3 => ?_⟩, ⟨?_, ?_, fun a ha f => ?_, fun a f => ?_, fun l a m e1 e2 => ?_⟩⟩
  · obtain ⟨e1, e2, e3⟩ := x.frm b h1 h2 h3
    refine ⟨e1, fun f => ?_, by show b ∉ w'.r.take S.length; rw [hpre]; exact h2⟩
    rcases hF2 b f with q | ⟨l, _, q⟩
    · exact e2 q
    · exact e3 (List.mem_of_getElem? q)
  · show (w'.r.take S.length).length = _
    rw [List.length_take, List.length_take, rs'.len]
  · show (w'.r.take S.length).Nodup
    rw [hpre]; exact rs.nd
  · have ha : a ∈ w'.r.take S.length := ha
    rcases hF2 a f with q | ⟨l, hl, q⟩
    · exact rs'.apart a (List.mem_of_mem_take ha) q
    · rw [hpre] at ha
      exact out a l hl q ha
  · rcases hF2 a f with q | ⟨l, hl, q⟩
    · exact rs'.live a q
    · exact rs'.mem (List.mem_of_getElem? q)
  · have e1 : (w'.r.take S.length)[l]? = some a := e1
    have hl : l < S.length := by
      have := (List.getElem?_eq_some_iff.mp e1).1
      rw [List.length_take] at this
      omega
    have hb := keep_below rs hk l m e2
    rw [List.getElem?_take, if_pos hl] at e1
    rw [List.getElem?_take, if_pos hl] at e2
    exact (rs'.obj l a m e1 e2).cutW c hb
/-- the store's object goes over to the caller -/
theorem adopt_ok {S S' : Sto} {l : Nat} {m : MO} (rs : RS K w S) (x : Ext w w') (rs' : RS K w' S') (hk : keepS S S' = true) (hl : ¬ l < S.length) {a : Addr} (ha : w'.r[l]? = some a) (hm : S'[l]? = some m) (hp : m.pure = true) :
    ∃ w2, w2.H = w'.H ∧ Ext w w2 ∧ RS K w2 (S'.take S.length ++ [m]) ∧ RD K w2 (.loc S.length) (.ref a) := by
  obtain ⟨c, x2, rs2⟩ := cut_ok (F' := w'.F) rs x rs' hk (fun _ h => h) (fun _ h => .inl h)
  have hpre : w'.r.take S.length = w.r := by
    obtain ⟨q, e⟩ := x.rho
    rw [e, ← rs.len, List.take_left' rfl]
  have nin : a ∉ w.r := fun hm => by
    obtain ⟨j, hj, ej⟩ := List.mem_iff_getElem.mp hm
    have e2 : w'.r[j]? = some a := rho_get x (by rw [List.getElem?_eq_getElem hj, ej])
    obtain ⟨h1, q1⟩ := List.getElem?_eq_some_iff.mp ha
    obtain ⟨h2, q2⟩ := List.getElem?_eq_some_iff.mp e2
    have := (List.getElem_inj rs'.nd).mp (q1.trans q2.symm)
    have hj' : j < S.length := by rw [← rs.len]; exact hj
    omega
  have len1 : (w'.r.take S.length).length = S.length := by rw [hpre, rs.len]
  have len2 : (S'.take S.length).length = S.length := by
    have := rs2.len
    rw [← this]; exact len1
  have k : Wk ⟨w'.H, w'.F, w'.r.take S.length⟩ ⟨w'.H, w'.F, w'.r.take S.length ++ [a]⟩ := ⟨fun _ _ h => h, fun _ _ _ h => h, fun _ _ _ h => h, fun b f => f, ⟨[a], rfl⟩⟩
  have c2 : Cut S.length w' ⟨w'.H, w'.F, w'.r.take S.length ++ [a]⟩ := ⟨rfl, fun _ h => h, fun j b hj e => by
    show (w'.r.take S.length ++ [a])[j]? = some b
    rw [List.getElem?_append_left (by rw [len1]; exact hj), List.getElem?_take, if_pos hj]; exact e⟩
  refine ⟨⟨w'.H, w'.F, w'.r.take S.length ++ [a]⟩, rfl, ⟨⟨fun b xs h => x.tup _ _ h, fun b o u h => x.frz _ _ _ h, fun b xs f h => x.lst _ _ f h, fun b f => x.phi _ f, ⟨[a], by show w'.r.take S.length ++ [a] = _; rw [hpre]⟩⟩, fun b h1 h2 h3 => ?_⟩, ⟨?_, ?_, fun b hb f => ?_, fun b f => rs'.live b f, fun j b m' e1 e2 => ?_⟩, ?_⟩
  · obtain ⟨e1, e2, e3⟩ := x.frm b h1 h2 h3
    refine ⟨e1, e2, fun hb => ?_⟩
    have hb : b ∈ w'.r.take S.length ++ [a] := hb
    rw [hpre] at hb
    rcases List.mem_append.mp hb with hb | hb
    · exact h2 hb
    · simp at hb; subst hb; exact e3 (List.mem_of_getElem? ha)
  · show (w'.r.take S.length ++ [a]).length = _
    rw [List.length_append, List.length_append, len1, len2]; rfl
  · show (w'.r.take S.length ++ [a]).Nodup
    rw [hpre, List.nodup_append]
    exact ⟨rs.nd, by simp, fun y hy b hb e => by simp at hb; subst hb; subst e; exact nin hy⟩
  · have hb : b ∈ w'.r.take S.length ++ [a] := hb
    rcases List.mem_append.mp hb with hb | hb
    · exact rs'.apart b (List.mem_of_mem_take hb) f
    · simp at hb; subst hb; exact rs'.apart b (List.mem_of_getElem? ha) f
  · have e1 : (w'.r.take S.length ++ [a])[j]? = some b := e1
    by_cases hj : j < S.length
    · rw [List.getElem?_append_left (by rw [len1]; exact hj)] at e1
      rw [List.getElem?_append_left (by rw [len2]; exact hj)] at e2
      exact (rs2.obj j b m' e1 e2).wk k rfl
    · rw [List.getElem?_append_right (by rw [len1]; omega), len1] at e1
      rw [List.getElem?_append_right (by rw [len2]; omega), len2] at e2
      cases q : j - S.length with
      | zero =>
        rw [q] at e1 e2; simp at e1 e2; subst e1; subst e2
        exact (rs'.obj l a m ha hm).cutW c2 (mo_pure _ hp)
      | succ i => rw [q] at e1; simp at e1
  · simp only [RD]
    exact ⟨a, rfl, by show (w'.r.take S.length ++ [a])[S.length]? = some a; rw [List.getElem?_append_right (by rw [len1]; omega), len1]; simp⟩
variable {kx : Nat → Value} {W : WX} {Q : VK}
theorem ret_ok {S S' : Sto} {d : D} {v : V} (rs : RS K w S) (h : Aft kx K W [] (RD K) w (retD S d S') Q) (x : Ext w w') (rs' : RS K w' S') (rd : RD K w' d v) : Q v w'.H := by
  unfold retD at h
  split at h
  · exact h v w' x rs' rd
  split at h
  · rename_i hk
    obtain ⟨c, x2, rs2⟩ := cut_ok (F' := w'.F) rs x rs' hk (fun _ h => h) (fun _ h => .inl h)
    split at h
    · rename_i l
      obtain ⟨a, rfl, ha⟩ := rd.locI
      split at h
      · rename_i hl
        exact h _ ⟨w'.H, w'.F, w'.r.take S.length⟩ x2 rs2 (RD.cutW c _ _ (by simp only [D.low]; exact decide_eq_true hl) rd)
      · rename_i hl
        split at h
        · rename_i xs hm
          split at h
          · rename_i hp
            obtain ⟨c3, x3, rs3⟩ := cut_ok (F' := fun b => w'.F b ∨ b = a) rs x rs' hk (fun _ h => .inl h) (fun b f => f.elim .inl fun z => .inr ⟨l, by omega, by rw [z]; exact ha⟩)
            obtain ⟨vs, q1, q2, q3⟩ := rs'.obj l a _ ha hm
            refine h _ ⟨w'.H, fun b => w'.F b ∨ b = a, w'.r.take S.length⟩ x3 rs3 ?_
            simp only [RD]
            exact ⟨a, vs, rfl, ⟨.inr rfl, q1⟩, q2, RDs.cutW c3 _ _ (pures_below _ _ hp) q3⟩
          · exact h.elim
        · rename_i kvs hm
          split at h
          · rename_i hp
            obtain ⟨w2, e2, y, r2, d2⟩ := adopt_ok rs x rs' hk hl ha hm hp
            rw [← e2]
            exact h _ w2 y r2 d2
          · exact h.elim
        · rename_i kvs hm
          split at h
          · rename_i hp
            obtain ⟨w2, e2, y, r2, d2⟩ := adopt_ok rs x rs' hk hl ha hm hp
            rw [← e2]
            exact h _ w2 y r2 d2
          · exact h.elim
        · exact h.elim
    · split at h
      · rename_i hp
        exact h v ⟨w'.H, w'.F, w'.r.take S.length⟩ x2 rs2 (RD.cutW c _ _ (pure_below _ _ hp) rd)
      · exact h.elim
  · exact h.elim
theorem fin_ok {S : Sto} {o : Out} {E : XK} (rs : RS K w S) (h : Aft kx K (fun cls d _ H => E cls d H) [] (RD K) w (fin S o) Q) : AftS kx K (fun cls d _ H => E cls d H) { nx := fun _ H' => Q .non H', rt := Q } w o := by
  cases o with
  | nx s S' => exact fun σ' w' x _ rs' => ret_ok rs h x rs' (by simp only [RD])
  | rt d S' => exact fun v w' x rs' rd => ret_ok rs h x rs' rd
  | exc c s S' =>
    intro σ' w' x _ rs'
    simp only [fin] at h
    split at h
    · exact h w' x rs'
    split at h
    · rename_i hk
      obtain ⟨_, x2, rs2⟩ := cut_ok (F' := w'.F) rs x rs' hk (fun _ h => h) (fun _ h => .inl h)
      exact h ⟨w'.H, w'.F, w'.r.take S.length⟩ x2 rs2
    · exact h.elim
  | no => exact h
theorem start_ok {N : List Str} {ns : Nat} {ds : List D} {vs : List V} (hn : N.length = ns) (h : RDs K w ds vs) : StR K w (L2.start N vs) (Eng.start ns ds) := by
  have hl := h.length
  refine ⟨by simp [L2.start, Eng.start, hl, hn], fun i d e => ?_⟩
  unfold Eng.start at e
  by_cases hi : i < ds.length
  · rw [List.getElem?_append_left (by simpa using hi), List.getElem?_map] at e
    obtain ⟨d', e1, e2⟩ := Option.map_eq_some_iff.mp e
    cases e2
    obtain ⟨v, f1, f2⟩ := h.get e1
    refine ⟨v, ?_, f2⟩
    unfold L2.start
    rw [List.getElem?_append_left (by simp [hl, hi]), List.getElem?_map, f1] <;> rfl
  · rw [List.getElem?_append_right (by simpa using hi)] at e
    have := List.mem_of_getElem? e
    simp at this
end

/-! ### the table -/
structure Df where
  x : Str
  id : Nat
  st : Stmt
  ps : List Str
  N : List Str
  mv : List Str
  fn : Fn
def fuE : Nat := 40
structure DfOk (ge : GE) (d : Df) : Prop where
  sc : C8.scC d.N d.ps (defScope d.st) = true
  np : d.ps.length = d.fn.np
  ns : d.N.length = d.fn.ns
  tr : mapO (trS (trE fuE) d.mv ⟨ge, d.N, defScope d.st⟩ fuE) (defBody d.st) = some d.fn.body
  bnd : ∀ (kV doc pm : Value) (an : Option Addr) (cdv ct : Value) (us : List Value), us.length = d.ps.length → bindArgs (PySem.W.fnOf d.x d.x (defArgs d.st) (defBody d.st) (defScope d.st) .none kV doc pm an cdv ct) ⟨us, []⟩ = pure (d.ps.zip us)
abbrev FnP (K : PySem.W.Frag) (d : Df) (f : Addr) (fd : FuncData) : Prop := FunD K d.x d.x (defArgs d.st) (defBody d.st) (defScope d.st) [] [] f fd
/-- the module as the evaluator has it -/
structure Has (ge : GE) (P : Nat → Option Fn) (K : PySem.W.Frag) (mg : Str → Option Value) (kx : Nat → Value) : Prop where
  con : ∀ x d, ge.consts.lookup x = some d → ∃ v u, mg x = some u ∧ RelV v u ∧ ∀ w, RD K w d v
  bui : ∀ x ∈ BN, mg x = none
  fns : ∀ x i ar, ge.funs.lookup x = some (i, ar) → ∃ d f fd, DfOk ge d ∧ d.id = i ∧ d.ps.length = ar ∧ P i = some d.fn ∧ mg x = some (.ref f) ∧ FnP K d f fd
  exc : ge.excs ≠ [] → WordOk K mg kx
theorem def_ok {ge : GE} {Pt : Nat → Option Fn} {K : PySem.W.Frag} {mg : Str → Option Value} {P : Program} {w : World} {base : Heap} {kx : Nat → Value} (h : Has ge Pt K mg kx) : ∀ (n : Nat) (d : Df) (f : Addr) (fd : FuncData), DfOk ge d → Pt d.id = some d.fn → FnP K d f fd →
    FnOk P w K mg base (L2.CX P w) n f fd d.ps (spF kx K d.ps.length (run Pt n d.id)) := by
  intro n
  induction n with
  | zero =>
    intro d f fd ok hp F
    refine ⟨fun vs H Q E q => ?_, fun A outer s H args us vs Q E hr e0 hb hv q => ?_⟩
    · obtain ⟨w, ds, S, _, _, rd, hl, _⟩ := q
      rw [rd.length, hl]
    · obtain ⟨w, ds, S, _, _, rd, hl, q⟩ := q
      exact q.elim
  | succ n ih =>
    intro d f fd ok hp F
    have S := C8.fnScope_by ok.sc
    have ih' : ∀ (x : Str) (i ar : Nat), ge.funs.lookup x = some (i, ar) → ∃ f fd ps, mg x = some (.ref f) ∧ PySem.W.keepIn K (.ref f) = true ∧ Binds K fd ps [] ∧ ps.length = ar ∧ FnOk P w K mg base (L2.CX P w) n f fd ps (spF kx K ar (run Pt n i)) := by
      intro x i ar hx
      obtain ⟨d, f, fd, ok, rfl, rfl, hp, hm, F⟩ := h.fns x i ar hx
      exact ⟨f, fd, d.ps, hm, F.kp, F.bindsN ok.bnd, rfl, ih d f fd ok hp F⟩
    refine F.ok (N := d.N) S (fun vs H Q E q => ?_) (fun cdv A outer s H vs Q E hr q => ?_)
    · obtain ⟨w, ds, S, _, _, rd, hl, _⟩ := q
      rw [rd.length, hl]
    · obtain ⟨w0, ds, S0, rfl, rs, rd, hl, q⟩ := q
      have B := sndB_of (s_all (snd_E fuE) (snd_F (snd_E fuE)) (mv := d.mv) fuE) ok.tr
      refine ⟨_, B (run Pt n) n kx _ (fun cls d _ H => E cls d H) ⟨⟨rfl, S.nd, rfl, rfl, hr, h.con, h.bui, ih', h.exc⟩, takes_of (E := E) rfl rfl rfl rfl, passes_of rfl, fun _ => rfl, S.kind, rfl, rfl⟩, w0, Eng.start d.fn.ns ds, S0, rfl, start_ok ok.ns rd, rs, ?_⟩
      have e : run Pt (n + 1) d.id ds S0 = fin S0 (exs (run Pt n) d.fn.body (Eng.start d.fn.ns ds) S0) := by
        show (match Pt d.id with
          | none => Res.no
          | some F => if ds.length = F.np then fin S0 (exs (run Pt n) F.body (Eng.start F.ns ds) S0) else .no) = _
        rw [hp]
        show (if ds.length = d.fn.np then _ else _) = _
        rw [if_pos (by rw [hl]; exact ok.np)]
      rw [e] at q
      exact fin_ok rs q
/-- the law's promise, at its script -/
theorem law_sp {Pt : Nat → Option Fn} {K : PySem.W.Frag} {kx : Nat → Value} {n i : Nat} {ns : List Int} {H : Hp} {a : Addr} (hO : Only H) (hS : SqL K H a (ns.map V.int)) (h : run Pt n i [.scr ns] [] = .ok (.bl true) []) : spF kx K 1 (run Pt n i) [.ref a] H (fun v _ => v = .bl true) fun _ _ _ => False := by
  refine ⟨⟨H, fun _ => False, []⟩, [.scr ns], [], rfl, ⟨rfl, List.nodup_nil, fun a ha => by simp at ha, fun a f => f.elim, fun n a o e => by simp at e⟩, RDs.cons ?_ RDs.nil, rfl, ?_⟩
  · simp only [RD]
    refine ⟨a, rfl, ?_⟩
    rcases hS with (h1 | ⟨o, h1⟩) | h2
    · rcases hO a with z | ⟨o, xs, z⟩
      · rw [h1] at z; cases z
      · rw [h1] at z; cases z
    · exact .inl ⟨o, h1⟩
    · exact .inr h2
  · rw [h]
    exact fun v w' _ _ rd => rd.blI
/-- nothing is let out -/
theorem fn_quiet {P : Program} {w : World} {K : PySem.W.Frag} {mg : Str → Option Value} {base : Heap} {k : Nat} {f : Addr} {fd : FuncData} {ps : List Str} {sp : Sp} (F : FnOk P w K mg base (L2.CX P w) k f fd ps sp) : FnOk P w K mg base L2.CX0 k f fd ps (fun vs H Q _ => sp vs H Q fun _ _ _ => False) :=
  ⟨fun vs H Q E q => F.len vs H Q _ q, fun A outer s H args us vs Q E hr he hb hv hs => codeAny_mono (F.run A outer s H args us vs Q _ hr he hb hv hs) fun r s' z => by
    cases r with
    | ok fl => cases fl <;> exact z
    | error e =>
      obtain ⟨_, _, _, _, _, _, _, _, _, _, _, _, z⟩ := z
      exact z.elim⟩
end Eng

/-! Eng17 -/
set_option Elab.async false
set_option linter.all false
set_option maxRecDepth 100000
set_option maxHeartbeats 4000000
/-! What the head must tell of the errors' classes. -/
namespace Eng
open PySem PySem.Spec PyProof.Rows L2
def excCB (K : PySem.W.Frag) (D : Addr) : Bool := He.eqO (PySem.W.findIn K (.ref D) "__getattribute__") (some (some (.builtin "BaseException.__getattribute__"))) && (He.eqO (PySem.W.findIn K (.ref D) "__getattr__") (some none) &&
  (decide (PySem.W.subIn K (.ref D) (.type "BaseException") = some true) && (PySem.W.hasDictIn K D && (He.eqO (PySem.W.findIn K (.ref D) "__class__") (some (some (.builtin "object.__class__"))) &&
  (He.eqO (PySem.W.specialIn K (.builtin "object.__class__") "__get__") (some (some (.builtin "getset_descriptor.__get__"))) && (decide (PySem.W.takesIn K (.builtin "object.__class__") = some true) && decide (PySem.W.mroIn K D (.type "object") = some true)))))))
theorem excCB_ok {K : PySem.W.Frag} {D : Addr} (h : excCB K D = true) : ExcC K D := by
  unfold excCB at h
  obtain ⟨h1, h⟩ := He.ba h
  obtain ⟨h2, h⟩ := He.ba h
  obtain ⟨h3, h⟩ := He.ba h
  obtain ⟨h4, h⟩ := He.ba h
  obtain ⟨h5, h⟩ := He.ba h
  obtain ⟨h6, h⟩ := He.ba h
  obtain ⟨h7, h8⟩ := He.ba h
  exact ⟨He.eqO_ok h1, He.eqO_ok h2, of_decide_eq_true h3, h4, He.eqO_ok h5, He.eqO_ok h6, of_decide_eq_true h7, of_decide_eq_true h8⟩
def cAt (K : PySem.W.Frag) (i : Nat) : Addr := He.ga K (wNames.getD i "")
def wEx (K : PySem.W.Frag) : Bool := (List.range 9).all fun i => excCB K (cAt K i) && (decide (PySem.W.kitOne K (.ref (cAt K i)) (.type "ValueError") = some true) && (List.range 9).all fun j => decide (PySem.W.kitOne K (.ref (cAt K i)) (.ref (cAt K j)) = some (decide (i = j))))
def kxW (K : PySem.W.Frag) : Nat → Value := fun i => .ref (cAt K i)
theorem cAt_of {K : PySem.W.Frag} {i : Nat} {y : Str} (h : wNames[i]? = some y) : cAt K i = He.ga K y := by
  unfold cAt; rw [List.getD_eq_getElem?_getD, h]; rfl
theorem name_of {i : Nat} (h : i < 9) : ∃ y, wNames[i]? = some y := ⟨wNames[i]'(by exact h), List.getElem?_eq_getElem _⟩
theorem word_ok {K : PySem.W.Frag} {mg : Str → Option Value} {pa : Arguments} {sc : Scope} {l : Nat} {fd : FuncData} (hex : wEx K = true) (hisi : mg "isinstance" = none) (hve : mg "ValueError" = none) (hg : ∀ y ∈ wNames, mg y = some (.ref (He.ga K y))) (hM : mg "MendError" = some (.ref (He.ga K "MendError")))
    (hexm : ∀ y ∈ wNames, (He.Fa.exm y "MendError" true).ok K = true) (hexc : ∀ y ∈ wNames, (He.Fa.exc y).ok K = true) (hw : mg "_law_word" = some (.ref (He.ga K "_law_word")))
    (F : FunD K "_law_word" "_law_word" pa (wordAst l) sc [] [] (He.ga K "_law_word") fd) (S : FnScope ["kept", "kinds", "some"] ["kept"] sc) (hsc : wordSc sc) (hb : Binds K fd ["kept"] []) : WordOk K mg (kxW K) := by
  have ex := List.all_eq_true.mp hex
  refine ⟨cAt K, He.ga K "MendError", He.ga K "_law_word", fd, l, pa, sc, fun i _ => rfl, ⟨hisi, hve, fun i hi => ?_, fun i hi => ?_, fun i y e => ?_, fun i j hi hj => ?_⟩, hM, fun i hi => ?_, fun i hi => ?_, hw, F, S, hsc, hb⟩
  · exact excCB_ok (He.ba (ex i (List.mem_range.mpr hi))).1
  · exact of_decide_eq_true (He.ba (He.ba (ex i (List.mem_range.mpr hi))).2).1
  · rw [cAt_of e]; exact hg y (List.mem_of_getElem? e)
  · exact of_decide_eq_true (List.all_eq_true.mp (He.ba (He.ba (ex i (List.mem_range.mpr hi))).2).2 j (List.mem_range.mpr hj))
  · obtain ⟨y, e⟩ := name_of hi
    rw [cAt_of e]
    exact of_decide_eq_true (hexm y (List.mem_of_getElem? e))
  · obtain ⟨y, e⟩ := name_of hi
    rw [cAt_of e]
    have q := hexc y (List.mem_of_getElem? e)
    obtain ⟨q1, q⟩ := He.ba q
    obtain ⟨q2, q⟩ := He.ba q
    obtain ⟨q3, q4⟩ := He.ba q
    exact ⟨q1, q2, of_decide_eq_true q3, of_decide_eq_true q4⟩
/-- the names of a scope, by looking -/
def wordScB (sc : Scope) : Bool := (wNames.all fun y => decide (sc.names.lookup y = some .globalImplicit)) && (decide (sc.names.lookup ("isinstance" : Str) = some .globalImplicit) && (decide (sc.names.lookup ("ValueError" : Str) = some .globalImplicit) && (decide (sc.names.lookup ("kept" : Str) = some .local) && (decide (sc.names.lookup ("kinds" : Str) = some .local) && decide (sc.names.lookup ("some" : Str) = some .local)))))
theorem wordScB_ok {sc : Scope} (h : wordScB sc = true) : wordSc sc := by
  unfold wordScB at h
  obtain ⟨h1, h⟩ := He.ba h
  obtain ⟨h2, h⟩ := He.ba h
  obtain ⟨h3, h⟩ := He.ba h
  obtain ⟨h4, h⟩ := He.ba h
  obtain ⟨h5, h6⟩ := He.ba h
  exact ⟨fun y hy => of_decide_eq_true (List.all_eq_true.mp h1 y hy), of_decide_eq_true h2, of_decide_eq_true h3, of_decide_eq_true h4, of_decide_eq_true h5, of_decide_eq_true h6⟩
end Eng

/-! FX -/
set_option linter.all false
set_option maxRecDepth 100000
namespace Eng
/-- is_name (1) -/
def F_is_name : Fn := ⟨2, 3, [.ret (.and (.pr (.isi [.str]) [.var 0]) (.and (.chn .le .le (.con (.int 1)) (.pr .len [.var 0]) (.var 1)) (.pr .all [.comp [2] [2] false .seq [.var 0] [] (.pr .isin [.var 2, .con (.str [97, 98, 99, 100, 101, 102, 103, 104, 105, 106, 107, 108, 109, 110, 111, 112, 113, 114, 115, 116, 117, 118, 119, 120, 121, 122])])])))]⟩
/-- is_hole (2) -/
def F_is_hole : Fn := ⟨1, 1, [.ret (.and (.pr (.isi [.str]) [.var 0]) (.and (.pr .eq [.pr (.slc false true) [.var 0, .con (.int 1)], .con (.str [63])]) (.call 1 [.pr (.slc true false) [.var 0, .con (.int 1)], .con (.int 2)])))]⟩
/-- parts_of (13) -/
def F_parts_of : Fn := ⟨1, 1, [.ite (.pr (.isi [.tup]) [.var 0]) [.ret (.pr (.slc true false) [.var 0, .con (.int 1)])] [],
    .ret (.tup [])]⟩
/-- leaves (17) -/
def F_leaves : Fn := ⟨1, 3, [.ite (.pr (.isi [.str]) [.var 0]) [.ret (.lst [.var 0])] [],
    .setM 1 (.lst []),
    .for [2] false .seq [.call 13 [.var 0]] [.expr (.mth .ext (.var 1) [.call 17 [.var 2]])],
    .ret (.var 1)]⟩
/-- holes (18) -/
def F_holes : Fn := ⟨1, 3, [.setM 1 (.lst []),
    .for [2] false .seq [.call 17 [.var 0]] [.ite (.and (.call 2 [.var 2]) (.pr .notin [.var 2, .var 1])) [.expr (.mth .app (.var 1) [.var 2])] []],
    .ret (.pr .tuple [.var 1])]⟩
/-- match_into (20) -/
def F_match_into : Fn := ⟨3, 5, [.ite (.pr (.isi [.str]) [.var 0]) [.ite (.call 2 [.var 0]) [.ret (.pr .eq [.mth .setd (.var 2) [.var 0, .var 1], .var 1])] [],
    .ret (.pr .eq [.var 0, .var 1])] [],
    .ite (.or (.pr .not [.pr (.isi [.tup]) [.var 1]]) (.or (.pr .ne [.pr .len [.var 1], .pr .len [.var 0]]) (.pr .ne [.pr .idx [.var 1, .con (.int 0)], .pr .idx [.var 0, .con (.int 0)]]))) [.ret (.con (.bl false))] [],
    .ret (.pr .all [.comp [3, 4] [3, 4] true .zip [.pr (.slc true false) [.var 0, .con (.int 1)], .pr (.slc true false) [.var 1, .con (.int 1)]] [] (.call 20 [.var 3, .var 4, .var 2])])]⟩
/-- match (21) -/
def F_match : Fn := ⟨2, 4, [.set 2 (.pr .dnew []),
    .ite (.pr .not [.call 20 [.var 0, .var 1, .var 2]]) [.ret (.con (.non))] [],
    .ret (.pr .tuple [.comp [3] [3] false .seq [.pr .sorted [.var 2]] [] (.tup [.var 3, .pr .idx [.var 2, .var 3]])])]⟩
/-- with_holes (22) -/
def F_with_holes : Fn := ⟨2, 3, [.ite (.pr (.isi [.str]) [.var 0]) [.ret (.mth .get (.var 1) [.var 0, .var 0])] [],
    .ret (.pr .add [.tup [.pr .idx [.var 0, .con (.int 0)]], .pr .tuple [.comp [2] [2] false .seq [.call 13 [.var 0]] [] (.call 22 [.var 2, .var 1])]])]⟩
/-- filled (23) -/
def F_filled : Fn := ⟨2, 4, [.set 2 (.pr .dictp [.var 1]),
    .ite (.pr .not [.pr .all [.comp [3] [3] false .seq [.call 18 [.var 0]] [] (.pr .isin [.var 3, .var 2])]]) [.expr (.pr .len [])] [],
    .ret (.call 22 [.var 0, .var 2])]⟩
/-- is_over (79) -/
def F_is_over : Fn := ⟨2, 2, [.ret (.pr (.isntc (.non)) [.call 21 [.var 0, .var 1]])]⟩
/-- hole_called (88) -/
def F_hole_called : Fn := ⟨1, 1, [.ite (.pr .lt [.var 0, .pr .len [.con (.str [97, 98, 99, 100, 101, 102, 103, 104, 105, 106, 107, 108, 109, 110, 111, 112, 113, 114, 115, 116, 117, 118, 119, 120, 121, 122])]]) [.ret (.pr .add [.con (.str [63]), .pr .idx [.con (.str [97, 98, 99, 100, 101, 102, 103, 104, 105, 106, 107, 108, 109, 110, 111, 112, 113, 114, 115, 116, 117, 118, 119, 120, 121, 122]), .var 0]])] [],
    .ret (.pr .add [.pr .add [.con (.str [63]), .pr .idx [.con (.str [97, 98, 99, 100, 101, 102, 103, 104, 105, 106, 107, 108, 109, 110, 111, 112, 113, 114, 115, 116, 117, 118, 119, 120, 121, 122]), .pr .sub [.pr .fdiv [.var 0, .pr .len [.con (.str [97, 98, 99, 100, 101, 102, 103, 104, 105, 106, 107, 108, 109, 110, 111, 112, 113, 114, 115, 116, 117, 118, 119, 120, 121, 122])]], .con (.int 1)]]], .pr .idx [.con (.str [97, 98, 99, 100, 101, 102, 103, 104, 105, 106, 107, 108, 109, 110, 111, 112, 113, 114, 115, 116, 117, 118, 119, 120, 121, 122]), .pr .mod [.var 0, .pr .len [.con (.str [97, 98, 99, 100, 101, 102, 103, 104, 105, 106, 107, 108, 109, 110, 111, 112, 113, 114, 115, 116, 117, 118, 119, 120, 121, 122])]]]])]⟩
/-- plain_by (89) -/
def F_plain_by : Fn := ⟨2, 4, [.ret (.call 22 [.var 1, .pr .dictp [.comp [2, 3] [2, 3] true .enum [.call 18 [.var 0]] [] (.tup [.var 3, .call 88 [.var 2]])]])]⟩
/-- plain (90) -/
def F_plain : Fn := ⟨1, 1, [.ret (.call 89 [.var 0, .var 0])]⟩
/-- marked (91) -/
def F_marked : Fn := ⟨2, 3, [.ret (.call 22 [.var 0, .pr .dictp [.comp [2] [2] false .seq [.call 18 [.var 0]] [] (.tup [.var 2, .pr .add [.var 2, .var 1]])]])]⟩
/-- is_free (92) -/
def F_is_free : Fn := ⟨1, 1, [.ret (.and (.pr (.isi [.str]) [.var 0]) (.pr .eq [.pr (.slc false true) [.var 0, .con (.int 1)], .con (.str [63])]))]⟩
/-- resolved (93) -/
def F_resolved : Fn := ⟨2, 3, [.ite (.pr (.isi [.str]) [.var 0]) [.ite (.pr .isin [.var 0, .var 1]) [.ret (.call 93 [.pr .idx [.var 1, .var 0], .var 1])] [],
    .ret (.var 0)] [],
    .ret (.pr .add [.tup [.pr .idx [.var 0, .con (.int 0)]], .pr .tuple [.comp [2] [2] false .seq [.call 13 [.var 0]] [] (.call 93 [.var 2, .var 1])]])]⟩
/-- unify (94) -/
def F_unify : Fn := ⟨3, 5, [.par [0, 1] [.call 93 [.var 0, .var 2], .call 93 [.var 1, .var 2]],
    .ite (.pr .eq [.var 0, .var 1]) [.ret (.con (.bl true))] [],
    .ite (.and (.call 92 [.var 1]) (.pr .not [.call 92 [.var 0]])) [.par [0, 1] [.var 1, .var 0]] [],
    .ite (.call 92 [.var 0]) [.ite (.pr .isin [.var 0, .call 17 [.var 1]]) [.ret (.con (.bl false))] [],
    .setI (.var 2) (.var 0) (.var 1),
    .ret (.con (.bl true))] [],
    .ite (.or (.pr (.isi [.str]) [.var 0]) (.or (.pr (.isi [.str]) [.var 1]) (.or (.pr .ne [.pr .len [.var 0], .pr .len [.var 1]]) (.pr .ne [.pr .idx [.var 0, .con (.int 0)], .pr .idx [.var 1, .con (.int 0)]])))) [.ret (.con (.bl false))] [],
    .ret (.pr .all [.comp [3, 4] [3, 4] true .zip [.pr (.slc true false) [.var 0, .con (.int 1)], .pr (.slc true false) [.var 1, .con (.int 1)]] [] (.call 94 [.var 3, .var 4, .var 2])])]⟩
/-- free_names (95) -/
def F_free_names : Fn := ⟨2, 3, [.for [2] false .seq [.call 17 [.var 0]] [.ite (.and (.call 92 [.var 2]) (.pr .notin [.var 2, .var 1])) [.setI (.var 1) (.var 2) (.call 88 [.pr .len [.var 1]])] []],
    .ret (.var 1)]⟩
/-- common (96) -/
def F_common : Fn := ⟨2, 5, [.set 2 (.pr .dnew []),
    .set 3 (.call 91 [.var 0, .con (.str [46])]),
    .ite (.pr .not [.call 94 [.var 3, .call 91 [.var 1, .con (.str [58])], .var 2]]) [.ret (.con (.non))] [],
    .set 4 (.call 93 [.var 3, .var 2]),
    .ret (.call 22 [.var 4, .call 95 [.var 4, .pr .dnew []]])]⟩
/-- are_like (97) -/
def F_are_like : Fn := ⟨2, 2, [.ret (.pr .eq [.call 90 [.var 0], .call 90 [.var 1]])]⟩
/-- _law_cell (6) -/
def F_law_cell : Fn := ⟨2, 2, [.ite (.pr .lt [.var 1, .pr .len [.var 0]]) [.ret (.pr .idx [.var 0, .var 1])] [],
    .ret (.con (.int 0))]⟩
/-- _law_mix (7) -/
def F_law_mix : Fn := ⟨3, 4, [.set 3 (.pr .mod [.pr .mul [.var 0, .con (.int 48271)], .var 1]),
    .ret (.pr .mod [.pr .mod [.pr .mul [.var 3, .pr .add [.var 3, .con (.int 7)]], .var 1], .var 2])]⟩
/-- _law_leaf (8) -/
def F_law_leaf : Fn := ⟨2, 2, [.ite (.and (.var 1) (.pr .eq [.call 7 [.var 0, .con (.int 9973), .con (.int 2)], .con (.int 0)])) [.ret (.pr .idx [.tup [.con (.str [63, 120]), .con (.str [63, 121]), .con (.str [63, 120]), .con (.str [63, 97, 98])], .call 7 [.var 0, .con (.int 9967), .con (.int 4)]])] [],
    .ret (.pr .idx [.tup [.con (.str [97]), .con (.str [98]), .con (.str [110, 105, 108]), .con (.str [97])], .call 7 [.var 0, .con (.int 9949), .con (.int 4)]])]⟩
/-- _law_tree (9) -/
def F_law_tree : Fn := ⟨3, 7, [.set 3 (.call 7 [.var 0, .con (.int 9941), .con (.int 6)]),
    .ite (.or (.pr .eq [.var 1, .con (.int 1)]) (.pr .lt [.var 3, .con (.int 2)])) [.ret (.call 8 [.var 0, .var 2])] [],
    .set 4 (.pr .idx [.tup [.con (.str [102]), .con (.str [103]), .con (.str [102]), .con (.str [110, 111, 116])], .call 7 [.var 0, .con (.int 9931), .con (.int 4)]]),
    .set 5 (.tup [.var 4]),
    .for [6] false .rng [.pr .idx [.tup [.con (.int 1), .con (.int 2), .con (.int 2), .con (.int 3)], .call 7 [.var 0, .con (.int 9929), .con (.int 4)]]] [.set 5 (.pr .add [.var 5, .tup [.call 9 [.pr .add [.pr .add [.pr .mul [.var 0, .con (.int 3)], .pr .mul [.con (.int 7), .var 6]], .con (.int 1)], .pr .sub [.var 1, .con (.int 1)], .var 2]]])],
    .ret (.var 5)]⟩
/-- _law_holes (29) -/
def F_law_holes : Fn := ⟨1, 4, [.ite (.pr (.isi [.str]) [.var 0]) [.ret (.ite (.pr .eq [.pr .idx [.var 0, .con (.int 0)], .con (.str [63])]) (.lst [.var 0]) (.lst []))] [],
    .setM 1 (.lst []),
    .for [2] false .seq [.pr (.slc true false) [.var 0, .con (.int 1)]] [.expr (.mth .ext (.var 1) [.comp [3] [3] false .seq [.call 29 [.var 2]] [.pr .notin [.var 3, .var 1]] (.var 3)])],
    .ret (.var 1)]⟩
/-- _law_fill (30) -/
def F_law_fill : Fn := ⟨2, 3, [.ite (.pr (.isi [.str]) [.var 0]) [.ret (.mth .get (.var 1) [.var 0, .var 0])] [],
    .ret (.pr .add [.tup [.pr .idx [.var 0, .con (.int 0)]], .pr .tuple [.comp [2] [2] false .seq [.pr (.slc true false) [.var 0, .con (.int 1)]] [] (.call 30 [.var 2, .var 1])]])]⟩
/-- _law_terms (98) -/
def F_law_terms : Fn := ⟨2, 7, [.setM 2 (.lst []),
    .for [3] false .rng [.con (.int 4)] [.set 4 (.pr .dnew []),
    .for [5, 6] true .enum [.call 29 [.var 0]] [.setI (.var 4) (.var 6) (.call 9 [.pr .add [.pr .add [.var 1, .pr .mul [.con (.int 13), .var 5]], .pr .mul [.con (.int 71), .var 3]], .pr .add [.con (.int 1), .pr .mod [.var 3, .con (.int 3)]], .con (.bl false)])],
    .expr (.mth .app (.var 2) [.call 30 [.var 0, .var 4]])],
    .ret (.var 2)]⟩
/-- law (99) -/
def F_law_v7 : Fn := ⟨1, 12, [.for [1] false .rng [.con (.int 16)] [.set 2 (.pr .add [.call 6 [.var 0, .pr .mod [.var 1, .con (.int 9)]], .pr .mul [.con (.int 31), .var 1]]),
    .set 3 (.call 9 [.var 2, .con (.int 3), .con (.bl true)]),
    .set 4 (.call 9 [.pr .add [.call 6 [.var 0, .con (.int 9)], .pr .mul [.con (.int 7), .var 1]], .con (.int 3), .con (.bl true)]),
    .ite (.pr .eq [.pr .mod [.var 1, .con (.int 3)], .con (.int 0)]) [.set 4 (.call 30 [.var 3, .pr .dlit [.con (.str [63, 120]), .call 9 [.pr .add [.var 2, .con (.int 3)], .con (.int 2), .con (.bl true)]]])] [],
    .set 5 (.call 96 [.var 3, .var 4]),
    .set 6 (.pr .add [.call 98 [.var 3, .var 2], .call 98 [.var 4, .pr .add [.var 2, .con (.int 1)]]]),
    .ite (.pr (.isntc (.non)) [.var 5]) [.set 6 (.pr .add [.var 6, .call 98 [.var 5, .pr .add [.var 2, .con (.int 2)]]]),
    .ite (.or (.pr .not [.call 79 [.var 3, .var 5]]) (.or (.pr .not [.call 79 [.var 4, .var 5]]) (.pr .ne [.call 90 [.var 5], .var 5]))) [.ret (.con (.bl false))] []] [],
    .for [7] false .seq [.var 6] [.set 8 (.call 21 [.var 3, .var 7]),
    .set 9 (.and (.pr (.isntc (.non)) [.var 8]) (.pr (.isntc (.non)) [.call 21 [.var 4, .var 7]])),
    .ite (.pr .ne [.var 9, .and (.pr (.isntc (.non)) [.var 5]) (.pr (.isntc (.non)) [.call 21 [.var 5, .var 7]])]) [.ret (.con (.bl false))] [],
    .ite (.and (.pr (.isntc (.non)) [.var 8]) (.pr .ne [.call 23 [.var 3, .var 8], .var 7])) [.ret (.con (.bl false))] [],
    .ite (.and (.pr (.isntc (.non)) [.var 8]) (.pr .ne [.pr .sorted [.call 18 [.var 3]], .comp [11] [11] false .seq [.var 8] [] (.pr .idx [.var 11, .con (.int 0)])])) [.ret (.con (.bl false))] []],
    .set 10 (.call 96 [.var 4, .var 3]),
    .ite (.or (.pr .ne [.pr (.isc (.non)) [.var 10], .pr (.isc (.non)) [.var 5]]) (.and (.pr (.isntc (.non)) [.var 5]) (.pr .not [.call 97 [.var 5, .var 10]]))) [.ret (.con (.bl false))] [],
    .ite (.or (.pr .ne [.call 96 [.var 3, .var 3], .call 90 [.var 3]]) (.and (.call 79 [.var 3, .var 4]) (.pr .not [.call 97 [.call 96 [.var 3, .var 4], .var 4]]))) [.ret (.con (.bl false))] [],
    .ite (.and (.pr (.isntc (.non)) [.var 5]) (.or (.pr .ne [.call 96 [.var 5, .var 3], .var 5]) (.pr (.isntc (.bl true)) [.call 79 [.con (.str [63, 120]), .var 5]]))) [.ret (.con (.bl false))] [],
    .ite (.and (.call 79 [.var 3, .var 4]) (.pr .ne [.call 79 [.var 4, .var 3], .call 97 [.var 3, .var 4]])) [.ret (.con (.bl false))] []],
    .ite (.pr .ne [.call 96 [.tup [.con (.str [102]), .con (.str [63, 120]), .con (.str [97])], .tup [.con (.str [102]), .con (.str [98]), .con (.str [63, 120])]], .tup [.con (.str [102]), .con (.str [98]), .con (.str [97])]]) [.ret (.con (.bl false))] [],
    .ret (.pr (.isc (.non)) [.call 96 [.tup [.con (.str [102]), .con (.str [63, 120]), .con (.str [63, 120])], .tup [.con (.str [102]), .con (.str [63, 121]), .tup [.con (.str [103]), .con (.str [63, 121])]]]])]⟩
/-- ways (14) -/
def F_ways : Fn := ⟨1, 5, [.setM 1 (.lst [.tup []]),
    .for [2, 3] true .enum [.call 13 [.var 0]] [.expr (.mth .ext (.var 1) [.comp [4] [4] false .seq [.call 14 [.var 3]] [] (.pr .add [.tup [.var 2], .var 4])])],
    .ret (.pr .tuple [.var 1])]⟩
/-- part_at (15) -/
def F_part_at : Fn := ⟨2, 4, [.for [2] false .seq [.var 1] [.set 3 (.call 13 [.var 0]),
    .ite (.pr .not [.chn .le .lt (.con (.int 0)) (.var 2) (.pr .len [.var 3])]) [.expr (.pr .len [])] [],
    .set 0 (.pr .idx [.var 3, .var 2])],
    .ret (.var 0)]⟩
/-- with_hushed (64) -/
def F_with_hushed : Fn := ⟨3, 3, [.ret (.pr .add [.pr .add [.pr (.slc false true) [.var 0, .var 1], .tup [.tup [.pr .idx [.pr .idx [.var 0, .var 1], .con (.int 0)], .pr .tuple [.pr .sorted [.var 2]]]]], .pr (.slc true false) [.var 0, .pr .add [.var 1, .con (.int 1)]]])]⟩
/-- holds (43) -/
def F_holds : Fn := ⟨4, 5, [.ite (.pr .eq [.pr .idx [.var 0, .con (.int 0)], .con (.str [105, 115])]) [.ret (.pr (.isntc (.non)) [.call 21 [.pr .idx [.var 0, .con (.int 1)], .call 15 [.var 1, .var 2]]])] [],
    .ite (.pr .eq [.pr .idx [.var 0, .con (.int 0)], .con (.str [119, 105, 116, 104])]) [.ret (.pr (.isntc (.non)) [.call 21 [.pr .idx [.var 0, .con (.int 2)], .pr .idx [.pr .dictp [.var 3], .pr .idx [.var 0, .con (.int 1)]]]])] [],
    .ret (.pr .any [.comp [4] [4] false .rng [.pr .len [.var 2]] [] (.pr (.isntc (.non)) [.call 21 [.pr .idx [.var 0, .con (.int 1)], .call 15 [.var 1, .pr (.slc false true) [.var 2, .var 4]]]])])]⟩
/-- is_found (44) -/
def F_is_found : Fn := ⟨3, 5, [.set 3 (.call 21 [.pr .idx [.var 0, .con (.int 1)], .call 15 [.var 1, .var 2]]),
    .ite (.pr (.isc (.non)) [.var 3]) [.ret (.con (.bl false))] [],
    .ret (.pr .not [.pr .any [.comp [4] [4] false .seq [.pr .idx [.var 0, .con (.int 3)]] [] (.call 43 [.var 4, .var 1, .var 2, .var 3])]])]⟩
/-- all_found (45) -/
def F_all_found : Fn := ⟨2, 7, [.setM 2 (.lst []),
    .for [3, 4] true .enum [.var 0] [.for [5] false .seq [.call 14 [.pr .idx [.var 4, .con (.int 0)]]] [.expr (.mth .ext (.var 2) [.comp [6] [6] false .seq [.var 1] [.call 44 [.var 6, .pr .idx [.var 4, .con (.int 0)], .var 5]] (.tup [.var 3, .var 5, .pr .idx [.var 6, .con (.int 0)]])])]],
    .ret (.var 2)]⟩
/-- found (46) -/
def F_found : Fn := ⟨2, 3, [.ret (.pr .tuple [.comp [2] [2] false .seq [.call 45 [.var 0, .var 1]] [.pr .notin [.pr .idx [.var 2, .con (.int 2)], .pr .idx [.pr .idx [.var 0, .pr .idx [.var 2, .con (.int 0)]], .con (.int 1)]]] (.var 2)])]⟩
/-- hushed (65) -/
def F_hushed : Fn := ⟨2, 3, [.ret (.pr .tuple [.comp [2] [2] false .seq [.call 45 [.var 0, .var 1]] [.pr .isin [.pr .idx [.var 2, .con (.int 2)], .pr .idx [.pr .idx [.var 0, .pr .idx [.var 2, .con (.int 0)]], .con (.int 1)]]] (.var 2)])]⟩
/-- needless (66) -/
def F_needless : Fn := ⟨2, 8, [.set 2 (.comp [6] [6] false .seq [.call 65 [.var 0, .var 1]] [] (.tup [.pr .idx [.var 6, .con (.int 0)], .pr .idx [.var 6, .con (.int 2)]])),
    .setM 3 (.lst []),
    .for [4, 5] true .enum [.var 0] [.expr (.mth .ext (.var 3) [.comp [7] [7] false .seq [.pr .idx [.var 5, .con (.int 1)]] [.pr .notin [.tup [.var 4, .var 7], .var 2]] (.tup [.var 4, .var 7])])],
    .ret (.pr .tuple [.var 3])]⟩
/-- tidy (67) -/
def F_tidy : Fn := ⟨2, 6, [.set 2 (.call 66 [.var 0, .var 1]),
    .for [3, 4] true .enum [.var 0] [.set 0 (.call 64 [.var 0, .var 3, .comp [5] [5] false .seq [.pr .idx [.var 4, .con (.int 1)]] [.pr .notin [.tup [.var 3, .var 5], .var 2]] (.var 5)])],
    .ret (.var 0)]⟩
/-- by_code (68) -/
def F_by_code : Fn := ⟨2, 5, [.set 2 (.comp [3] [3] false .seq [.call 46 [.var 0, .var 1]] [] (.pr .idx [.var 3, .con (.int 2)])),
    .ret (.pr .tuple [.comp [4] [4] false .seq [.var 1] [] (.tup [.pr .idx [.var 4, .con (.int 0)], .mth .count (.var 2) [.pr .idx [.var 4, .con (.int 0)]]])])]⟩
/-- worst (69) -/
def F_worst : Fn := ⟨2, 6, [.set 2 (.comp [4] [4] false .seq [.call 46 [.var 0, .var 1]] [] (.pr .idx [.var 4, .con (.int 0)])),
    .ite (.pr .not [.var 2]) [.ret (.tup [])] [],
    .set 3 (.pr .maxl [.comp [5] [5] false .seq [.var 2] [] (.mth .count (.var 2) [.var 5])]),
    .ret (.pr .tuple [.comp [5] [5] false .rng [.pr .len [.var 0]] [.pr .eq [.mth .count (.var 2) [.var 5], .var 3]] (.var 5)])]⟩
/-- _law_same (27) -/
def F_law_same : Fn := ⟨2, 4, [.ite (.pr (.isi [.tup]) [.var 1]) [.ite (.or (.pr .not [.pr (.isi [.tup]) [.var 0]]) (.pr .ne [.pr .len [.var 0], .pr .len [.var 1]])) [.ret (.con (.bl false))] [],
    .ret (.pr .all [.comp [2, 3] [2, 3] true .zip [.var 0, .var 1] [] (.call 27 [.var 2, .var 3])])] [],
    .ite (.pr (.isc (.non)) [.var 1]) [.ret (.pr (.isc (.non)) [.var 0])] [],
    .ite (.or (.pr (.isi [.bool]) [.var 1]) (.pr (.isi [.bool]) [.var 0])) [.ret (.and (.pr (.isi [.bool]) [.var 1]) (.and (.pr (.isi [.bool]) [.var 0]) (.pr .eq [.var 0, .var 1])))] [],
    .ret (.and (.pr (.isi [.int, .str]) [.var 0]) (.pr .eq [.var 0, .var 1]))]⟩
/-- _law_pattern (28) -/
def F_law_pattern : Fn := ⟨2, 3, [.set 2 (.call 9 [.var 0, .var 1, .con (.bl true)]),
    .ret (.ite (.and (.pr (.isi [.str]) [.var 2]) (.pr .eq [.pr .idx [.var 2, .con (.int 0)], .con (.str [63])])) (.tup [.con (.str [102]), .var 2]) (.var 2))]⟩
/-- _law_match (31) -/
def F_law_match : Fn := ⟨3, 5, [.ite (.pr (.isi [.str]) [.var 0]) [.ite (.pr .eq [.pr .idx [.var 0, .con (.int 0)], .con (.str [63])]) [.ret (.pr .eq [.mth .setd (.var 2) [.var 0, .var 1], .var 1])] [],
    .ret (.pr .eq [.var 0, .var 1])] [],
    .ite (.or (.pr (.isi [.str]) [.var 1]) (.or (.pr .ne [.pr .len [.var 1], .pr .len [.var 0]]) (.pr .ne [.pr .idx [.var 1, .con (.int 0)], .pr .idx [.var 0, .con (.int 0)]]))) [.ret (.con (.bl false))] [],
    .for [3, 4] true .zip [.pr (.slc true false) [.var 0, .con (.int 1)], .pr (.slc true false) [.var 1, .con (.int 1)]] [.ite (.pr .not [.call 31 [.var 3, .var 4, .var 2]]) [.ret (.con (.bl false))] []],
    .ret (.con (.bl true))]⟩
/-- _law_ways (32) -/
def F_law_ways : Fn := ⟨1, 5, [.ite (.pr (.isi [.str]) [.var 0]) [.ret (.lst [.tup []])] [],
    .setM 1 (.lst [.tup []]),
    .for [2, 3] true .enum [.pr (.slc true false) [.var 0, .con (.int 1)]] [.expr (.mth .ext (.var 1) [.comp [4] [4] false .seq [.call 32 [.var 3]] [] (.pr .add [.tup [.var 2], .var 4])])],
    .ret (.var 1)]⟩
/-- _law_part (33) -/
def F_law_part : Fn := ⟨2, 3, [.for [2] false .seq [.var 1] [.set 0 (.pr .idx [.var 0, .pr .add [.var 2, .con (.int 1)]])],
    .ret (.var 0)]⟩
/-- _law_mend (35) -/
def F_law_mend : Fn := ⟨2, 5, [.set 2 (.call 29 [.var 1]),
    .set 3 (.call 7 [.var 0, .con (.int 9923), .con (.int 6)]),
    .ite (.pr .eq [.var 3, .con (.int 0)]) [.ret (.con (.non))] [],
    .ite (.and (.pr .eq [.var 3, .con (.int 1)]) (.pr (.isi [.tup]) [.var 1])) [.ret (.pr .idx [.var 1, .con (.int 1)])] [],
    .set 4 (.call 9 [.pr .add [.var 0, .con (.int 5)], .pr .add [.con (.int 2), .pr .mod [.var 3, .con (.int 2)]], .con (.bl true)]),
    .ite (.pr .eq [.var 2, .lst []]) [.ret (.call 30 [.var 4, .pr .dlit [.con (.str [63, 120]), .con (.str [97]), .con (.str [63, 121]), .con (.str [98]), .con (.str [63, 97, 98]), .con (.str [110, 105, 108])]])] [],
    .ret (.call 30 [.var 4, .pr .dlit [.con (.str [63, 120]), .pr .idx [.var 2, .con (.int 0)], .con (.str [63, 121]), .pr .idx [.var 2, .pr .neg [.con (.int 1)]], .con (.str [63, 97, 98]), .con (.str [98])]])]⟩
/-- _law_nots (36) -/
def F_law_nots : Fn := ⟨2, 7, [.set 2 (.tup []),
    .for [3] false .rng [.call 7 [.var 0, .con (.int 9907), .con (.int 3)]] [.set 4 (.call 9 [.pr .add [.pr .add [.var 0, .pr .mul [.con (.int 11), .var 3]], .con (.int 3)], .con (.int 3), .con (.bl true)]),
    .set 5 (.call 7 [.pr .add [.var 0, .var 3], .con (.int 9901), .con (.int 3)]),
    .ite (.and (.pr .eq [.var 5, .con (.int 2)]) (.pr .ne [.call 29 [.var 1], .lst []])) [.set 6 (.call 29 [.var 1]),
    .set 2 (.pr .add [.var 2, .tup [.tup [.con (.str [119, 105, 116, 104]), .pr .idx [.var 6, .pr .mod [.var 3, .pr .len [.var 6]]], .var 4]]])] [.set 2 (.pr .add [.var 2, .tup [.tup [.pr .idx [.tup [.con (.str [105, 115]), .con (.str [105, 110])], .pr .mod [.var 5, .con (.int 2)]], .var 4]]])]],
    .ret (.var 2)]⟩
/-- _law_book (37) -/
def F_law_book : Fn := ⟨2, 8, [.set 2 (.tup []),
    .for [3] false .rng [.pr .add [.con (.int 1), .call 7 [.var 0, .con (.int 9887), .con (.int 4)]]] [.set 4 (.pr .add [.var 0, .pr .mul [.con (.int 53), .var 3]]),
    .set 5 (.call 28 [.var 4, .con (.int 3)]),
    .set 6 (.ite (.or (.var 1) (.pr .eq [.call 7 [.var 4, .con (.int 9883), .con (.int 2)], .con (.int 0)])) (.tup []) (.call 36 [.var 4, .var 5])),
    .set 7 (.pr .idx [.tup [.con (.str [65]), .con (.str [66]), .con (.str [85, 80]), .con (.str [76, 79, 78, 71])], .var 3]),
    .set 2 (.pr .add [.var 2, .tup [.tup [.var 7, .var 5, .call 35 [.pr .add [.var 4, .con (.int 1)], .var 5], .var 6]]])],
    .ret (.var 2)]⟩
/-- _law_program (54) -/
def F_law_program : Fn := ⟨1, 7, [.set 1 (.tup []),
    .for [2] false .rng [.call 7 [.var 0, .con (.int 9871), .con (.int 5)]] [.set 3 (.pr .add [.var 0, .pr .mul [.con (.int 37), .var 2]]),
    .set 4 (.comp [5, 6] [5, 6] true .enum [.tup [.con (.str [65]), .con (.str [66]), .con (.str [85, 80]), .con (.str [90, 90])]] [.pr .eq [.call 7 [.pr .add [.var 3, .var 5], .con (.int 9859), .con (.int 5)], .con (.int 0)]] (.var 6)),
    .set 1 (.pr .add [.var 1, .tup [.tup [.call 9 [.var 3, .con (.int 4), .con (.bl false)], .pr .tuple [.pr (.slc false true) [.pr .sorted [.var 4], .con (.int 3)]]]]])],
    .ret (.var 1)]⟩
/-- _law_holds (55) -/
def F_law_holds : Fn := ⟨4, 5, [.ite (.pr .eq [.pr .idx [.var 0, .con (.int 0)], .con (.str [105, 115])]) [.ret (.call 31 [.pr .idx [.var 0, .con (.int 1)], .call 33 [.var 1, .var 2], .pr .dnew []])] [],
    .ite (.pr .eq [.pr .idx [.var 0, .con (.int 0)], .con (.str [119, 105, 116, 104])]) [.ret (.call 31 [.pr .idx [.var 0, .con (.int 2)], .pr .idx [.var 3, .pr .idx [.var 0, .con (.int 1)]], .pr .dnew []])] [],
    .ret (.pr .ne [.comp [4] [4] false .rng [.pr .len [.var 2]] [.call 31 [.pr .idx [.var 0, .con (.int 1)], .call 33 [.var 1, .pr (.slc false true) [.var 2, .var 4]], .pr .dnew []]] (.var 4), .lst []])]⟩
/-- _law_all (56) -/
def F_law_all : Fn := ⟨2, 12, [.setM 2 (.lst []),
    .for [3, 4] true .enum [.var 0] [.for [5] false .seq [.call 32 [.pr .idx [.var 4, .con (.int 0)]]] [.for [6, 7, 8, 9] true .seq [.var 1] [.set 10 (.pr .dnew []),
    .ite (.call 31 [.var 7, .call 33 [.pr .idx [.var 4, .con (.int 0)], .var 5], .var 10]) [.ite (.pr .eq [.comp [11] [11] false .seq [.var 9] [.call 55 [.var 11, .pr .idx [.var 4, .con (.int 0)], .var 5, .var 10]] (.var 11), .lst []]) [.expr (.mth .app (.var 2) [.tup [.var 3, .var 5, .var 6]])] []] []]]],
    .ret (.var 2)]⟩
/-- _law_found (57) -/
def F_law_found : Fn := ⟨2, 3, [.ret (.comp [2] [2] false .seq [.call 56 [.var 0, .var 1]] [.pr .notin [.pr .idx [.var 2, .con (.int 2)], .pr .idx [.pr .idx [.var 0, .pr .idx [.var 2, .con (.int 0)]], .con (.int 1)]]] (.var 2))]⟩
/-- law (114) -/
def F_law_v14 : Fn := ⟨1, 18, [.for [1] false .rng [.con (.int 12)] [.set 2 (.call 37 [.pr .add [.call 6 [.var 0, .pr .mod [.var 1, .con (.int 9)]], .pr .mul [.con (.int 31), .var 1]], .con (.bl false)]),
    .set 3 (.call 54 [.pr .add [.call 6 [.var 0, .con (.int 9)], .pr .mul [.con (.int 7), .var 1]]]),
    .par [4, 5] [.call 56 [.var 3, .var 2], .call 57 [.var 3, .var 2]],
    .set 6 (.comp [15] [15] false .seq [.var 4] [.pr .notin [.var 15, .var 5]] (.var 15)),
    .ite (.pr .not [.call 27 [.tup [.call 46 [.var 3, .var 2], .call 65 [.var 3, .var 2]], .tup [.pr .tuple [.var 5], .pr .tuple [.var 6]]]]) [.ret (.con (.bl false))] [],
    .parL 7 8 (.tup []),
    .for [9, 10] true .enum [.var 3] [.set 11 (.comp [16] [16] false .seq [.pr .idx [.var 10, .con (.int 1)]] [.pr .isin [.tup [.var 9, .var 16], .comp [15] [15] false .seq [.var 6] [] (.tup [.pr .idx [.var 15, .con (.int 0)], .pr .idx [.var 15, .con (.int 2)]])]] (.var 16)),
    .expr (.mth .ext (.var 7) [.comp [16] [16] false .seq [.pr .idx [.var 10, .con (.int 1)]] [.pr .notin [.var 16, .var 11]] (.tup [.var 9, .var 16])]),
    .set 8 (.pr .add [.var 8, .tup [.tup [.pr .idx [.var 10, .con (.int 0)], .pr .tuple [.var 11]]]])],
    .ite (.pr .not [.call 27 [.tup [.call 66 [.var 3, .var 2], .call 67 [.var 3, .var 2]], .tup [.pr .tuple [.var 7], .var 8]]]) [.ret (.con (.bl false))] [],
    .set 12 (.comp [17] [17] false .seq [.var 2] [] (.tup [.pr .idx [.var 17, .con (.int 0)], .pr .len [.comp [15] [15] false .seq [.var 5] [.pr .eq [.pr .idx [.var 15, .con (.int 2)], .pr .idx [.var 17, .con (.int 0)]]] (.var 15)]])),
    .set 13 (.comp [9] [9] false .rng [.pr .len [.var 3]] [] (.pr .len [.comp [15] [15] false .seq [.var 5] [.pr .eq [.pr .idx [.var 15, .con (.int 0)], .var 9]] (.var 15)])),
    .set 14 (.comp [9, 15] [9, 15] true .enum [.var 13] [.and (.pr .eq [.var 15, .pr .maxl [.var 13]]) (.pr .gt [.var 15, .con (.int 0)])] (.var 9)),
    .ite (.pr .not [.call 27 [.tup [.call 68 [.var 3, .var 2], .call 69 [.var 3, .var 2]], .tup [.pr .tuple [.var 12], .pr .tuple [.var 14]]]]) [.ret (.con (.bl false))] []],
    .set 2 (.tup [.tup [.con (.str [65]), .tup [.con (.str [102]), .con (.str [63, 120])], .con (.non), .tup [.tup [.con (.str [105, 110]), .tup [.con (.str [103]), .con (.str [63, 121])]], .tup [.con (.str [119, 105, 116, 104]), .con (.str [63, 120]), .con (.str [97])]]]]),
    .set 3 (.tup [.tup [.tup [.con (.str [103]), .tup [.con (.str [102]), .con (.str [98])]], .tup []], .tup [.tup [.con (.str [102]), .tup [.con (.str [102]), .con (.str [97])]], .tup [.con (.str [65]), .con (.str [66])]], .tup [.tup [.con (.str [102]), .tup [.con (.str [102]), .con (.str [98])]], .tup []]]),
    .ite (.or (.pr .ne [.call 46 [.var 3, .var 2], .tup [.tup [.con (.int 2), .tup [], .con (.str [65])], .tup [.con (.int 2), .tup [.con (.int 0)], .con (.str [65])]]]) (.pr .ne [.call 65 [.var 3, .var 2], .tup [.tup [.con (.int 1), .tup [], .con (.str [65])]]])) [.ret (.con (.bl false))] [],
    .ret (.and (.pr .eq [.call 66 [.var 3, .var 2], .tup [.tup [.con (.int 1), .con (.str [66])]]]) (.pr .eq [.call 69 [.var 3, .var 2], .tup [.con (.int 2)]]))]⟩
/-- size (71) -/
def F_size : Fn := ⟨1, 2, [.ret (.pr .add [.con (.int 1), .pr .sum [.comp [1] [1] false .seq [.call 13 [.var 0]] [] (.call 71 [.var 1])]])]⟩
/-- put_at (16) -/
def F_put_at : Fn := ⟨3, 4, [.expr (.call 15 [.var 0, .var 1]),
    .ite (.pr .eq [.var 1, .tup []]) [.ret (.var 2)] [],
    .set 3 (.pr .add [.pr .idx [.var 1, .con (.int 0)], .con (.int 1)]),
    .ret (.pr .add [.pr .add [.pr (.slc false true) [.var 0, .var 3], .tup [.call 16 [.pr .idx [.var 0, .var 3], .pr (.slc true false) [.var 1, .con (.int 1)], .var 2]]], .pr (.slc true false) [.var 0, .pr .add [.var 3, .con (.int 1)]]])]⟩
/-- rule_of (41) -/
def F_rule_of : Fn := ⟨2, 3, [.for [2] false .seq [.var 0] [.ite (.pr .eq [.pr .idx [.var 2, .con (.int 0)], .var 1]) [.ret (.var 2)] []],
    .expr (.pr .len [])]⟩
/-- is_great (72) -/
def F_is_great : Fn := ⟨1, 2, [.ret (.pr .gt [.pr .sum [.comp [1] [1] false .seq [.var 0] [] (.call 71 [.pr .idx [.var 1, .con (.int 0)]])], .con (.int 200)])]⟩
/-- with_term (42) -/
def F_with_term : Fn := ⟨3, 3, [.ret (.pr .add [.pr .add [.pr (.slc false true) [.var 0, .var 1], .tup [.tup [.var 2, .pr .idx [.pr .idx [.var 0, .var 1], .con (.int 1)]]]], .pr (.slc true false) [.var 0, .pr .add [.var 1, .con (.int 1)]]])]⟩
/-- made (47) -/
def F_made : Fn := ⟨3, 7, [.unp [3, 4, 5] (.var 2),
    .set 6 (.call 41 [.var 1, .var 5]),
    .ite (.pr (.isc (.non)) [.pr .idx [.var 6, .con (.int 2)]]) [.ret (.con (.non))] [],
    .ret (.call 23 [.pr .idx [.var 6, .con (.int 2)], .call 21 [.pr .idx [.var 6, .con (.int 1)], .call 15 [.pr .idx [.pr .idx [.var 0, .var 3], .con (.int 0)], .var 4]]])]⟩
/-- laid (49) -/
def F_laid : Fn := ⟨3, 6, [.unp [3, 4, 5] (.var 1),
    .ret (.call 42 [.var 0, .var 3, .call 16 [.pr .idx [.pr .idx [.var 0, .var 3], .con (.int 0)], .var 4, .var 2]])]⟩
/-- are_apart (51) -/
def F_are_apart : Fn := ⟨2, 3, [.ite (.pr .ne [.pr .idx [.var 0, .con (.int 0)], .pr .idx [.var 1, .con (.int 0)]]) [.ret (.con (.bl true))] [],
    .set 2 (.pr .min2 [.pr .len [.pr .idx [.var 0, .con (.int 1)]], .pr .len [.pr .idx [.var 1, .con (.int 1)]]]),
    .ret (.pr .ne [.pr (.slc false true) [.pr .idx [.var 0, .con (.int 1)], .var 2], .pr (.slc false true) [.pr .idx [.var 1, .con (.int 1)], .var 2]])]⟩
/-- chosen (52) -/
def F_chosen : Fn := ⟨2, 7, [.setM 2 (.lst []),
    .for [3] false .seq [.call 46 [.var 0, .var 1]] [.set 4 (.call 47 [.var 0, .var 1, .var 3]),
    .set 5 (.and (.pr (.isntc (.non)) [.var 4]) (.pr .ne [.var 4, .call 15 [.pr .idx [.pr .idx [.var 0, .pr .idx [.var 3, .con (.int 0)]], .con (.int 0)], .pr .idx [.var 3, .con (.int 1)]]])),
    .ite (.and (.var 5) (.pr .all [.comp [6] [6] false .seq [.var 2] [] (.call 51 [.var 3, .var 6])])) [.expr (.mth .app (.var 2) [.var 3])] []],
    .ret (.pr .tuple [.var 2])]⟩
/-- once (53) -/
def F_once : Fn := ⟨2, 4, [.set 2 (.var 0),
    .for [3] false .seq [.call 52 [.var 0, .var 1]] [.set 2 (.call 49 [.var 2, .var 3, .call 47 [.var 0, .var 1, .var 3]])],
    .ret (.var 2)]⟩
/-- mended (73) -/
def F_mended : Fn := ⟨3, 4, [.setM 3 (.lst []),
    .while (.con (.bl true)) [.ite (.pr .not [.call 52 [.var 0, .var 1]]) [.ret (.tup [.con (.str [114, 101, 115, 116]), .var 0, .pr .len [.var 3]])] [],
    .ite (.pr .isin [.var 0, .var 3]) [.ret (.tup [.con (.str [114, 111, 117, 110, 100]), .mth .index (.var 3) [.var 0], .pr .sub [.pr .len [.var 3], .mth .index (.var 3) [.var 0]]])] [],
    .ite (.or (.call 72 [.var 0]) (.pr .eq [.pr .len [.var 3], .var 2])) [.ret (.tup [.con (.str [111, 112, 101, 110]), .var 0])] [],
    .expr (.mth .app (.var 3) [.var 0]),
    .set 0 (.call 53 [.var 0, .var 1])]]⟩
/-- _law_put (34) -/
def F_law_put : Fn := ⟨3, 4, [.ite (.pr .eq [.var 1, .tup []]) [.ret (.var 2)] [],
    .set 3 (.pr .add [.pr .idx [.var 1, .con (.int 0)], .con (.int 1)]),
    .ret (.pr .add [.pr .add [.pr (.slc false true) [.var 0, .var 3], .tup [.call 34 [.pr .idx [.var 0, .var 3], .pr (.slc true false) [.var 1, .con (.int 1)], .var 2]]], .pr (.slc true false) [.var 0, .pr .add [.var 3, .con (.int 1)]]])]⟩
/-- _law_makes (58) -/
def F_law_makes : Fn := ⟨3, 5, [.set 3 (.pr .idx [.comp [3] [3] false .seq [.var 1] [.pr .eq [.pr .idx [.var 3, .con (.int 0)], .pr .idx [.var 2, .con (.int 2)]]] (.var 3), .con (.int 0)]),
    .set 4 (.pr .dnew []),
    .expr (.call 31 [.pr .idx [.var 3, .con (.int 1)], .call 33 [.pr .idx [.pr .idx [.var 0, .pr .idx [.var 2, .con (.int 0)]], .con (.int 0)], .pr .idx [.var 2, .con (.int 1)]], .var 4]),
    .ret (.ite (.pr (.isc (.non)) [.pr .idx [.var 3, .con (.int 2)]]) (.con (.non)) (.call 30 [.pr .idx [.var 3, .con (.int 2)], .var 4]))]⟩
/-- _law_lay (59) -/
def F_law_lay : Fn := ⟨3, 6, [.unp [3, 4] (.pr (.slc false true) [.var 1, .con (.int 2)]),
    .set 5 (.tup [.call 34 [.pr .idx [.pr .idx [.var 0, .var 3], .con (.int 0)], .var 4, .var 2], .pr .idx [.pr .idx [.var 0, .var 3], .con (.int 1)]]),
    .ret (.pr .add [.pr .add [.pr (.slc false true) [.var 0, .var 3], .tup [.var 5]], .pr (.slc true false) [.var 0, .pr .add [.var 3, .con (.int 1)]]])]⟩
/-- _law_chosen (60) -/
def F_law_chosen : Fn := ⟨2, 8, [.setM 2 (.lst []),
    .for [3] false .seq [.call 57 [.var 0, .var 1]] [.set 4 (.call 58 [.var 0, .var 1, .var 3]),
    .setM 5 (.lst []),
    .for [6] false .seq [.var 2] [.set 7 (.pr .min2 [.pr .len [.pr .idx [.var 3, .con (.int 1)]], .pr .len [.pr .idx [.var 6, .con (.int 1)]]]),
    .ite (.and (.pr .eq [.pr .idx [.var 3, .con (.int 0)], .pr .idx [.var 6, .con (.int 0)]]) (.pr .eq [.pr (.slc false true) [.pr .idx [.var 3, .con (.int 1)], .var 7], .pr (.slc false true) [.pr .idx [.var 6, .con (.int 1)], .var 7]])) [.expr (.mth .app (.var 5) [.var 6])] []],
    .ite (.and (.pr (.isntc (.non)) [.var 4]) (.and (.pr .ne [.var 4, .call 33 [.pr .idx [.pr .idx [.var 0, .pr .idx [.var 3, .con (.int 0)]], .con (.int 0)], .pr .idx [.var 3, .con (.int 1)]]]) (.pr .eq [.var 5, .lst []]))) [.expr (.mth .app (.var 2) [.var 3])] []],
    .ret (.var 2)]⟩
/-- _law_once (61) -/
def F_law_once : Fn := ⟨2, 4, [.set 2 (.var 0),
    .for [3] false .seq [.call 60 [.var 0, .var 1]] [.set 2 (.call 59 [.var 2, .var 3, .call 58 [.var 0, .var 1, .var 3]])],
    .ret (.var 2)]⟩
/-- _law_size (74) -/
def F_law_size : Fn := ⟨1, 2, [.ret (.ite (.pr (.isi [.str]) [.var 0]) (.con (.int 1)) (.pr .add [.con (.int 1), .pr .sum [.comp [1] [1] false .seq [.pr (.slc true false) [.var 0, .con (.int 1)]] [] (.call 74 [.var 1])]]))]⟩
/-- _law_road (75) -/
def F_law_road : Fn := ⟨3, 5, [.setM 3 (.lst []),
    .while (.con (.bl true)) [.ite (.pr .eq [.call 60 [.var 0, .var 1], .lst []]) [.ret (.tup [.con (.str [114, 101, 115, 116]), .var 0, .pr .len [.var 3]])] [],
    .ite (.pr .isin [.var 0, .var 3]) [.ret (.tup [.con (.str [114, 111, 117, 110, 100]), .mth .index (.var 3) [.var 0], .pr .sub [.pr .len [.var 3], .mth .index (.var 3) [.var 0]]])] [],
    .ite (.or (.pr .eq [.pr .len [.var 3], .var 2]) (.pr .gt [.pr .sum [.comp [4] [4] false .seq [.var 0] [] (.call 74 [.pr .idx [.var 4, .con (.int 0)]])], .con (.int 200)])) [.ret (.tup [.con (.str [111, 112, 101, 110]), .var 0])] [],
    .expr (.mth .app (.var 3) [.var 0]),
    .set 0 (.call 61 [.var 0, .var 1])]]⟩
/-- _law_sized (76) -/
def F_law_sized : Fn := ⟨1, 5, [.ite (.pr .eq [.var 0, .con (.int 1)]) [.ret (.con (.str [97]))] [],
    .par [1, 2] [.pr .sub [.var 0, .con (.int 1)], .tup [.con (.str [102])]],
    .for [3] false .rng [.pr .min2 [.con (.int 3), .pr .sub [.var 0, .con (.int 1)]], .con (.int 0), .pr .neg [.con (.int 1)]] [.set 4 (.pr .fdiv [.pr .sub [.pr .add [.var 1, .var 3], .con (.int 1)], .var 3]),
    .par [2, 1] [.pr .add [.var 2, .tup [.call 76 [.var 4]]], .pr .sub [.var 1, .var 4]]],
    .ret (.var 2)]⟩
/-- law (77) -/
def F_law_v5 : Fn := ⟨1, 11, [.setM 1 (.lst [.tup [.tup [.con (.str [65]), .con (.str [97]), .con (.str [98]), .tup []], .tup [.con (.str [66]), .con (.str [98]), .con (.str [97]), .tup []]], .tup [.tup [.con (.str [65]), .con (.str [97]), .tup [.con (.str [102]), .con (.str [97])], .tup []]]]),
    .setM 1 (.pr .add [.var 1, .lst [.tup [.tup [.con (.str [65]), .tup [.con (.str [102]), .con (.str [63, 120])], .tup [.con (.str [103]), .con (.str [63, 120]), .con (.str [63, 120])], .tup []]]]]),
    .expr (.mth .app (.var 1) [.tup [.tup [.con (.str [65]), .tup [.con (.str [102]), .con (.str [63, 120]), .con (.str [63, 121])], .tup [.con (.str [102]), .con (.str [63, 121]), .con (.str [63, 120])], .tup []], .tup [.con (.str [66]), .con (.str [97]), .con (.str [98]), .tup []]]]),
    .set 2 (.tup [.con (.str [66]), .tup [.con (.str [102]), .con (.str [63, 120]), .con (.str [63, 121])], .tup [.con (.str [102]), .tup [.con (.str [103]), .con (.str [63, 121])], .con (.str [63, 120])], .tup []]),
    .expr (.mth .app (.var 1) [.tup [.tup [.con (.str [65]), .tup [.con (.str [102]), .con (.str [63, 120])], .tup [.con (.str [102]), .con (.str [63, 120]), .tup [.con (.str [102]), .con (.str [63, 120])]], .tup []], .var 2]]),
    .for [3] false .rng [.con (.int 16)] [.set 4 (.pr .add [.call 6 [.var 0, .pr .mod [.var 3, .con (.int 9)]], .pr .mul [.con (.int 31), .var 3]]),
    .set 5 (.ite (.pr .eq [.pr .mod [.var 3, .con (.int 3)], .con (.int 0)]) (.pr .idx [.var 1, .pr .mod [.var 3, .con (.int 5)]]) (.call 37 [.var 4, .pr .eq [.pr .mod [.var 3, .con (.int 2)], .con (.int 0)]])),
    .set 6 (.call 54 [.pr .add [.call 6 [.var 0, .con (.int 9)], .pr .mul [.con (.int 7), .var 3]]]),
    .set 7 (.pr .add [.con (.int 1), .call 7 [.var 4, .con (.int 9851), .con (.int 12)]]),
    .ite (.pr .not [.call 27 [.call 73 [.var 6, .var 5, .var 7], .call 75 [.var 6, .var 5, .var 7]]]) [.ret (.con (.bl false))] []],
    .for [8, 9] true .seq [.tup [.tup [.con (.int 100), .con (.int 99)], .tup [.con (.int 100), .con (.int 100)], .tup [.con (.int 101), .con (.int 100)]]] [.set 6 (.tup [.tup [.call 76 [.var 8], .tup []], .tup [.call 76 [.var 9], .tup []]]),
    .ite (.pr .not [.call 27 [.call 73 [.var 6, .pr .idx [.var 1, .con (.int 1)], .con (.int 1)], .call 75 [.var 6, .pr .idx [.var 1, .con (.int 1)], .con (.int 1)]]]) [.ret (.con (.bl false))] []],
    .set 10 (.tup [.tup [.tup [.con (.str [102]), .con (.str [97])], .tup []]]),
    .ite (.pr .ne [.call 73 [.var 10, .pr .idx [.var 1, .con (.int 2)], .con (.int 5)], .tup [.con (.str [114, 101, 115, 116]), .tup [.tup [.tup [.con (.str [103]), .con (.str [97]), .con (.str [97])], .tup []]], .con (.int 1)]]) [.ret (.con (.bl false))] [],
    .ite (.or (.pr .ne [.call 73 [.tup [.tup [.con (.str [97]), .tup []]], .pr .idx [.var 1, .con (.int 0)], .con (.int 9)], .tup [.con (.str [114, 111, 117, 110, 100]), .con (.int 0), .con (.int 2)]]) (.pr .ne [.call 73 [.tup [], .pr .idx [.var 1, .con (.int 0)], .con (.int 1)], .tup [.con (.str [114, 101, 115, 116]), .tup [], .con (.int 0)]])) [.ret (.con (.bl false))] [],
    .ret (.pr .eq [.call 73 [.tup [.tup [.con (.str [97]), .tup []]], .pr .idx [.var 1, .con (.int 1)], .con (.int 3)], .tup [.con (.str [111, 112, 101, 110]), .tup [.tup [.tup [.con (.str [102]), .tup [.con (.str [102]), .tup [.con (.str [102]), .con (.str [97])]]], .tup []]]]])]⟩
/-- mend_of (48) -/
def F_mend_of : Fn := ⟨3, 3, [.ite (.pr .notin [.var 2, .call 46 [.var 0, .var 1]]) [.expr (.pr .len [])] [],
    .ret (.call 47 [.var 0, .var 1, .var 2])]⟩
/-- mended_by (50) -/
def F_mended_by : Fn := ⟨3, 4, [.set 3 (.call 48 [.var 0, .var 1, .var 2]),
    .ite (.pr (.isc (.non)) [.var 3]) [.expr (.pr .len [])] [],
    .ret (.call 49 [.var 0, .var 2, .var 3])]⟩
/-- _law_is_road (100) -/
def F_law_is_road : Fn := ⟨3, 10, [.set 3 (.call 73 [.var 0, .var 1, .var 2]),
    .setM 4 (.lst [.var 0]),
    .for [5] false .rng [.var 2] [.ite (.pr .le [.pr .sum [.comp [8] [8] false .seq [.pr .idx [.var 4, .pr .neg [.con (.int 1)]]] [] (.call 71 [.pr .idx [.var 8, .con (.int 0)]])], .con (.int 200)]) [.expr (.mth .app (.var 4) [.call 53 [.pr .idx [.var 4, .pr .neg [.con (.int 1)]], .var 1]])] []],
    .ite (.pr .eq [.pr .idx [.var 3, .con (.int 0)], .con (.str [114, 101, 115, 116])]) [.ite (.or (.pr .ne [.pr .idx [.var 4, .pr .idx [.var 3, .con (.int 2)]], .pr .idx [.var 3, .con (.int 1)]]) (.pr .ne [.call 52 [.pr .idx [.var 3, .con (.int 1)], .var 1], .tup []])) [.ret (.con (.bl false))] [],
    .ret (.or (.pr .eq [.pr .idx [.var 3, .con (.int 2)], .con (.int 0)]) (.pr .ne [.call 52 [.pr .idx [.var 4, .pr .sub [.pr .idx [.var 3, .con (.int 2)], .con (.int 1)]], .var 1], .tup []]))] [],
    .ite (.pr .eq [.pr .idx [.var 3, .con (.int 0)], .con (.str [114, 111, 117, 110, 100])]) [.unp [6, 7] (.pr (.slc true false) [.var 3, .con (.int 1)]),
    .ret (.and (.pr .eq [.pr .idx [.var 4, .var 6], .pr .idx [.var 4, .pr .add [.var 6, .var 7]]]) (.pr .eq [.comp [9] [9] false .rng [.pr .add [.var 6, .var 7]] [.pr .isin [.pr .idx [.var 4, .var 9], .pr (.slc false true) [.var 4, .var 9]]] (.var 9), .lst []]))] [],
    .ret (.and (.pr .isin [.pr .idx [.var 3, .con (.int 1)], .var 4]) (.pr .ne [.call 52 [.pr .idx [.var 3, .con (.int 1)], .var 1], .tup []]))]⟩
/-- law (101) -/
def F_law_v8 : Fn := ⟨1, 19, [.for [1] false .rng [.con (.int 12)] [.set 2 (.pr .add [.call 6 [.var 0, .pr .mod [.var 1, .con (.int 9)]], .pr .mul [.con (.int 31), .var 1]]),
    .set 3 (.call 37 [.var 2, .pr .eq [.pr .mod [.var 1, .con (.int 2)], .con (.int 0)]]),
    .set 4 (.call 54 [.pr .add [.call 6 [.var 0, .con (.int 9)], .pr .mul [.con (.int 7), .var 1]]]),
    .par [5, 6] [.call 52 [.var 4, .var 3], .call 46 [.var 4, .var 3]],
    .ite (.or (.pr .ne [.comp [7] [7] false .seq [.var 5] [.pr .notin [.var 7, .var 6]] (.var 7), .lst []]) (.pr .ne [.pr .list [.var 5], .comp [7] [7] false .seq [.var 6] [.pr .isin [.var 7, .var 5]] (.var 7)])) [.ret (.con (.bl false))] [],
    .for [7] false .seq [.var 6] [.set 8 (.comp [18] [18] false .seq [.var 5] [.and (.pr .not [.call 51 [.var 7, .var 18]]) (.pr .le [.mth .index (.var 6) [.var 18], .mth .index (.var 6) [.var 7]])] (.var 18)),
    .set 9 (.call 48 [.var 4, .var 3, .var 7]),
    .set 10 (.and (.pr (.isntc (.non)) [.var 9]) (.pr .ne [.var 9, .call 15 [.pr .idx [.pr .idx [.var 4, .pr .idx [.var 7, .con (.int 0)]], .con (.int 0)], .pr .idx [.var 7, .con (.int 1)]]])),
    .ite (.and (.pr .ne [.var 10, .pr .ne [.var 8, .lst []]]) (.or (.var 10) (.pr .eq [.var 8, .lst [.var 7]]))) [.ret (.con (.bl false))] [],
    .ite (.pr (.isntc (.non)) [.var 9]) [.set 11 (.call 50 [.var 4, .var 3, .var 7]),
    .ite (.pr .ne [.pr .idx [.var 11, .pr .idx [.var 7, .con (.int 0)]], .tup [.call 16 [.pr .idx [.pr .idx [.var 4, .pr .idx [.var 7, .con (.int 0)]], .con (.int 0)], .pr .idx [.var 7, .con (.int 1)], .var 9], .pr .idx [.pr .idx [.var 4, .pr .idx [.var 7, .con (.int 0)]], .con (.int 1)]]]) [.ret (.con (.bl false))] [],
    .set 12 (.pr .idx [.var 7, .con (.int 0)]),
    .ite (.or (.pr .ne [.pr (.slc false true) [.var 11, .var 12], .pr (.slc false true) [.var 4, .var 12]]) (.pr .ne [.pr (.slc true false) [.var 11, .pr .add [.var 12, .con (.int 1)]], .pr (.slc true false) [.var 4, .pr .add [.var 12, .con (.int 1)]]])) [.ret (.con (.bl false))] []] []],
    .for [13] false .seq [.tup [.var 5, .pr .rev [.var 5]]] [.set 11 (.var 4),
    .for [14, 15, 16] true .seq [.var 13] [.set 9 (.call 48 [.var 4, .var 3, .tup [.var 14, .var 15, .var 16]]),
    .set 17 (.tup [.call 16 [.pr .idx [.pr .idx [.var 11, .var 14], .con (.int 0)], .var 15, .var 9], .pr .idx [.pr .idx [.var 11, .var 14], .con (.int 1)]]),
    .set 11 (.pr .add [.pr .add [.pr (.slc false true) [.var 11, .var 14], .tup [.var 17]], .pr (.slc true false) [.var 11, .pr .add [.var 14, .con (.int 1)]]])],
    .ite (.pr .ne [.var 11, .call 53 [.var 4, .var 3]]) [.ret (.con (.bl false))] []],
    .ite (.or (.pr .not [.call 100 [.var 4, .var 3, .pr .add [.con (.int 3), .pr .mod [.var 1, .con (.int 2)]]]]) (.pr .ne [.call 53 [.var 4, .tup []], .var 4])) [.ret (.con (.bl false))] []],
    .ret (.con (.bl true))]⟩
/-- menders (19) -/
def F_menders : Fn := ⟨1, 2, [.ret (.comp [1] [1] false .seq [.var 0] [.pr (.isntc (.non)) [.pr .idx [.var 1, .con (.int 2)]]] (.var 1))]⟩
/-- steps (24) -/
def F_steps : Fn := ⟨2, 5, [.setM 2 (.lst []),
    .for [3] false .seq [.call 14 [.var 0]] [.expr (.mth .ext (.var 2) [.comp [4] [4] false .seq [.call 19 [.var 1]] [.pr (.isntc (.non)) [.call 21 [.pr .idx [.var 4, .con (.int 1)], .call 15 [.var 0, .var 3]]]] (.tup [.var 3, .pr .idx [.var 4, .con (.int 0)]])])],
    .ret (.pr .tuple [.var 2])]⟩
/-- step (25) -/
def F_step : Fn := ⟨4, 5, [.ite (.pr .notin [.tup [.var 2, .var 3], .call 24 [.var 0, .var 1]]) [.expr (.pr .len [])] [],
    .set 4 (.pr .idx [.comp [4] [4] false .seq [.var 1] [.pr .eq [.pr .idx [.var 4, .con (.int 0)], .var 3]] (.var 4), .con (.int 0)]),
    .ret (.call 16 [.var 0, .var 2, .call 23 [.pr .idx [.var 4, .con (.int 2)], .call 21 [.pr .idx [.var 4, .con (.int 1)], .call 15 [.var 0, .var 2]]]])]⟩
/-- rest (26) -/
def F_rest : Fn := ⟨3, 5, [.for [3] false .rng [.pr .add [.var 2, .con (.int 1)]] [.set 4 (.call 24 [.var 0, .var 1]),
    .ite (.pr .not [.var 4]) [.ret (.var 0)] [],
    .set 0 (.call 25 [.var 0, .var 1, .pr .idx [.pr .idx [.var 4, .con (.int 0)], .con (.int 0)], .pr .idx [.pr .idx [.var 4, .con (.int 0)], .con (.int 1)]])],
    .ret (.con (.non))]⟩
/-- pair_at (102) -/
def F_pair_at : Fn := ⟨3, 11, [.set 3 (.pr .dnew []),
    .par [4, 5] [.call 91 [.pr .idx [.var 0, .con (.int 1)], .con (.str [46])], .call 91 [.pr .idx [.var 1, .con (.int 1)], .con (.str [58])]],
    .ite (.pr .not [.call 94 [.call 15 [.var 4, .var 2], .var 5, .var 3]]) [.ret (.con (.non))] [],
    .set 6 (.call 93 [.var 4, .var 3]),
    .set 7 (.call 93 [.call 91 [.pr .idx [.var 0, .con (.int 2)], .con (.str [46])], .var 3]),
    .set 8 (.call 16 [.var 6, .var 2, .call 93 [.call 91 [.pr .idx [.var 1, .con (.int 2)], .con (.str [58])], .var 3]]),
    .set 9 (.call 95 [.var 6, .pr .dnew []]),
    .ret (.pr .add [.tup [.pr .idx [.var 0, .con (.int 0)], .pr .idx [.var 1, .con (.int 0)], .var 2], .pr .tuple [.comp [10] [10] false .seq [.tup [.var 6, .var 7, .var 8]] [] (.call 22 [.var 10, .var 9])]])]⟩
/-- pairs (103) -/
def F_pairs : Fn := ⟨1, 6, [.setM 1 (.lst []),
    .for [2] false .seq [.call 19 [.var 0]] [.for [3] false .seq [.call 19 [.var 0]] [.for [4] false .seq [.call 14 [.pr .idx [.var 2, .con (.int 1)]]] [.ite (.and (.pr .not [.call 2 [.call 15 [.pr .idx [.var 2, .con (.int 1)], .var 4]]]) (.or (.pr .ne [.var 4, .tup []]) (.pr .ne [.var 2, .var 3]))) [.expr (.mth .app (.var 1) [.call 102 [.var 2, .var 3, .var 4]])] []]]],
    .ret (.pr .tuple [.comp [5] [5] false .seq [.var 1] [.pr (.isntc (.non)) [.var 5]] (.var 5)])]⟩
/-- parting (104) -/
def F_parting : Fn := ⟨2, 4, [.for [2] false .seq [.call 103 [.var 0]] [.set 3 (.call 26 [.pr .idx [.var 2, .con (.int 4)], .var 0, .var 1]),
    .ite (.or (.pr (.isc (.non)) [.var 3]) (.pr .ne [.var 3, .call 26 [.pr .idx [.var 2, .con (.int 5)], .var 0, .var 1]])) [.ret (.var 2)] []],
    .ret (.con (.non))]⟩
/-- settles (105) -/
def F_settles : Fn := ⟨2, 2, [.ret (.pr (.isc (.non)) [.call 104 [.var 0, .var 1]])]⟩
/-- law (106) -/
def F_law_v9 : Fn := ⟨1, 9, [.setM 1 (.lst [.tup [.tup [.con (.str [65]), .tup [.con (.str [102]), .tup [.con (.str [102]), .con (.str [63, 120])]], .con (.str [63, 120]), .tup []]]]),
    .setM 1 (.pr .add [.var 1, .lst [.tup [.tup [.con (.str [65]), .tup [.con (.str [102]), .con (.str [63, 120])], .con (.str [97]), .tup []], .tup [.con (.str [66]), .tup [.con (.str [102]), .con (.str [63, 120])], .con (.str [98]), .tup []]]]]),
    .expr (.mth .app (.var 1) [.tup [.tup [.con (.str [65]), .tup [.con (.str [102]), .con (.str [63, 120])], .con (.str [97]), .tup []], .tup [.con (.str [66]), .tup [.con (.str [102]), .con (.str [63, 120])], .con (.str [98]), .tup []], .tup [.con (.str [85, 80]), .con (.str [97]), .con (.str [98]), .tup []]]]),
    .for [2] false .rng [.con (.int 12)] [.set 3 (.pr .add [.call 6 [.var 0, .pr .mod [.var 2, .con (.int 9)]], .pr .mul [.con (.int 31), .var 2]]),
    .set 4 (.ite (.pr .eq [.pr .mod [.var 2, .con (.int 4)], .con (.int 0)]) (.pr .idx [.var 1, .pr .mod [.var 2, .con (.int 3)]]) (.pr (.slc false true) [.call 37 [.var 3, .con (.bl true)], .con (.int 3)])),
    .set 5 (.pr .add [.con (.int 1), .call 7 [.var 3, .con (.int 9811), .con (.int 9)]]),
    .set 6 (.con (.non)),
    .for [7] false .seq [.call 103 [.var 4]] [.set 8 (.lst [.call 26 [.pr .idx [.var 7, .con (.int 4)], .var 4, .var 5], .call 26 [.pr .idx [.var 7, .con (.int 5)], .var 4, .var 5]]),
    .ite (.and (.pr (.isc (.non)) [.var 6]) (.or (.pr .ne [.pr .idx [.var 8, .con (.int 0)], .pr .idx [.var 8, .con (.int 1)]]) (.pr (.isc (.non)) [.pr .idx [.var 8, .con (.int 0)]]))) [.set 6 (.var 7)] []],
    .ite (.pr .not [.call 27 [.tup [.call 104 [.var 4, .var 5], .call 105 [.var 4, .var 5]], .tup [.var 6, .pr (.isc (.non)) [.var 6]]]]) [.ret (.con (.bl false))] []],
    .ite (.or (.pr (.isntc (.bl true)) [.call 105 [.pr .idx [.var 1, .con (.int 0)], .con (.int 5)]]) (.or (.pr (.isntc (.bl false)) [.call 105 [.pr .idx [.var 1, .con (.int 1)], .con (.int 5)]]) (.pr (.isntc (.bl true)) [.call 105 [.pr .idx [.var 1, .con (.int 2)], .con (.int 5)]]))) [.ret (.con (.bl false))] [],
    .ret (.and (.pr (.isc (.bl false)) [.call 105 [.pr .idx [.var 1, .con (.int 2)], .con (.int 0)]]) (.pr .eq [.call 104 [.pr .idx [.var 1, .con (.int 1)], .con (.int 5)], .tup [.con (.str [65]), .con (.str [66]), .tup [], .tup [.con (.str [102]), .con (.str [63, 97])], .con (.str [97]), .con (.str [98])]]))]⟩
/-- codes (78) -/
def F_codes : Fn := ⟨1, 2, [.ret (.pr .tuple [.comp [1] [1] false .seq [.var 0] [] (.pr .idx [.var 1, .con (.int 0)])])]⟩
/-- unlike_codes (80) -/
def F_unlike_codes : Fn := ⟨2, 4, [.set 2 (.comp [3] [3] false .seq [.call 78 [.var 0]] [.pr .isin [.var 3, .call 78 [.var 1]]] (.var 3)),
    .ret (.pr .tuple [.pr .sorted [.comp [3] [3] false .seq [.var 2] [.pr .ne [.call 41 [.var 0, .var 3], .call 41 [.var 1, .var 3]]] (.var 3)]])]⟩
/-- apart_codes (81) -/
def F_apart_codes : Fn := ⟨2, 4, [.set 2 (.comp [3] [3] false .seq [.call 78 [.var 0]] [.pr .notin [.var 3, .call 78 [.var 1]]] (.var 3)),
    .ret (.pr .tuple [.pr .sorted [.pr .add [.var 2, .comp [3] [3] false .seq [.call 78 [.var 1]] [.pr .notin [.var 3, .call 78 [.var 0]]] (.var 3)]]])]⟩
/-- joined (82) -/
def F_joined : Fn := ⟨2, 3, [.ite (.call 80 [.var 0, .var 1]) [.expr (.pr .len [])] [],
    .ret (.pr .add [.var 0, .pr .tuple [.comp [2] [2] false .seq [.var 1] [.pr .notin [.pr .idx [.var 2, .con (.int 0)], .call 78 [.var 0]]] (.var 2)]])]⟩
/-- is_covered (83) -/
def F_is_covered : Fn := ⟨2, 3, [.ret (.pr .any [.comp [2] [2] false .seq [.pr (.slc false true) [.var 0, .var 1]] [] (.and (.pr .eq [.pr .idx [.var 2, .con (.int 3)], .tup []]) (.call 79 [.pr .idx [.var 2, .con (.int 1)], .pr .idx [.pr .idx [.var 0, .var 1], .con (.int 1)]]))])]⟩
/-- covered (84) -/
def F_covered : Fn := ⟨1, 3, [.ret (.pr .tuple [.comp [1, 2] [1, 2] true .enum [.var 0] [.call 83 [.var 0, .var 1]] (.pr .idx [.var 2, .con (.int 0)])])]⟩
/-- without_covered (85) -/
def F_without_covered : Fn := ⟨1, 3, [.set 1 (.call 84 [.var 0]),
    .ret (.pr .tuple [.comp [2] [2] false .seq [.var 0] [.pr .notin [.pr .idx [.var 2, .con (.int 0)], .var 1]] (.var 2)])]⟩
/-- law (107) -/
def F_law_v10 : Fn := ⟨1, 18, [.for [1] false .rng [.con (.int 12)] [.set 2 (.call 37 [.pr .add [.call 6 [.var 0, .pr .mod [.var 1, .con (.int 9)]], .pr .mul [.con (.int 31), .var 1]], .pr .eq [.pr .mod [.var 1, .con (.int 2)], .con (.int 0)]]),
    .set 3 (.pr .tuple [.comp [16] [16] false .seq [.call 37 [.pr .add [.call 6 [.var 0, .con (.int 9)], .pr .mul [.con (.int 7), .var 1]], .con (.bl false)]] [] (.pr .add [.tup [.pr .add [.con (.str [88]), .pr (.slc false true) [.pr .idx [.var 16, .con (.int 0)], .con (.int 3)]]], .pr (.slc true false) [.var 16, .con (.int 1)]])]),
    .set 4 (.pr .tuple [.comp [16] [16] false .seq [.pr (.slc false true) [.var 2, .con (.int 2)]] [] (.pr .add [.tup [.pr .add [.con (.str [89]), .pr (.slc false true) [.pr .idx [.var 16, .con (.int 0)], .con (.int 3)]]], .pr (.slc true false) [.var 16, .con (.int 1)]])]),
    .set 5 (.call 54 [.pr .add [.call 6 [.var 0, .con (.int 8)], .pr .mul [.con (.int 5), .var 1]]]),
    .set 6 (.call 82 [.var 2, .var 3]),
    .set 7 (.call 46 [.var 5, .var 6]),
    .ite (.pr .ne [.call 78 [.var 6], .pr .add [.call 78 [.var 2], .call 78 [.var 3]]]) [.ret (.con (.bl false))] [],
    .ite (.pr .ne [.pr .sorted [.var 7], .pr .sorted [.pr .add [.call 46 [.var 5, .var 2], .call 46 [.var 5, .var 3]]]]) [.ret (.con (.bl false))] [],
    .ite (.or (.pr .ne [.call 82 [.var 2, .var 2], .var 2]) (.pr .ne [.call 82 [.var 6, .var 2], .var 6])) [.ret (.con (.bl false))] [],
    .ite (.pr .ne [.call 82 [.call 82 [.var 2, .var 3], .var 4], .call 82 [.var 2, .call 82 [.var 3, .var 4]]]) [.ret (.con (.bl false))] [],
    .ite (.or (.pr .ne [.call 80 [.var 2, .var 6], .tup []]) (.pr .ne [.call 81 [.var 6, .var 6], .tup []])) [.ret (.con (.bl false))] [],
    .ite (.pr .ne [.call 81 [.var 2, .var 6], .pr .tuple [.pr .sorted [.call 78 [.var 3]]]]) [.ret (.con (.bl false))] [],
    .set 8 (.call 82 [.var 4, .var 6]),
    .set 9 (.call 85 [.var 8]),
    .ite (.or (.pr .ne [.call 84 [.var 9], .tup []]) (.pr .ne [.pr .sorted [.pr .add [.call 78 [.var 9], .call 84 [.var 8]]], .pr .sorted [.call 78 [.var 8]]])) [.ret (.con (.bl false))] [],
    .for [10, 11, 12] true .seq [.pr .add [.call 46 [.var 5, .var 8], .call 65 [.var 5, .var 8]]] [.ite (.pr .isin [.var 12, .call 84 [.var 8]]) [.set 13 (.call 15 [.pr .idx [.pr .idx [.var 5, .var 10], .con (.int 0)], .var 11]),
    .set 14 (.pr (.slc false true) [.call 78 [.var 8], .mth .index (.call 78 [.var 8]) [.var 12]]),
    .set 15 (.comp [16] [16] false .seq [.var 9] [.and (.pr .eq [.pr .idx [.var 16, .con (.int 3)], .tup []]) (.pr .isin [.pr .idx [.var 16, .con (.int 0)], .var 14])] (.var 16)),
    .ite (.pr .eq [.comp [16] [16] false .seq [.var 15] [.pr (.isntc (.non)) [.call 21 [.pr .idx [.var 16, .con (.int 1)], .var 13]]] (.var 16), .lst []]) [.ret (.con (.bl false))] []] []],
    .ite (.pr .ne [.call 46 [.var 5, .var 9], .pr .tuple [.comp [17] [17] false .seq [.call 46 [.var 5, .var 8]] [.pr .isin [.pr .idx [.var 17, .con (.int 2)], .call 78 [.var 9]]] (.var 17)]]) [.ret (.con (.bl false))] [],
    .ite (.pr .ne [.comp [16] [16] false .seq [.var 9] [.pr .ne [.call 41 [.var 8, .pr .idx [.var 16, .con (.int 0)]], .var 16]] (.var 16), .lst []]) [.ret (.con (.bl false))] []],
    .ret (.con (.bl true))]⟩
/-- _law_both (108) -/
def F_law_both : Fn := ⟨2, 2, [.ret (.ite (.or (.pr (.isc (.non)) [.var 0]) (.pr (.isc (.non)) [.var 1])) (.con (.non)) (.call 96 [.var 0, .var 1]))]⟩
/-- law (109) -/
def F_law_v11 : Fn := ⟨1, 16, [.for [1] false .rng [.con (.int 16)] [.set 2 (.pr .add [.call 6 [.var 0, .pr .mod [.var 1, .con (.int 9)]], .pr .mul [.con (.int 31), .var 1]]),
    .par [3, 4] [.call 9 [.var 2, .con (.int 3), .con (.bl true)], .call 9 [.pr .add [.call 6 [.var 0, .con (.int 9)], .pr .mul [.con (.int 7), .var 1]], .con (.int 3), .con (.bl true)]],
    .set 5 (.call 9 [.pr .add [.call 6 [.var 0, .con (.int 8)], .pr .mul [.con (.int 5), .var 1]], .con (.int 3), .con (.bl true)]),
    .ite (.pr .eq [.pr .mod [.var 1, .con (.int 2)], .con (.int 0)]) [.par [4, 5] [.call 30 [.var 3, .pr .dlit [.con (.str [63, 120]), .tup [.con (.str [102]), .con (.str [63, 121])]]], .call 30 [.var 3, .pr .dlit [.con (.str [63, 121]), .con (.str [63, 120])]]]] [],
    .par [6, 7] [.call 108 [.call 96 [.var 3, .var 4], .var 5], .call 108 [.var 3, .call 96 [.var 4, .var 5]]],
    .ite (.or (.pr .ne [.pr (.isc (.non)) [.var 6], .pr (.isc (.non)) [.var 7]]) (.and (.pr (.isntc (.non)) [.var 6]) (.pr .not [.call 97 [.var 6, .var 7]]))) [.ret (.con (.bl false))] [],
    .for [8] false .seq [.tup [.var 6, .call 96 [.var 3, .var 4], .call 30 [.var 3, .pr .dlit [.con (.str [63, 120]), .con (.str [97])]]]] [.ite (.and (.pr (.isntc (.non)) [.var 8]) (.pr .not [.call 79 [.var 3, .var 8]])) [.ret (.con (.bl false))] []],
    .set 9 (.call 30 [.var 3, .pr .dlit [.con (.str [63, 120]), .con (.str [98]), .con (.str [63, 121]), .con (.str [98]), .con (.str [63, 97, 98]), .con (.str [98])]]),
    .ite (.and (.call 79 [.var 4, .var 9]) (.pr .not [.call 79 [.or (.call 96 [.var 3, .var 4]) (.con (.str [97])), .var 9]])) [.ret (.con (.bl false))] [],
    .ite (.or (.pr .not [.call 79 [.con (.str [63, 120]), .var 3]]) (.or (.pr .not [.call 97 [.var 3, .call 90 [.var 3]]]) (.pr .ne [.call 96 [.con (.str [63, 113]), .var 3], .call 90 [.var 3]]))) [.ret (.con (.bl false))] [],
    .ite (.and (.call 79 [.var 3, .var 4]) (.and (.call 79 [.var 4, .var 5]) (.pr .not [.call 79 [.var 3, .var 5]]))) [.ret (.con (.bl false))] [],
    .ite (.pr .ne [.and (.call 79 [.var 3, .var 4]) (.call 79 [.var 4, .var 3]), .call 97 [.var 3, .var 4]]) [.ret (.con (.bl false))] [],
    .set 10 (.call 30 [.var 4, .pr .dlit [.con (.str [63, 120]), .con (.str [63, 113]), .con (.str [63, 121]), .con (.str [63, 120]), .con (.str [63, 97, 98]), .con (.str [63, 121])]]),
    .par [11, 12] [.call 96 [.var 3, .var 4], .call 96 [.var 3, .var 10]],
    .ite (.or (.pr .ne [.pr (.isc (.non)) [.var 11], .pr (.isc (.non)) [.var 12]]) (.and (.pr (.isntc (.non)) [.var 11]) (.pr .not [.call 97 [.var 11, .var 12]]))) [.ret (.con (.bl false))] [],
    .set 13 (.pr .tuple [.comp [15] [15] false .seq [.call 18 [.var 3]] [] (.tup [.var 15, .con (.str [110, 105, 108])])]),
    .ite (.or (.pr .not [.call 79 [.var 3, .call 23 [.var 3, .var 13]]]) (.pr .ne [.call 79 [.call 23 [.var 3, .var 13], .var 3], .pr .eq [.var 13, .tup []]])) [.ret (.con (.bl false))] [],
    .set 14 (.pr .idx [.call 14 [.var 3], .pr .neg [.con (.int 1)]]),
    .ite (.pr .not [.call 79 [.call 16 [.var 3, .var 14, .pr (.slc false true) [.con (.str [63, 110, 101, 119]), .con (.int 3)]], .var 3]]) [.ret (.con (.bl false))] []],
    .ret (.con (.bl true))]⟩
/-- _law_renamed (110) -/
def F_law_renamed : Fn := ⟨1, 8, [.set 1 (.pr .dlit [.con (.str [63, 120]), .con (.str [63, 112]), .con (.str [63, 121]), .con (.str [63, 120]), .con (.str [63, 97, 98]), .con (.str [63, 113])]),
    .set 2 (.tup []),
    .for [3, 4, 5, 6] true .seq [.var 0] [.set 7 (.ite (.pr (.isc (.non)) [.var 5]) (.con (.non)) (.call 30 [.var 5, .var 1])),
    .set 2 (.pr .add [.var 2, .tup [.tup [.var 3, .call 30 [.var 4, .var 1], .var 7, .var 6]]])],
    .ret (.var 2)]⟩
/-- law (111) -/
def F_law_v12 : Fn := ⟨1, 15, [.for [1] false .rng [.con (.int 8)] [.set 2 (.pr (.slc false true) [.call 37 [.pr .add [.call 6 [.var 0, .var 1], .pr .mul [.con (.int 3), .var 1]], .con (.bl true)], .con (.int 2)]),
    .set 3 (.pr .tuple [.comp [14] [14] false .seq [.pr (.slc false true) [.call 37 [.pr .add [.call 6 [.var 0, .con (.int 8)], .pr .mul [.con (.int 7), .var 1]], .con (.bl true)], .con (.int 2)]] [] (.pr .add [.tup [.pr .add [.con (.str [88]), .pr (.slc false true) [.pr .idx [.var 14, .con (.int 0)], .con (.int 3)]]], .pr (.slc true false) [.var 14, .con (.int 1)]])]),
    .set 4 (.call 82 [.var 2, .var 3]),
    .set 5 (.call 103 [.var 4]),
    .par [6, 7] [.comp [14] [14] false .seq [.var 2] [] (.pr .idx [.var 14, .con (.int 0)]), .comp [14] [14] false .seq [.var 3] [] (.pr .idx [.var 14, .con (.int 0)])],
    .ite (.pr .ne [.pr .tuple [.comp [8] [8] false .seq [.var 5] [.and (.pr .isin [.pr .idx [.var 8, .con (.int 0)], .var 6]) (.pr .isin [.pr .idx [.var 8, .con (.int 1)], .var 6])] (.var 8)], .call 103 [.var 2]]) [.ret (.con (.bl false))] [],
    .ite (.pr .ne [.pr .tuple [.comp [8] [8] false .seq [.var 5] [.and (.pr .isin [.pr .idx [.var 8, .con (.int 0)], .var 7]) (.pr .isin [.pr .idx [.var 8, .con (.int 1)], .var 7])] (.var 8)], .call 103 [.var 3]]) [.ret (.con (.bl false))] [],
    .for [8] false .seq [.var 5] [.set 9 (.pr .idx [.comp [14] [14] false .seq [.var 4] [.pr .eq [.pr .idx [.var 14, .con (.int 0)], .pr .idx [.var 8, .con (.int 0)]]] (.var 14), .con (.int 0)]),
    .ite (.or (.pr .notin [.pr .idx [.var 8, .con (.int 2)], .call 14 [.pr .idx [.var 9, .con (.int 1)]]]) (.pr .ne [.call 90 [.pr .idx [.var 8, .con (.int 3)]], .pr .idx [.var 8, .con (.int 3)]])) [.ret (.con (.bl false))] [],
    .ite (.or (.pr .notin [.tup [.tup [], .pr .idx [.var 8, .con (.int 0)]], .call 24 [.pr .idx [.var 8, .con (.int 3)], .var 4]]) (.pr .notin [.tup [.pr .idx [.var 8, .con (.int 2)], .pr .idx [.var 8, .con (.int 1)]], .call 24 [.pr .idx [.var 8, .con (.int 3)], .var 4]])) [.ret (.con (.bl false))] []],
    .ite (.pr .ne [.call 103 [.call 110 [.var 4]], .var 5]) [.ret (.con (.bl false))] [],
    .set 10 (.pr .tuple [.comp [14] [14] false .seq [.var 4] [] (.pr .add [.pr (.slc false true) [.var 14, .con (.int 2)], .tup [.con (.non), .tup []]])]),
    .ite (.or (.pr .ne [.call 103 [.var 10], .tup []]) (.or (.pr (.isntc (.bl true)) [.call 105 [.var 10, .con (.int 0)]]) (.pr .ne [.call 103 [.pr .add [.var 2, .pr (.slc true false) [.var 10, .pr .len [.var 2]]]], .call 103 [.var 2]]))) [.ret (.con (.bl false))] [],
    .for [11] false .seq [.tup [.con (.int 2), .con (.int 5)]] [.set 12 (.call 104 [.var 4, .var 11]),
    .ite (.or (.pr .ne [.call 105 [.var 4, .var 11], .pr (.isc (.non)) [.var 12]]) (.and (.pr (.isntc (.non)) [.var 12]) (.pr .notin [.var 12, .var 5]))) [.ret (.con (.bl false))] [],
    .ite (.and (.pr (.isc (.non)) [.var 12]) (.pr (.isntc (.bl true)) [.call 105 [.var 4, .pr .add [.var 11, .con (.int 3)]]])) [.ret (.con (.bl false))] [],
    .ite (.pr (.isntc (.non)) [.var 12]) [.set 13 (.tup [.call 26 [.pr .idx [.var 12, .con (.int 4)], .var 4, .var 11], .call 26 [.pr .idx [.var 12, .con (.int 5)], .var 4, .var 11]]),
    .ite (.and (.pr .eq [.pr .idx [.var 13, .con (.int 0)], .pr .idx [.var 13, .con (.int 1)]]) (.pr (.isntc (.non)) [.pr .idx [.var 13, .con (.int 0)]])) [.ret (.con (.bl false))] []] []]],
    .ret (.con (.bl true))]⟩
/-- _law_size_of (112) -/
def F_law_size_of : Fn := ⟨1, 2, [.ret (.pr .sum [.comp [1] [1] false .seq [.var 0] [] (.call 71 [.pr .idx [.var 1, .con (.int 0)]])])]⟩
/-- law (113) -/
def F_law_v13 : Fn := ⟨1, 17, [.for [1] false .rng [.con (.int 12)] [.set 2 (.pr .add [.call 6 [.var 0, .pr .mod [.var 1, .con (.int 9)]], .pr .mul [.con (.int 31), .var 1]]),
    .set 3 (.call 37 [.var 2, .pr .eq [.pr .mod [.var 1, .con (.int 2)], .con (.int 0)]]),
    .set 4 (.call 54 [.pr .add [.call 6 [.var 0, .con (.int 9)], .pr .mul [.con (.int 7), .var 1]]]),
    .ite (.pr .eq [.pr .mod [.var 1, .con (.int 4)], .con (.int 3)]) [.set 3 (.pr (.slc false true) [.tup [.tup [.con (.str [65]), .con (.str [97]), .con (.str [98]), .tup []], .tup [.con (.str [66]), .con (.str [98]), .con (.str [110, 105, 108]), .tup []], .tup [.con (.str [85, 80]), .con (.str [110, 105, 108]), .con (.str [97]), .tup []]], .pr .add [.con (.int 2), .pr .mod [.var 1, .con (.int 2)]]])] [],
    .set 5 (.call 73 [.var 4, .var 3, .con (.int 5)]),
    .setM 6 (.lst [.var 4]),
    .for [7] false .rng [.con (.int 5)] [.ite (.pr .le [.call 112 [.pr .idx [.var 6, .pr .neg [.con (.int 1)]]], .con (.int 200)]) [.expr (.mth .app (.var 6) [.call 53 [.pr .idx [.var 6, .pr .neg [.con (.int 1)]], .var 3]])] []],
    .ite (.pr .eq [.pr .idx [.var 5, .con (.int 0)], .con (.str [114, 101, 115, 116])]) [.for [8] false .rng [.pr .add [.pr .idx [.var 5, .con (.int 2)], .con (.int 1)]] [.ite (.pr .ne [.call 73 [.pr .idx [.var 6, .var 8], .var 3, .con (.int 5)], .tup [.con (.str [114, 101, 115, 116]), .pr .idx [.var 5, .con (.int 1)], .pr .sub [.pr .idx [.var 5, .con (.int 2)], .var 8]]]) [.ret (.con (.bl false))] []]] [],
    .ite (.pr .eq [.pr .idx [.var 5, .con (.int 0)], .con (.str [114, 111, 117, 110, 100])]) [.unp [9, 10] (.pr (.slc true false) [.var 5, .con (.int 1)]),
    .for [8] false .rng [.pr .add [.var 9, .var 10]] [.ite (.pr .ne [.call 73 [.pr .idx [.var 6, .var 8], .var 3, .con (.int 5)], .tup [.con (.str [114, 111, 117, 110, 100]), .pr .max2 [.con (.int 0), .pr .sub [.var 9, .var 8]], .var 10]]) [.ret (.con (.bl false))] []]] [],
    .ite (.and (.pr .eq [.pr .idx [.var 5, .con (.int 0)], .con (.str [111, 112, 101, 110])]) (.or (.pr .eq [.call 52 [.pr .idx [.var 5, .con (.int 1)], .var 3], .tup []]) (.pr .notin [.pr .idx [.var 5, .con (.int 1)], .var 6]))) [.ret (.con (.bl false))] [],
    .set 11 (.tup []),
    .for [12] false .seq [.var 4] [.set 11 (.pr .add [.var 11, .call 53 [.tup [.var 12], .var 3]])],
    .ite (.pr .ne [.call 53 [.var 4, .var 3], .var 11]) [.ret (.con (.bl false))] [],
    .set 13 (.pr (.slc false true) [.pr .mul [.var 4, .con (.int 15)], .con (.int 60)]),
    .set 14 (.pr .sum [.comp [12] [12] false .seq [.var 13] [] (.pr .len [.call 46 [.tup [.var 12], .var 3]])]),
    .ite (.or (.pr .ne [.call 53 [.var 13, .var 3], .pr (.slc false true) [.pr .mul [.var 11, .con (.int 15)], .con (.int 60)]]) (.pr .ne [.pr .len [.call 46 [.var 13, .var 3]], .var 14])) [.ret (.con (.bl false))] [],
    .set 15 (.pr .tuple [.comp [12] [12] false .seq [.var 4] [] (.tup [.pr .idx [.var 12, .con (.int 0)], .pr .tuple [.pr .sorted [.comp [16] [16] false .seq [.var 3] [] (.pr .idx [.var 16, .con (.int 0)])]]])]),
    .ite (.or (.pr .ne [.call 73 [.var 15, .var 3, .con (.int 3)], .tup [.con (.str [114, 101, 115, 116]), .var 15, .con (.int 0)]]) (.pr .ne [.call 53 [.var 15, .var 3], .var 15])) [.ret (.con (.bl false))] []],
    .ret (.con (.bl true))]⟩
end Eng

/-! Sim -/
set_option linter.all false
set_option maxRecDepth 100000
set_option maxHeartbeats 1000000
/-! Running the evaluator by simp. -/
namespace Eng

theorem run_at {P : Nat → Option Fn} {f : Nat} {F : Fn} (h : P f = some F) (n : Nat) (ds : List D) (S : Sto) (hl : ds.length = F.np) : run P (n + 1) f ds S = fin S (exs (run P n) F.body (start F.ns ds) S) := by
  show (match P f with
    | none => Res.no
    | some F => if ds.length = F.np then fin S (exs (run P n) F.body (start F.ns ds) S) else .no) = _
  rw [h]
  exact if_pos hl
section
variable {a b : Type} {x : a} {S S' : Sto} {f : a → Sto → Res b} {c : Nat}
@[simp] theorem bOk : (Res.ok x S).bind f = f x S := rfl
@[simp] theorem bNo : (Res.no : Res a).bind f = .no := rfl
@[simp] theorem bEx : (Res.exc c S : Res a).bind f = .exc c S := rfl
@[simp] theorem cOk : (Res.ok x S).calm = .ok x S := rfl
@[simp] theorem oS : ofO (some x) S = .ok x S := rfl
@[simp] theorem oN : ofO (none : Option a) S = .no := rfl
end
section
variable {S S' : Sto} {s : Env} {d e : D} {i j : Int} {x y : List Nat} {xs ys : List D} {p q : Bool} {n : Nat} {k : Nat → List D → Sto → Res D}
@[simp] theorem outE_ok {f : D → Sto → Out} : outE s (.ok d S) f = f d S := rfl
@[simp] theorem outB_ok {t : Bool} {f : Bool → Sto → Out} : outB s (.ok t S) f = f t S := rfl
@[simp] theorem outL_ok {f : List D → Sto → Out} : outL s (.ok xs S) f = f xs S := rfl
@[simp] theorem retD_self : retD S d S = .ok d S := by unfold retD; rw [if_pos rfl]
@[simp] theorem fin_rt : fin S (.rt d S') = retD S d S' := rfl
@[simp] theorem fin_nx : fin S (.nx s S') = retD S .non S' := rfl
@[simp] theorem tst_ok : tst (.ok d S) = ofO (truth S d) S := rfl
@[simp] theorem tr_non : truth S .non = some false := rfl
@[simp] theorem tr_bl : truth S (.bl p) = some p := rfl
@[simp] theorem tr_int : truth S (.int i) = some (i != 0) := rfl
@[simp] theorem tr_str : truth S (.str x) = some (!x.isEmpty) := rfl
@[simp] theorem tr_tup : truth S (.tup xs) = some (!xs.isEmpty) := rfl
@[simp] theorem tr_lst : truth S (.lst xs) = some (!xs.isEmpty) := rfl
@[simp] theorem rs_non : rs S .non = .non := rfl
@[simp] theorem rs_bl : rs S (.bl p) = .bl p := rfl
@[simp] theorem rs_int : rs S (.int i) = .int i := rfl
@[simp] theorem rs_str : rs S (.str x) = .str x := rfl
@[simp] theorem rs_tup : rs S (.tup xs) = .tup xs := rfl
@[simp] theorem rs_lst : rs S (.lst xs) = .lst xs := rfl
@[simp] theorem rs_scr {ns : List Int} : rs S (.scr ns) = .scr ns := rfl
theorem rs_loc (h : S[n]? = some (.lst xs)) : rs S (.loc n) = .lst xs := by simp [rs, h]
theorem gd_y {a : Type} {c : Prop} [Decidable c] {x : a} (h : c) : gd c x S = .ok x S := if_pos h
@[simp] theorem gd_true {a : Type} {x : a} [Decidable True] : gd True x S = .ok x S := if_pos trivial
@[simp] theorem g_addS : pr .add [.str x, .str y] S = gd (x.length + y.length ≤ szL) (.str (x ++ y)) S := rfl
@[simp] theorem g_addT : pr .add [.tup xs, .tup ys] S = gd (xs.length + ys.length ≤ szL) (.tup (xs ++ ys)) S := rfl
@[simp] theorem g_addL : pr .add [.lst xs, .lst ys] S = gd (xs.length + ys.length ≤ szL) (.lst (xs ++ ys)) S := rfl
@[simp] theorem g_mulI : pr .mul [.int i, .int j] S = gd ((-(2 ^ 64) < i ∧ i < 2 ^ 64) ∨ (-(2 ^ 64) < j ∧ j < 2 ^ 64)) (.int (i * j)) S := rfl
@[simp] theorem g_mulS : pr .mul [.str x, .int j] S = gd (2 ≤ j ∧ j ≤ 1000 ∧ x.length ≤ 1000) (.str (List.replicate j.toNat x).flatten) S := rfl
@[simp] theorem g_mulL : pr .mul [.lst xs, .int j] S = gd (0 ≤ j ∧ j ≤ 1000 ∧ xs.length ≤ 1000) (.lst (List.replicate j.toNat xs).flatten) S := rfl
@[simp] theorem g_mod : pr .mod [.int i, .int j] S = gd (0 < j) (.int (i % j)) S := rfl
@[simp] theorem g_fdiv : pr .fdiv [.int i, .int j] S = gd (0 < j ∧ j < 1073741824) (.int (i / j)) S := rfl
/-! arithmetic -/
@[simp] theorem p_addI : pr .add [.int i, .int j] S = .ok (.int (i + j)) S := rfl
theorem p_addS (h : x.length + y.length ≤ szL) : pr .add [.str x, .str y] S = .ok (.str (x ++ y)) S := gd_y h
theorem p_addT (h : xs.length + ys.length ≤ szL) : pr .add [.tup xs, .tup ys] S = .ok (.tup (xs ++ ys)) S := gd_y h
theorem p_addL {a b : D} (ha : rs S a = .lst xs) (hb : rs S b = .lst ys) (h : xs.length + ys.length ≤ szL) : pr .add [a, b] S = .ok (.lst (xs ++ ys)) S := by
  simp only [pr, ha, hb]; exact gd_y h
@[simp] theorem p_sub : pr .sub [.int i, .int j] S = .ok (.int (i - j)) S := rfl
theorem p_mulI (h : (-(2 ^ 64) < i ∧ i < 2 ^ 64) ∨ (-(2 ^ 64) < j ∧ j < 2 ^ 64)) : pr .mul [.int i, .int j] S = .ok (.int (i * j)) S := gd_y h
theorem p_mod (h : 0 < j) : pr .mod [.int i, .int j] S = .ok (.int (i % j)) S := gd_y h
theorem p_fdiv (h : 0 < j ∧ j < 1073741824) : pr .fdiv [.int i, .int j] S = .ok (.int (i / j)) S := gd_y h
@[simp] theorem p_neg : pr .neg [.int i] S = .ok (.int (-i)) S := rfl
/-! comparisons -/
theorem p_eq (h : (rs S d).dp ≤ dpL) (h' : (rs S e).dp ≤ dpL) : pr .eq [d, e] S = .ok (.bl ((rs S d).eqv (rs S e))) S := gd_y ⟨h, h'⟩
theorem p_ne (h : (rs S d).dp ≤ dpL) (h' : (rs S e).dp ≤ dpL) : pr .ne [d, e] S = .ok (.bl (!(rs S d).eqv (rs S e))) S := gd_y ⟨h, h'⟩
@[simp] theorem p_eqI : pr .eq [.int i, .int j] S = .ok (.bl (i == j)) S := by simp [pr, gd, D.dp, dpL, D.eqv]
@[simp] theorem p_neI : pr .ne [.int i, .int j] S = .ok (.bl (!(i == j))) S := by simp [pr, gd, D.dp, dpL, D.eqv]
@[simp] theorem p_eqS : pr .eq [.str x, .str y] S = .ok (.bl (x == y)) S := by simp [pr, gd, D.dp, dpL, D.eqv]
@[simp] theorem p_neS : pr .ne [.str x, .str y] S = .ok (.bl (!(x == y))) S := by simp [pr, gd, D.dp, dpL, D.eqv]
@[simp] theorem p_lt : pr .lt [.int i, .int j] S = .ok (.bl (decide (i < j))) S := rfl
@[simp] theorem p_le : pr .le [.int i, .int j] S = .ok (.bl (decide (i ≤ j))) S := rfl
@[simp] theorem p_gt : pr .gt [.int i, .int j] S = .ok (.bl (decide (j < i))) S := rfl
@[simp] theorem p_ge : pr .ge [.int i, .int j] S = .ok (.bl (decide (j ≤ i))) S := rfl
@[simp] theorem p_ltS : pr .lt [.str x, .str y] S = .ok (.bl (strLt x y)) S := rfl
@[simp] theorem p_leS : pr .le [.str x, .str y] S = .ok (.bl (!strLt y x)) S := rfl
@[simp] theorem p_in1 {c : Nat} : pr .isin [.str [c], .str x] S = .ok (.bl (decide (c ∈ x))) S := rfl
@[simp] theorem p_notin1 {c : Nat} : pr .notin [.str [c], .str x] S = .ok (.bl (!decide (c ∈ x))) S := rfl
@[simp] theorem p_iscN : pr (.isc .non) [d] S = .ok (.bl (decide (d = .non))) S := rfl
@[simp] theorem p_isntN : pr (.isntc .non) [d] S = .ok (.bl (!decide (d = .non))) S := rfl
@[simp] theorem p_iscB : pr (.isc (.bl q)) [.bl p] S = .ok (.bl (decide (p = q))) S := rfl
@[simp] theorem p_isntB : pr (.isntc (.bl q)) [.bl p] S = .ok (.bl (!decide (p = q))) S := rfl
theorem p_not {t : Bool} (h : truth S d = some t) : pr .not [d] S = .ok (.bl (!t)) S := by simp [pr, h, ofO]
@[simp] theorem p_notB : pr .not [.bl p] S = .ok (.bl (!p)) S := rfl
/-! sequences -/
@[simp] theorem p_idxT : pr .idx [.tup xs, .int i] S = ofO (atI xs i) S := rfl
@[simp] theorem p_idxL : pr .idx [.lst xs, .int i] S = ofO (atI xs i) S := rfl
@[simp] theorem p_idxS : pr .idx [.str x, .int i] S = ofO ((atI x i).map fun c => .str [c]) S := rfl
@[simp] theorem p_idxC {ns : List Int} : pr .idx [.scr ns, .int i] S = ofO ((atI ns i).map fun n => .int n) S := rfl
@[simp] theorem p_slT0 : pr (.slc true false) [.tup xs, .int i] S = .ok (.tup (cut xs (some i) none)) S := rfl
@[simp] theorem p_slT1 : pr (.slc false true) [.tup xs, .int i] S = .ok (.tup (cut xs none (some i))) S := rfl
@[simp] theorem p_slT2 : pr (.slc true true) [.tup xs, .int i, .int j] S = .ok (.tup (cut xs (some i) (some j))) S := rfl
@[simp] theorem p_slT3 : pr (.slc false false) [.tup xs] S = .ok (.tup (cut xs none none)) S := rfl
@[simp] theorem p_slS0 : pr (.slc true false) [.str x, .int i] S = .ok (.str (cut x (some i) none)) S := rfl
@[simp] theorem p_slS1 : pr (.slc false true) [.str x, .int i] S = .ok (.str (cut x none (some i))) S := rfl
@[simp] theorem p_slS2 : pr (.slc true true) [.str x, .int i, .int j] S = .ok (.str (cut x (some i) (some j))) S := rfl
@[simp] theorem p_slL0 : pr (.slc true false) [.lst xs, .int i] S = .ok (.lst (cut xs (some i) none)) S := rfl
@[simp] theorem p_slL1 : pr (.slc false true) [.lst xs, .int i] S = .ok (.lst (cut xs none (some i))) S := rfl
@[simp] theorem p_slL2 : pr (.slc true true) [.lst xs, .int i, .int j] S = .ok (.lst (cut xs (some i) (some j))) S := rfl
@[simp] theorem p_asint : pr .asint [.int i] S = .ok (.int i) S := rfl
@[simp] theorem p_revT : pr .rev [.tup xs] S = .ok (.tup xs.reverse) S := rfl
@[simp] theorem p_revL : pr .rev [.lst xs] S = .ok (.lst xs.reverse) S := rfl
@[simp] theorem p_lenT : pr .len [.tup xs] S = .ok (.int xs.length) S := rfl
@[simp] theorem p_lenL : pr .len [.lst xs] S = .ok (.int xs.length) S := rfl
@[simp] theorem p_lenS : pr .len [.str x] S = .ok (.int x.length) S := rfl
@[simp] theorem p_lenC {ns : List Int} : pr .len [.scr ns] S = .ok (.int ns.length) S := rfl
@[simp] theorem p_tupL : pr .tuple [.lst xs] S = .ok (.tup xs) S := rfl
@[simp] theorem p_tupT : pr .tuple [.tup xs] S = .ok (.tup xs) S := rfl
@[simp] theorem p_listT : pr .list [.tup xs] S = .ok (.lst xs) S := rfl
@[simp] theorem p_listL : pr .list [.lst xs] S = .ok (.lst xs) S := rfl
theorem p_all {bs : List Bool} (h : boolsD xs = some bs) : pr .all [.lst xs] S = .ok (.bl (bs.all id)) S := by simp [pr, h, ofO]
theorem p_any {bs : List Bool} (h : boolsD xs = some bs) : pr .any [.lst xs] S = .ok (.bl (bs.any id)) S := by simp [pr, h, ofO]
theorem p_isi {ts : List Ty} {t : Bool} (h : isTs (rs S d) ts = some t) : pr (.isi ts) [d] S = .ok (.bl t) S := by simp [pr, h, ofO]
theorem p_app {x : D} (h : S[n]? = some (.lst xs)) (hl : xs.length < szL) : pr .app [.loc n, x] S = .ok .non (S.set n (.lst (xs ++ [x]))) := by
  simp only [pr, h]; exact gd_y hl
@[simp] theorem at0 {a : Type} {x : a} {r : List a} : atI (x :: r) 0 = some x := by simp [atI, ixN]
@[simp] theorem at1 {a : Type} {x y : a} {r : List a} : atI (x :: y :: r) 1 = some y := by unfold atI ixN; rw [if_pos (by decide), if_pos (by simp only [List.length_cons]; omega)]; rfl
@[simp] theorem at2 {a : Type} {x y z : a} {r : List a} : atI (x :: y :: z :: r) 2 = some z := by unfold atI ixN; rw [if_pos (by decide), if_pos (by simp only [List.length_cons]; omega)]; rfl
@[simp] theorem at3 {a : Type} {x y z u : a} {r : List a} : atI (x :: y :: z :: u :: r) 3 = some u := by unfold atI ixN; rw [if_pos (by decide), if_pos (by simp only [List.length_cons]; omega)]; rfl
@[simp] theorem it_lst : items .seq [.lst xs] S = some (xs, none) := rfl
@[simp] theorem it_tup : items .seq [.tup xs] S = some (xs, none) := rfl
@[simp] theorem it_str : items .seq [.str x] S = some (x.map fun c => .str [c], none) := rfl
@[simp] theorem it_rng : items .rng [.int j] S = if -(2 ^ 62) ≤ j ∧ j < 2 ^ 62 then some ((List.range j.toNat).map fun (i : Nat) => .int i, none) else none := rfl
theorem it_loc (h : S[n]? = some (.lst xs)) : items .seq [.loc n] S = some (xs, some n) := by simp [items, h]
@[simp] theorem chk_none : chk xs none S = true := rfl
theorem boolsD_map {a : Type} (f : a → Bool) : ∀ l : List a, boolsD (l.map fun x => .bl (f x)) = some (l.map f)
  | [] => rfl
  | x :: l => by simp [boolsD, boolsD_map f l]
end
@[simp] theorem iTNon_str  : isT .non .str = some false := rfl
@[simp] theorem iTNon_tup  : isT .non .tup = some false := rfl
@[simp] theorem iTNon_int  : isT .non .int = some false := rfl
@[simp] theorem iTNon_bool  : isT .non .bool = some false := rfl
@[simp] theorem iTNon_list  : isT .non .list = some false := rfl
@[simp] theorem iTBl_str {p : Bool} : isT (.bl p) .str = some false := rfl
@[simp] theorem iTBl_tup {p : Bool} : isT (.bl p) .tup = some false := rfl
@[simp] theorem iTBl_int {p : Bool} : isT (.bl p) .int = some true := rfl
@[simp] theorem iTBl_bool {p : Bool} : isT (.bl p) .bool = some true := rfl
@[simp] theorem iTBl_list {p : Bool} : isT (.bl p) .list = some false := rfl
@[simp] theorem iTInt_str {i : Int} : isT (.int i) .str = some false := rfl
@[simp] theorem iTInt_tup {i : Int} : isT (.int i) .tup = some false := rfl
@[simp] theorem iTInt_int {i : Int} : isT (.int i) .int = some true := rfl
@[simp] theorem iTInt_bool {i : Int} : isT (.int i) .bool = some false := rfl
@[simp] theorem iTInt_list {i : Int} : isT (.int i) .list = some false := rfl
@[simp] theorem iTStr_str {x : List Nat} : isT (.str x) .str = some true := rfl
@[simp] theorem iTStr_tup {x : List Nat} : isT (.str x) .tup = some false := rfl
@[simp] theorem iTStr_int {x : List Nat} : isT (.str x) .int = some false := rfl
@[simp] theorem iTStr_bool {x : List Nat} : isT (.str x) .bool = some false := rfl
@[simp] theorem iTStr_list {x : List Nat} : isT (.str x) .list = some false := rfl
@[simp] theorem iTTup_str {xs : List D} : isT (.tup xs) .str = some false := rfl
@[simp] theorem iTTup_tup {xs : List D} : isT (.tup xs) .tup = some true := rfl
@[simp] theorem iTTup_int {xs : List D} : isT (.tup xs) .int = some false := rfl
@[simp] theorem iTTup_bool {xs : List D} : isT (.tup xs) .bool = some false := rfl
@[simp] theorem iTTup_list {xs : List D} : isT (.tup xs) .list = some false := rfl
@[simp] theorem iTLst_str {xs : List D} : isT (.lst xs) .str = some false := rfl
@[simp] theorem iTLst_tup {xs : List D} : isT (.lst xs) .tup = some false := rfl
@[simp] theorem iTLst_int {xs : List D} : isT (.lst xs) .int = some false := rfl
@[simp] theorem iTLst_bool {xs : List D} : isT (.lst xs) .bool = some false := rfl
@[simp] theorem iTLst_list {xs : List D} : isT (.lst xs) .list = some true := rfl
@[simp] theorem iTs_nil {d : D} : isTs d [] = some false := rfl
@[simp] theorem iTs_cons {d : D} {t : Ty} {ts : List Ty} : isTs d (t :: ts) = match isT d t with
    | some true => some true
    | some false => isTs d ts
    | none => none := rfl
@[simp] theorem g_isi {ts : List Ty} {d : D} {S : Sto} : pr (.isi ts) [d] S = ofO ((isTs (rs S d) ts).map D.bl) S := rfl
section
variable {G : Nat → List D → Sto → Res D} {s : Env} {S : Sto}
@[simp] theorem ev_var {i : Nat} : ev G (.var i) s S = getV s i S := by simp only [ev]
@[simp] theorem ev_con {d : D} : ev G (.con d) s S = .ok d S := by simp only [ev]
@[simp] theorem ev_tup {es : List E} : ev G (.tup es) s S = (evs G es s S).bind fun ds S => .ok (.tup ds) S := by simp only [ev]
@[simp] theorem ev_lst {es : List E} : ev G (.lst es) s S = (evs G es s S).bind fun ds S => .ok (.lst ds) S := by simp only [ev]
@[simp] theorem ev_pr {p : Pr} {es : List E} : ev G (.pr p es) s S = (evs G es s S).bind fun ds S => pr p ds S := by simp only [ev]
@[simp] theorem ev_and {a b : E} : ev G (.and a b) s S = (ev G a s S).bind fun d S1 => match truth S1 d with
    | some true => ev G b s S1
    | some false => .ok d S1
    | none => .no := by simp only [ev] <;> rfl
@[simp] theorem ev_or {a b : E} : ev G (.or a b) s S = (ev G a s S).bind fun d S1 => match truth S1 d with
    | some true => .ok d S1
    | some false => ev G b s S1
    | none => .no := by simp only [ev] <;> rfl
@[simp] theorem ev_ite {c a b : E} : ev G (.ite c a b) s S = (tst (ev G c s S)).bind fun t S1 => match t with
    | true => ev G a s S1
    | false => ev G b s S1 := by simp only [ev] <;> rfl
@[simp] theorem ev_chn {o1 o2 : Pr} {a b c : E} : ev G (.chn o1 o2 a b c) s S = (ev G a s S).bind fun x S1 => (ev G b s S1).bind fun y S2 => (pr o1 [x, y] S2).bind fun t S3 => match t with
    | .bl true => (ev G c s S3).bind fun z S4 => pr o2 [y, z] S4
    | .bl false => .ok (.bl false) S3
    | _ => .no := by simp only [ev] <;> rfl
@[simp] theorem ev_call {f : Nat} {es : List E} : ev G (.call f es) s S = (evs G es s S).bind fun ds S => G f ds S := by simp only [ev]
@[simp] theorem ev_mth {p : Pr} {o : E} {es : List E} : ev G (.mth p o es) s S = (ev G o s S).bind fun d S1 => if okM p d S1 = true then (evs G es s S1).bind fun ds S2 => pr p (d :: ds) S2 else .no := by simp only [ev] <;> rfl
@[simp] theorem evs_nil : evs G [] s S = .ok [] S := by simp only [evs]
@[simp] theorem evs_cons {e : E} {es : List E} : evs G (e :: es) s S = (ev G e s S).bind fun d S1 => (evs G es s S1).bind fun ds S2 => .ok (d :: ds) S2 := by simp only [evs]
theorem ev_map {own tg : List Nat} {un : Bool} {k : SK} {srcs : List E} {elt : E} {ds xs : List D} {l : Option Nat} {g : D → D} (hs : evs G srcs s S = .ok ds S) (hi : items k ds S = some (xs, l)) (hl : xs.length ≤ szL) (hk : chk xs l S = true)
    (h : ∀ d ∈ xs, ∃ s1, bindT tg un d (wipe s own) = some s1 ∧ ev G elt s1 S = .ok (g d) S) : ev G (.comp own tg un k srcs [] elt) s S = .ok (.lst (xs.map g)) S := by
  simp only [ev, hs, bOk, hi, if_pos hl]
  have q : ∀ {b : D → Option Env} {c : Env → Sto → Res Bool} {e : Env → Sto → Res D} {k : Sto → Bool} {ds : List D}, (∀ d ∈ ds, ∃ s1, b d = some s1 ∧ c s1 S = .ok true S ∧ e s1 S = .ok (g d) S) → k S = true → compL b c e k ds S = .ok (ds.map g) S := by
    intro b c e k ds
    induction ds with
    | nil => intro _ _; rfl
    | cons d ds ih =>
      intro h hk
      obtain ⟨s1, h1, h2, h3⟩ := h d List.mem_cons_self
      simp only [compL, h1, h2, h3, cOk, bOk, hk, if_true, ih (fun d hd => h d (List.mem_cons_of_mem _ hd)) hk, List.map_cons]
  rw [q (fun d hd => ?_) hk]
  · rfl
  · obtain ⟨s1, h1, h2⟩ := h d hd
    exact ⟨s1, h1, by simp only [evT], h2⟩
theorem ev_fm {own tg : List Nat} {un : Bool} {k : SK} {srcs : List E} {elt c : E} {ds xs : List D} {l : Option Nat} {g : D → D} {t : D → Bool} (hs : evs G srcs s S = .ok ds S) (hi : items k ds S = some (xs, l)) (hl : xs.length ≤ szL) (hk : chk xs l S = true)
    (h : ∀ d ∈ xs, ∃ s1, bindT tg un d (wipe s own) = some s1 ∧ tst (ev G c s1 S) = .ok (t d) S ∧ (t d = true → ev G elt s1 S = .ok (g d) S)) : ev G (.comp own tg un k srcs [c] elt) s S = .ok (.lst ((xs.filter t).map g)) S := by
  simp only [ev, hs, bOk, hi, if_pos hl]
  have q : ∀ {b : D → Option Env} {c : Env → Sto → Res Bool} {e : Env → Sto → Res D} {k : Sto → Bool} {ds : List D}, (∀ d ∈ ds, ∃ s1, b d = some s1 ∧ c s1 S = .ok (t d) S ∧ (t d = true → e s1 S = .ok (g d) S)) → k S = true → compL b c e k ds S = .ok ((ds.filter t).map g) S := by
    intro b c e k ds
    induction ds with
    | nil => intro _ _; rfl
    | cons d ds ih =>
      intro h hk
      obtain ⟨s1, h1, h2, h3⟩ := h d List.mem_cons_self
      have ih := ih (fun d hd => h d (List.mem_cons_of_mem _ hd)) hk
      cases ht : t d with
      | true => simp only [compL, h1, h2, ht, h3 ht, cOk, bOk, hk, if_true, ih, List.filter_cons_of_pos ht, List.map_cons]
      | false =>
        have hn : ¬ t d = true := by rw [ht]; decide
        simp only [compL, h1, h2, ht, cOk, bOk, hk, if_true, ih, List.filter_cons_of_neg hn]
  rw [q (fun d hd => ?_) hk]
  · rfl
  · obtain ⟨s1, h1, h2, h3⟩ := h d hd
    exact ⟨s1, h1, by simp only [evT]; exact h2, h3⟩
@[simp] theorem ex_set {i : Nat} {e : E} : ex G (.set i e) s S = outE s (ev G e s S) fun d S => .nx (s.set i (some d)) S := by simp only [ex]
@[simp] theorem ex_par {tg : List Nat} {es : List E} : ex G (.par tg es) s S = outL s (evs G es s S) fun ds S => if ds.length = tg.length then .nx (sets tg ds s) S else .no := by simp only [ex] <;> rfl
@[simp] theorem ex_ret {e : E} : ex G (.ret e) s S = outE s (ev G e s S) fun d S => .rt d S := by simp only [ex]
@[simp] theorem ex_retN : ex G .retN s S = .rt .non S := by simp only [ex]
@[simp] theorem ex_expr {e : E} : ex G (.expr e) s S = outE s (ev G e s S) fun _ S => .nx s S := by simp only [ex]
@[simp] theorem ex_pass : ex G .pass s S = .nx s S := by simp only [ex]
@[simp] theorem ex_ite {c : E} {a b : List St} : ex G (.ite c a b) s S = outB s (tst (ev G c s S)) fun t S => match t with
    | true => exs G a s S
    | false => exs G b s S := by simp only [ex] <;> rfl
@[simp] theorem ex_setM {i : Nat} {e : E} : ex G (.setM i e) s S = outE s (ev G e s S) fun d S => match d with
    | .lst xs => .nx (s.set i (some (.loc S.length))) (S ++ [.lst xs])
    | _ => .no := by simp only [ex] <;> rfl
@[simp] theorem ex_unp {tg : List Nat} {e : E} : ex G (.unp tg e) s S = outE s (ev G e s S) fun d S => match bindT tg true d s with
    | some s1 => .nx s1 S
    | none => .no := by simp only [ex] <;> rfl
theorem ex_for {tg : List Nat} {un : Bool} {k : SK} {srcs : List E} {body : List St} : ex G (.for tg un k srcs body) s S = outL s (evs G srcs s S) fun ds S1 => match items k ds S1 with
    | none => .no
    | some (xs, l) => forL (fun d s => bindT tg un d s) (fun s S => exs G body s S) (chk xs l) xs s S1 := by simp only [ex] <;> rfl
@[simp] theorem exs_nil : exs G [] s S = .nx s S := by simp only [exs]
@[simp] theorem exs_cons {t : St} {ts : List St} : exs G (t :: ts) s S = match ex G t s S with
    | .nx s1 S1 => exs G ts s1 S1
    | o => o := by simp only [exs] <;> rfl
end
/-! loops -/
theorem compL_map {b : D → Option Env} {c : Env → Sto → Res Bool} {e : Env → Sto → Res D} {k : Sto → Bool} {S : Sto} {g : D → D} : ∀ {ds : List D}, (∀ d ∈ ds, ∃ s1, b d = some s1 ∧ c s1 S = .ok true S ∧ e s1 S = .ok (g d) S) → k S = true → compL b c e k ds S = .ok (ds.map g) S
  | [], _, _ => rfl
  | d :: ds, h, hk => by
    obtain ⟨s1, h1, h2, h3⟩ := h d List.mem_cons_self
    simp only [compL, h1, h2, h3, cOk, bOk, hk, if_true, compL_map (fun d hd => h d (List.mem_cons_of_mem _ hd)) hk, List.map_cons]
theorem compL_fm {b : D → Option Env} {c : Env → Sto → Res Bool} {e : Env → Sto → Res D} {k : Sto → Bool} {S : Sto} {g : D → D} {t : D → Bool} : ∀ {ds : List D}, (∀ d ∈ ds, ∃ s1, b d = some s1 ∧ c s1 S = .ok (t d) S ∧ (t d = true → e s1 S = .ok (g d) S)) → k S = true → compL b c e k ds S = .ok ((ds.filter t).map g) S
  | [], _, _ => rfl
  | d :: ds, h, hk => by
    obtain ⟨s1, h1, h2, h3⟩ := h d List.mem_cons_self
    have ih := compL_fm (fun d hd => h d (List.mem_cons_of_mem _ hd)) hk
    cases ht : t d with
    | true => simp only [compL, h1, h2, ht, h3 ht, cOk, bOk, hk, if_true, ih, List.filter_cons_of_pos ht, List.map_cons]
    | false =>
      have hn : ¬ t d = true := by rw [ht]; decide
      simp only [compL, h1, h2, ht, cOk, bOk, hk, if_true, ih, List.filter_cons_of_neg hn]
theorem forL_inv {b : D → Env → Option Env} {f : Env → Sto → Out} {k : Sto → Bool} (I : Env → Sto → Prop) : ∀ (ds : List D), (∀ d ∈ ds, ∀ s S, I s S → ∃ s1, b d s = some s1 ∧ ∃ s2 S2, f s1 S = .nx s2 S2 ∧ I s2 S2 ∧ k S2 = true) → ∀ s S, I s S → ∃ s' S', forL b f k ds s S = .nx s' S' ∧ I s' S'
  | [], _, s, S, h => ⟨s, S, rfl, h⟩
  | d :: ds, h, s, S, hI => by
    obtain ⟨s1, e1, s2, S2, e2, i2, k2⟩ := h d List.mem_cons_self s S hI
    obtain ⟨s', S', e3, i3⟩ := forL_inv I ds (fun d hd => h d (List.mem_cons_of_mem _ hd)) s2 S2 i2
    exact ⟨s', S', by simp only [forL, e1, e2, k2, if_true]; exact e3, i3⟩
end Eng

/-! M1 -/
set_option linter.all false
set_option maxRecDepth 100000
set_option maxHeartbeats 1000000
namespace Eng
variable {P : Nat → Option Fn} {S : Sto} {n : Nat}

def lawMix (c p m : Int) : Int := (c * 48271 % p) * (c * 48271 % p + 7) % p % m
theorem mix_lo (c p : Int) {m : Int} (h : 0 < m) : 0 ≤ lawMix c p m := Int.emod_nonneg _ (Int.ne_of_gt h)
theorem mix_hi (c p : Int) {m : Int} (h : 0 < m) : lawMix c p m < m := Int.emod_lt_of_pos _ h
theorem r_mix (h : P 7 = some F_law_mix) (hn : 1 ≤ n) (c p m : Int) (hp : 0 < p) (hp2 : p < 2 ^ 60) (hm : 0 < m) : run P n 7 [.int c, .int p, .int m] S = .ok (.int (lawMix c p m)) S := by
  obtain ⟨n, rfl⟩ : ∃ k, n = k + 1 := ⟨n - 1, by omega⟩
  have e1 := Int.emod_nonneg (c * 48271) (Int.ne_of_gt hp)
  have e2 := Int.emod_lt_of_pos (c * 48271) hp
  have g1 : pr .mul [.int c, .int 48271] S = .ok (.int (c * 48271)) S := p_mulI (.inr (by omega))
  have g2 : pr .mul [.int (c * 48271 % p), .int (c * 48271 % p + 7)] S = .ok (.int (c * 48271 % p * (c * 48271 % p + 7))) S := p_mulI (.inl (by omega))
  rw [run_at h _ _ _ rfl]
  simp [F_law_mix, ex_for, getV, start, g1, g2, p_mod hp, p_mod hm, lawMix]
def lawCell (ns : List Int) (k : Nat) : Int := ns.getD k 0
theorem r_cell (h : P 6 = some F_law_cell) (hn : 1 ≤ n) (ns : List Int) (k : Nat) : run P n 6 [.scr ns, .int k] S = .ok (.int (lawCell ns k)) S := by
  obtain ⟨n, rfl⟩ : ∃ k, n = k + 1 := ⟨n - 1, by omega⟩
  rw [run_at h _ _ _ rfl]
  by_cases hk : k < ns.length
  · have e : atI ns (k : Int) = some ns[k] := by
      unfold atI ixN
      simp [hk]
    simp [F_law_cell, ex_for, getV, start, hk, e, lawCell]
  · have e : ns[k]? = none := by simp; omega
    simp [F_law_cell, ex_for, getV, start, hk, lawCell, e]
def sL (s : String) : D := .str (s.toList.map Char.toNat)
def pick4 (a b c d : D) (i : Int) : D := if i = 0 then a else if i = 1 then b else if i = 2 then c else d
theorem at4 {a b c d : D} {i : Int} (h0 : 0 ≤ i) (h1 : i < 4) : atI [a, b, c, d] i = some (pick4 a b c d i) := by
  have : i = 0 ∨ i = 1 ∨ i = 2 ∨ i = 3 := by omega
  rcases this with rfl | rfl | rfl | rfl <;> rfl
def lawLeaf (c : Int) (h : Bool) : D := if (h && lawMix c 9973 2 == 0) = true then pick4 (.str [63, 120]) (.str [63, 121]) (.str [63, 120]) (.str [63, 97, 98]) (lawMix c 9967 4) else pick4 (.str [97]) (.str [98]) (.str [110, 105, 108]) (.str [97]) (lawMix c 9949 4)
theorem r_leaf (h7 : P 7 = some F_law_mix) (h : P 8 = some F_law_leaf) (hn : 2 ≤ n) (c : Int) (t : Bool) : run P n 8 [.int c, .bl t] S = .ok (lawLeaf c t) S := by
  obtain ⟨n, rfl⟩ : ∃ k, n = k + 1 := ⟨n - 1, by omega⟩
  have m : ∀ p m : Int, 0 < p → p < 2 ^ 60 → 0 < m → run P n 7 [.int c, .int p, .int m] S = .ok (.int (lawMix c p m)) S := fun p m a b d => r_mix h7 (by omega) c p m a b d
  have a1 := fun (a b d e : D) => at4 (a := a) (b := b) (c := d) (d := e) (mix_lo c 9967 (m := 4) (by decide)) (mix_hi c 9967 (by decide))
  have a2 := fun (a b d e : D) => at4 (a := a) (b := b) (c := d) (d := e) (mix_lo c 9949 (m := 4) (by decide)) (mix_hi c 9949 (by decide))
  rw [run_at h _ _ _ rfl]
  cases t with
  | false => simp [F_law_leaf, ex_for, getV, start, m, a2, lawLeaf]
  | true =>
    cases hz : (lawMix c 9973 2 == 0) with
    | true => simp [F_law_leaf, ex_for, getV, start, m, a1, lawLeaf, hz]
    | false => simp [F_law_leaf, ex_for, getV, start, m, a2, lawLeaf, hz]
/-- how many parts -/
def lawMany (c : Int) : Nat := if lawMix c 9929 4 = 0 then 1 else if lawMix c 9929 4 = 3 then 3 else 2
def lawName (c : Int) : D := pick4 (.str [102]) (.str [103]) (.str [102]) (.str [110, 111, 116]) (lawMix c 9931 4)
def lawTree : Nat → Int → Bool → D
  | 0, c, h => lawLeaf c h
  | 1, c, h => lawLeaf c h
  | l + 2, c, h => if lawMix c 9941 6 < 2 then lawLeaf c h else .tup (lawName c :: (List.range (lawMany c)).map fun (k : Nat) => lawTree (l + 1) (c * 3 + 7 * (k : Int) + 1) h)
theorem r_tree (h7 : P 7 = some F_law_mix) (h8 : P 8 = some F_law_leaf) (h9 : P 9 = some F_law_tree) : ∀ (l : Nat) {n : Nat} {S : Sto} (c : Int) (t : Bool), l + 3 ≤ n → run P n 9 [.int c, .int ((l : Int) + 1), .bl t] S = .ok (lawTree (l + 1) c t) S := by
  intro l
  induction l with
  | zero =>
    intro n S c t hn
    obtain ⟨n, rfl⟩ : ∃ k, n = k + 1 := ⟨n - 1, by omega⟩
    have m : ∀ p m : Int, 0 < p → p < 2 ^ 60 → 0 < m → run P n 7 [.int c, .int p, .int m] S = .ok (.int (lawMix c p m)) S := fun p m a b d => r_mix h7 (by omega) c p m a b d
    have lf : run P n 8 [.int c, .bl t] S = .ok (lawLeaf c t) S := r_leaf h7 h8 (by omega) c t
    rw [run_at h9 _ _ _ rfl]
    simp [F_law_tree, ex_for, getV, start, m, lf, lawTree]
  | succ l ih =>
    intro n S c t hn
    obtain ⟨n, rfl⟩ : ∃ k, n = k + 1 := ⟨n - 1, by omega⟩
    have m : ∀ p m : Int, 0 < p → p < 2 ^ 60 → 0 < m → run P n 7 [.int c, .int p, .int m] S = .ok (.int (lawMix c p m)) S := fun p m a b d => r_mix h7 (by omega) c p m a b d
    have lf : run P n 8 [.int c, .bl t] S = .ok (lawLeaf c t) S := r_leaf h7 h8 (by omega) c t
    have sub : ∀ x : Int, run P n 9 [.int x, .int ((l : Int) + 1), .bl t] S = .ok (lawTree (l + 1) x t) S := fun x => ih x t (by omega)
    have a1 := fun (a b d e : D) => at4 (a := a) (b := b) (c := d) (d := e) (mix_lo c 9931 (m := 4) (by decide)) (mix_hi c 9931 (by decide))
    have g1 : pr .mul [.int c, .int 3] S = .ok (.int (c * 3)) S := p_mulI (.inr (by omega))
    have g2 : ∀ k : Int, pr .mul [.int 7, .int k] S = .ok (.int (7 * k)) S := fun k => p_mulI (.inl (by omega))
    have hl : ((l : Int) + 1 + 1 == 1) = false := by rw [beq_eq_false_iff_ne]; omega
    have hs : (l : Int) + 1 + 1 - 1 = (l : Int) + 1 := by omega
    rw [run_at h9 _ _ _ rfl]
    by_cases hw : lawMix c 9941 6 < 2
    · simp [F_law_tree, ex_for, getV, start, m, lf, lawTree, hl, hw]
    · have q : lawMix c 9929 4 = 0 ∨ lawMix c 9929 4 = 1 ∨ lawMix c 9929 4 = 2 ∨ lawMix c 9929 4 = 3 := by
        have := mix_lo c 9929 (m := 4) (by decide)
        have := mix_hi c 9929 (m := 4) (by decide)
        omega
      have a2 : ∀ a b d e : D, atI [a, b, d, e] (lawMix c 9929 4) = some (pick4 a b d e (lawMix c 9929 4)) := fun a b d e => at4 (mix_lo c 9929 (by decide)) (mix_hi c 9929 (by decide))
      rcases q with q | q | q | q <;>
        simp [F_law_tree, ex_for, getV, start, m, lf, lawTree, hl, hw, a1, a2, q, pick4, forL, bindT, g1, g2, hs, sub, p_addT, szL, lawMany, lawName, List.range, List.range.loop]
end Eng

/-! MA -/
set_option linter.all false
set_option maxRecDepth 100000
set_option maxHeartbeats 1000000
namespace Eng
variable {P : Nat → Option Fn} {S : Sto} {n : Nat}

/- no object of the store, no script within -/
mutual
def D.fine : D → Bool
  | .tup xs => D.fines xs
  | .lst xs => D.fines xs
  | .loc _ => false
  | .scr _ => false
  | _ => true
def D.fines : List D → Bool
  | [] => true
  | x :: xs => x.fine && D.fines xs
end
theorem fines_mem : ∀ {xs : List D}, D.fines xs = true → ∀ x ∈ xs, x.fine = true
  | [], _, x, hx => by simp at hx
  | y :: ys, h, x, hx => by
    simp only [D.fines, Bool.and_eq_true] at h
    rcases List.mem_cons.mp hx with rfl | hx
    · exact h.1
    · exact fines_mem h.2 x hx
theorem fines_of : ∀ {xs : List D}, (∀ x ∈ xs, x.fine = true) → D.fines xs = true
  | [], _ => by simp [D.fines]
  | y :: ys, h => by
    simp only [D.fines, Bool.and_eq_true]
    exact ⟨h y List.mem_cons_self, fines_of fun x hx => h x (List.mem_cons_of_mem _ hx)⟩
@[simp] theorem fine_tup {xs : List D} : (D.tup xs).fine = D.fines xs := by simp only [D.fine]
@[simp] theorem fine_lst {xs : List D} : (D.lst xs).fine = D.fines xs := by simp only [D.fine]
@[simp] theorem fine_str {x : List Nat} : (D.str x).fine = true := by simp only [D.fine]
@[simp] theorem fine_int {x : Int} : (D.int x).fine = true := by simp only [D.fine]
@[simp] theorem fine_bl {x : Bool} : (D.bl x).fine = true := by simp only [D.fine]
@[simp] theorem fine_non : (D.non).fine = true := by simp only [D.fine]
@[simp] theorem fine_loc {x : Nat} : (D.loc x).fine = false := by simp only [D.fine]
@[simp] theorem fine_scr {x : List Int} : (D.scr x).fine = false := by simp only [D.fine]
theorem fine_rs {d : D} (h : d.fine = true) : rs S d = d := by
  cases d <;> first | rfl | (simp at h)
def isStr : D → Bool
  | .str _ => true
  | _ => false
def isTupl : D → Bool
  | .tup _ => true
  | _ => false
theorem p_isStr {d : D} (h : d.fine = true) : pr (.isi [.str]) [d] S = .ok (.bl (isStr d)) S := by
  cases d <;> first | rfl | (simp at h)
theorem p_isTup {d : D} (h : d.fine = true) : pr (.isi [.tup]) [d] S = .ok (.bl (isTupl d)) S := by
  cases d <;> first | rfl | (simp at h)

def LET : List Nat := [97, 98, 99, 100, 101, 102, 103, 104, 105, 106, 107, 108, 109, 110, 111, 112, 113, 114, 115, 116, 117, 118, 119, 120, 121, 122]
theorem mem_LET (c : Nat) : decide (c ∈ LET) = (decide (97 ≤ c) && decide (c ≤ 122)) := by
  rw [Bool.eq_iff_iff]
  simp only [LET, decide_eq_true_eq, Bool.and_eq_true, List.mem_cons, List.not_mem_nil, or_false]
  omega
/-- small letters alone -/
def low (s : List Nat) : Bool := s.all fun c => decide (c ∈ LET)
def isName (d : D) (m : Int) : Bool := match d with
  | .str s => decide (1 ≤ (s.length : Int)) && decide ((s.length : Int) ≤ m) && low s
  | _ => false
theorem r_name (h : P 1 = some F_is_name) (hn : 1 ≤ n) (d : D) (m : Int) (hd : d.fine = true) (hl : m ≤ 1000) : run P n 1 [d, .int m] S = .ok (.bl (isName d m)) S := by
  obtain ⟨n, rfl⟩ : ∃ k, n = k + 1 := ⟨n - 1, by omega⟩
  rw [run_at h _ _ _ rfl]
  cases d with
  | str s =>
    have hi := p_isStr (S := S) (d := .str s) rfl
    by_cases h1 : (1 : Int) ≤ s.length
    · by_cases h2 : (s.length : Int) ≤ m
      · have hc : ev (run P n) (.comp [2] [2] false .seq [.var 0] [] (.pr .isin [.var 2, .con (.str [97, 98, 99, 100, 101, 102, 103, 104, 105, 106, 107, 108, 109, 110, 111, 112, 113, 114, 115, 116, 117, 118, 119, 120, 121, 122])])) [some (.str s), some (.int m), none] S
            = .ok (.lst (s.map fun c => .bl (decide (c ∈ LET)))) S := by
          refine (ev_map (g := fun d => match d with | .str [c] => .bl (decide (c ∈ LET)) | _ => .non) (ds := [.str s]) (by simp [getV]) it_str (by simp [szL]; omega) rfl fun d hd => ?_).trans (by simp [Function.comp_def])
          obtain ⟨c, _, rfl⟩ := List.mem_map.mp hd
          exact ⟨[some (.str s), some (.int m), some (.str [c])], rfl, by simp [getV, LET]⟩
        simp [F_is_name, getV, start, hi, isStr, isName, h1, h2, hc, p_all (boolsD_map _ s), low]
      · simp [F_is_name, getV, start, hi, isStr, isName, h1, h2]
    · simp [F_is_name, getV, start, hi, isStr, isName, h1]
  | loc _ => simp at hd
  | scr _ => simp at hd
  | _ => simp [F_is_name, getV, start, p_isStr, isStr, isName]
def isHole (d : D) : Bool := match d with
  | .str (63 :: s) => isName (.str s) 2
  | _ => false
theorem cut_tail {a : Type} (xs : List a) : cut xs (some 1) none = xs.tail := by
  cases xs with
  | nil => rfl
  | cons x r =>
    unfold cut sIx
    have e : min (1 : Int).toNat (x :: r).length = 1 := by simp
    simp only [show ¬ ((1 : Int) < 0) by decide, if_false, e]
    simp
theorem cut_head {a : Type} (xs : List a) : cut xs none (some 1) = xs.take 1 := by
  cases xs with
  | nil => rfl
  | cons x r =>
    unfold cut sIx
    have e : min (1 : Int).toNat (x :: r).length = 1 := by simp
    simp only [show ¬ ((1 : Int) < 0) by decide, if_false, e]
    simp
theorem r_hole (h1 : P 1 = some F_is_name) (h : P 2 = some F_is_hole) (hn : 2 ≤ n) (d : D) (hd : d.fine = true) : run P n 2 [d] S = .ok (.bl (isHole d)) S := by
  obtain ⟨n, rfl⟩ : ∃ k, n = k + 1 := ⟨n - 1, by omega⟩
  rw [run_at h _ _ _ rfl]
  have nm : ∀ s, run P n 1 [.str s, .int 2] S = .ok (.bl (isName (.str s) 2)) S := fun s => r_name h1 (by omega) _ _ rfl (by decide)
  cases d with
  | str s =>
    have hi := p_isStr (S := S) (d := .str s) rfl
    cases s with
    | nil => simp [F_is_hole, getV, start, hi, isStr, isHole, cut_head]
    | cons c r =>
      by_cases hc : c = 63
      · subst hc; simp [F_is_hole, getV, start, hi, isStr, isHole, cut_head, cut_tail, nm]
      · have e : isHole (.str (c :: r)) = false := by
          unfold isHole; split
          · rename_i q; cases q; exact absurd rfl hc
          · rfl
        simp [F_is_hole, getV, start, hi, isStr, e, cut_head, beq_eq_false_iff_ne.mpr hc]
  | loc _ => simp at hd
  | scr _ => simp at hd
  | _ => simp [F_is_hole, getV, start, p_isStr, isStr, isHole]
/-! how deep -/
theorem dps_le {m : Nat} : ∀ {xs : List D}, D.dps xs ≤ m ↔ ∀ x ∈ xs, x.dp ≤ m
  | [] => by simp [D.dps]
  | y :: ys => by
    have := dps_le (m := m) (xs := ys)
    simp only [D.dps, List.mem_cons, forall_eq_or_imp, ← this]
    omega
@[simp] theorem dp_tup {xs : List D} : (D.tup xs).dp = D.dps xs + 1 := by simp only [D.dp]
@[simp] theorem dp_lst {xs : List D} : (D.lst xs).dp = D.dps xs + 1 := by simp only [D.dp]
@[simp] theorem dp_str {x : List Nat} : (D.str x).dp = 0 := by simp only [D.dp]
@[simp] theorem dp_int {x : Int} : (D.int x).dp = 0 := by simp only [D.dp]
@[simp] theorem dp_bl {x : Bool} : (D.bl x).dp = 0 := by simp only [D.dp]
@[simp] theorem dp_non : (D.non).dp = 0 := by simp only [D.dp]
@[simp] theorem dps_nil : D.dps [] = 0 := by simp only [D.dps]
@[simp] theorem dps_cons {x : D} {xs : List D} : D.dps (x :: xs) = max x.dp (D.dps xs) := by simp only [D.dps]
@[simp] theorem fines_nil : D.fines [] = true := by simp only [D.fines]
@[simp] theorem fines_cons {x : D} {xs : List D} : D.fines (x :: xs) = (x.fine && D.fines xs) := by simp only [D.fines]
theorem p_eqNil {xs : List D} (h : D.dps xs ≤ 100) : pr .eq [.lst xs, .lst []] S = .ok (.bl xs.isEmpty) S := by
  have e := p_eq (S := S) (d := .lst xs) (e := .lst []) (by simp [dpL]; omega) (by simp [dpL])
  rw [e]
  congr 2
  cases xs <;> simp [D.eqv, D.eqvs]
theorem strLt1 (a b : Nat) : strLt [a] [b] = decide (a < b) := by
  unfold strLt
  rw [Bool.eq_iff_iff]
  simp [List.cons_lt_cons_iff]

end Eng

/-! B1 -/
set_option linter.all false
set_option maxRecDepth 100000
set_option maxHeartbeats 1000000
/-! Terms: ways, parts. -/
namespace Eng
variable {P : Nat → Option Fn} {S : Sto} {n : Nat}

/-! ### step by step -/
theorem run_e {f : Nat} {F : Fn} (h : P f = some F) (ds : List D) (S : Sto) (env : Env) (hl : ds.length = F.np) (he : start F.ns ds = env) : run P (n + 1) f ds S = fin S (exs (run P n) F.body env S) := by
  subst he; exact run_at h n ds S hl
section
variable {G : Nat → List D → Sto → Res D} {t : St} {ts : List St} {s s2 : Env} {S1 S2 : Sto} {r : Res D} {d : D} {c : Nat}
theorem xs_nx (h : ex G t s S = .nx s2 S2) : exs G (t :: ts) s S = exs G ts s2 S2 := by simp only [exs_cons, h]
theorem xs_rt (h : ex G t s S = .rt d S2) : exs G (t :: ts) s S = .rt d S2 := by simp only [exs_cons, h]
theorem xs_ex (h : ex G t s S = .exc c s2 S2) : exs G (t :: ts) s S = .exc c s2 S2 := by simp only [exs_cons, h]
theorem fx_nx (s2 : Env) (S2 : Sto) (h : ex G t s S1 = .nx s2 S2) (h2 : fin S (exs G ts s2 S2) = r) : fin S (exs G (t :: ts) s S1) = r := by rw [xs_nx h]; exact h2
theorem fx_rt (d : D) (S2 : Sto) (h : ex G t s S1 = .rt d S2) (h2 : retD S d S2 = r) : fin S (exs G (t :: ts) s S1) = r := by rw [xs_rt h]; exact h2
theorem fx_ex (c : Nat) (s2 : Env) (S2 : Sto) (h : ex G t s S1 = .exc c s2 S2) (h2 : fin S (.exc c s2 S2) = r) : fin S (exs G (t :: ts) s S1) = r := by rw [xs_ex h]; exact h2
theorem forL_nx {b : D → Env → Option Env} {f : Env → Sto → Out} {k : Sto → Bool} {d : D} {ds : List D} {s1 : Env} (s2 : Env) (S2 : Sto) (hb : b d s = some s1) (hf : f s1 S = .nx s2 S2) (hk : k S2 = true) {o : Out} (h : forL b f k ds s2 S2 = o) : forL b f k (d :: ds) s S = o := by
  simp only [forL, hb, hf, hk, if_true]; exact h
theorem forL_rt {b : D → Env → Option Env} {f : Env → Sto → Out} {k : Sto → Bool} {d e : D} {ds : List D} {s1 : Env} (hb : b d s = some s1) (hf : f s1 S = .rt e S2) : forL b f k (d :: ds) s S = .rt e S2 := by
  simp only [forL, hb, hf]
theorem forL_ex {b : D → Env → Option Env} {f : Env → Sto → Out} {k : Sto → Bool} {d : D} {ds : List D} {s1 : Env} (hb : b d s = some s1) (hf : f s1 S = .exc c s2 S2) : forL b f k (d :: ds) s S = .exc c s2 S2 := by
  simp only [forL, hb, hf]
/-- a for, its source evaluated -/
theorem ex_forE {tg : List Nat} {un : Bool} {k : SK} {srcs : List E} {body : List St} {ds xs : List D} {l : Option Nat} {o : Out} (h : evs G srcs s S = .ok ds S1) (hi : items k ds S1 = some (xs, l)) (ho : forL (fun d s => bindT tg un d s) (fun s S => exs G body s S) (chk xs l) xs s S1 = o) : ex G (.for tg un k srcs body) s S = o := by
  rw [ex_for, h, outL_ok, hi]; exact ho
end
/-! ### the store -/
@[simp] theorem sto_at {m : MO} : (S ++ [m])[S.length]? = some m := by simp
@[simp] theorem sto_set {m m' : MO} : (S ++ [m]).set S.length m' = S ++ [m'] := by
  rw [List.set_append_right _ _ (Nat.le_refl _)]; simp
theorem keep_app (S M : Sto) : keepS S (S ++ M) = true := by simp [keepS]
theorem ret_pure {d : D} (h : d.pure = true) (M : Sto) : retD S d (S ++ M) = .ok d S := by
  unfold retD
  split
  · rename_i e
    have : M = [] := by
      rw [List.length_append] at e
      exact List.eq_nil_of_length_eq_zero (by omega)
    rw [this, List.append_nil]
  · rw [if_pos (keep_app S M)]
    cases d with
    | loc l => simp [D.pure] at h
    | _ => simp [h]
theorem ret_lst {xs : List D} {M : Sto} {j : Nat} (e : M[j]? = some (.lst xs)) (h : D.pures xs = true) : retD S (.loc (S.length + j)) (S ++ M) = .ok (.lst xs) S := by
  have hj := (List.getElem?_eq_some_iff.mp e).1
  unfold retD
  rw [if_neg (by rw [List.length_append]; omega), if_pos (keep_app S M)]
  have e2 : (S ++ M)[S.length + j]? = some (.lst xs) := by rw [List.getElem?_append_right (by omega)]; simpa using e
  simp [e2, h]
theorem ret_lst0 {xs : List D} (h : D.pures xs = true) : retD S (.loc S.length) (S ++ [.lst xs]) = .ok (.lst xs) S := ret_lst (j := 0) (M := [.lst xs]) rfl h
@[simp] theorem pure_tup {xs : List D} : (D.tup xs).pure = D.pures xs := by simp only [D.pure]
@[simp] theorem pure_lst {xs : List D} : (D.lst xs).pure = D.pures xs := by simp only [D.pure]
@[simp] theorem pure_str {x : List Nat} : (D.str x).pure = true := by simp only [D.pure]
@[simp] theorem pure_int {x : Int} : (D.int x).pure = true := by simp only [D.pure]
@[simp] theorem pure_bl {x : Bool} : (D.bl x).pure = true := by simp only [D.pure]
@[simp] theorem pure_non : (D.non).pure = true := by simp only [D.pure]
@[simp] theorem pures_nil : D.pures [] = true := by simp only [D.pures]
@[simp] theorem pures_cons {x : D} {xs : List D} : D.pures (x :: xs) = (x.pure && D.pures xs) := by simp only [D.pures]
theorem pures_of : ∀ {xs : List D}, (∀ x ∈ xs, x.pure = true) → D.pures xs = true
  | [], _ => by simp
  | y :: ys, h => by
    simp only [pures_cons, Bool.and_eq_true]
    exact ⟨h y List.mem_cons_self, pures_of fun x hx => h x (List.mem_cons_of_mem _ hx)⟩
theorem pures_app {xs ys : List D} (h : D.pures xs = true) (h' : D.pures ys = true) : D.pures (xs ++ ys) = true := by
  induction xs with
  | nil => simpa using h'
  | cons x xs ih => simp only [pures_cons, Bool.and_eq_true, List.cons_append] at h ⊢; exact ⟨h.1, ih h.2⟩
mutual
theorem pure_of_fine : ∀ {d : D}, d.fine = true → d.pure = true
  | .tup xs, h => by simp only [fine_tup] at h; simp only [pure_tup]; exact pures_of_fines h
  | .lst xs, h => by simp only [fine_lst] at h; simp only [pure_lst]; exact pures_of_fines h
  | .non, _ => by simp
  | .bl _, _ => by simp
  | .int _, _ => by simp
  | .str _, _ => by simp
  | .loc _, h => by simp at h
  | .scr _, h => by simp at h
theorem pures_of_fines : ∀ {xs : List D}, D.fines xs = true → D.pures xs = true
  | [], _ => by simp
  | x :: xs, h => by
    simp only [fines_cons, Bool.and_eq_true] at h
    simp only [pures_cons, Bool.and_eq_true]
    exact ⟨pure_of_fine h.1, pures_of_fines h.2⟩
end

/-! ### terms, at most l within one another -/
def okLf (s : List Nat) : Bool := !s.isEmpty && (isHole (.str s) == (s.head? == some 63)) && decide (s.length ≤ 100)
def tm : Nat → D → Bool
  | 0, _ => false
  | _ + 1, .str s => okLf s
  | l + 1, .tup (.str f :: ps) => decide (1 ≤ ps.length) && decide (ps.length ≤ 3) && decide (f.length ≤ 100) && ps.all (tm l)
  | _ + 1, _ => false
/-- as a leaf, or as a node -/
theorem tm_cases {l : Nat} {d : D} (h : tm (l + 1) d = true) : (∃ s, d = .str s ∧ okLf s = true) ∨ ∃ f ps, d = .tup (.str f :: ps) ∧ 1 ≤ ps.length ∧ ps.length ≤ 3 ∧ f.length ≤ 100 ∧ ∀ p ∈ ps, tm l p = true := by
  cases d with
  | str s => exact .inl ⟨s, rfl, by simpa only [tm] using h⟩
  | tup xs =>
    cases xs with
    | nil => simp [tm] at h
    | cons x ps =>
      cases x with
      | str f =>
        simp only [tm, Bool.and_eq_true, decide_eq_true_eq, List.all_eq_true] at h
        exact .inr ⟨f, ps, rfl, h.1.1.1, h.1.1.2, h.1.2, h.2⟩
      | _ => simp [tm] at h
  | _ => simp [tm] at h
theorem tm_node {l : Nat} {f : List Nat} {ps : List D} (h1 : 1 ≤ ps.length) (h2 : ps.length ≤ 3) (h3 : f.length ≤ 100) (h4 : ∀ p ∈ ps, tm l p = true) : tm (l + 1) (.tup (.str f :: ps)) = true := by
  simp only [tm, Bool.and_eq_true, decide_eq_true_eq, List.all_eq_true]
  exact ⟨⟨⟨h1, h2⟩, h3⟩, h4⟩
theorem tm_up : ∀ {l : Nat} {d : D}, tm l d = true → tm (l + 1) d = true
  | 0, _, h => by simp [tm] at h
  | l + 1, d, h => by
    rcases tm_cases h with ⟨s, rfl, hs⟩ | ⟨f, ps, rfl, h1, h2, h3, h4⟩
    · simpa only [tm] using hs
    · exact tm_node h1 h2 h3 fun p hp => tm_up (h4 p hp)
theorem tm_le {l m : Nat} (hm : l ≤ m) {d : D} (h : tm l d = true) : tm m d = true := by
  induction hm with
  | refl => exact h
  | step _ ih => exact tm_up ih
theorem tm_fine : ∀ {l : Nat} {d : D}, tm l d = true → d.fine = true
  | 0, _, h => by simp [tm] at h
  | l + 1, d, h => by
    rcases tm_cases h with ⟨s, rfl, hs⟩ | ⟨f, ps, rfl, h1, h2, h3, h4⟩
    · simp
    · simp only [fine_tup, fines_cons, fine_str, Bool.true_and]
      exact fines_of fun p hp => tm_fine (h4 p hp)
theorem tm_pure {l : Nat} {d : D} (h : tm l d = true) : d.pure = true := pure_of_fine (tm_fine h)
theorem tm_dp : ∀ {l : Nat} {d : D}, tm l d = true → d.dp ≤ l
  | 0, _, h => by simp [tm] at h
  | l + 1, d, h => by
    rcases tm_cases h with ⟨s, rfl, hs⟩ | ⟨f, ps, rfl, h1, h2, h3, h4⟩
    · simp
    · simp only [dp_tup, dps_cons, dp_str]
      have : D.dps ps ≤ l := dps_le.mpr fun p hp => tm_dp (h4 p hp)
      omega
def kids : D → List D
  | .tup (_ :: ps) => ps
  | _ => []
theorem tm_kids {l : Nat} {d : D} (h : tm (l + 1) d = true) : (kids d).length ≤ 3 ∧ ∀ p ∈ kids d, tm l p = true := by
  rcases tm_cases h with ⟨s, rfl, hs⟩ | ⟨f, ps, rfl, h1, h2, h3, h4⟩
  · simp [kids]
  · exact ⟨h2, h4⟩
theorem r_parts (h : P 13 = some F_parts_of) (hn : 1 ≤ n) {l : Nat} {d : D} (hd : tm (l + 1) d = true) : run P n 13 [d] S = .ok (.tup (kids d)) S := by
  obtain ⟨n, rfl⟩ : ∃ k, n = k + 1 := ⟨n - 1, by omega⟩
  rw [run_at h _ _ _ rfl]
  rcases tm_cases hd with ⟨s, rfl, hs⟩ | ⟨f, ps, rfl, h1, h2, h3, h4⟩
  · simp [F_parts_of, getV, start, kids]
  · simp [F_parts_of, getV, start, kids, cut_tail]

/-! ### ways -/
def wayD (w : List Nat) : D := .tup (w.map fun (k : Nat) => .int k)
def wysK (f : D → List (List Nat)) : Nat → List D → List (List Nat)
  | _, [] => []
  | k, p :: ps => (f p).map (k :: ·) ++ wysK f (k + 1) ps
def wys : Nat → D → List (List Nat)
  | 0, _ => []
  | l + 1, d => [] :: wysK (wys l) 0 (kids d)
def nW : Nat → Nat
  | 0 => 0
  | l + 1 => 1 + 3 * nW l
theorem nW_mono {l m : Nat} (h : l ≤ m) : nW l ≤ nW m := by
  induction h with
  | refl => exact Nat.le_refl _
  | step _ ih => simp only [nW]; omega
theorem nW_14 {l : Nat} (h : l ≤ 14) : nW l ≤ 2391484 := Nat.le_trans (nW_mono h) (by decide)
theorem wysK_len {f : D → List (List Nat)} {b : Nat} : ∀ {ps : List D} {k : Nat}, (∀ p ∈ ps, (f p).length ≤ b) → (wysK f k ps).length ≤ ps.length * b
  | [], k, _ => by simp [wysK]
  | p :: ps, k, h => by
    simp only [wysK, List.length_append, List.length_map, List.length_cons]
    have h1 := h p List.mem_cons_self
    have h2 := wysK_len (k := k + 1) fun q hq => h q (List.mem_cons_of_mem _ hq)
    have : (ps.length + 1) * b = ps.length * b + b := Nat.succ_mul _ _
    omega
theorem wys_len : ∀ {l : Nat} {d : D}, tm l d = true → (wys l d).length ≤ nW l
  | 0, _, h => by simp [tm] at h
  | l + 1, d, h => by
    obtain ⟨h1, h2⟩ := tm_kids h
    simp only [wys, nW, List.length_cons]
    have := wysK_len (f := wys l) (b := nW l) (k := 0) fun p hp => wys_len (h2 p hp)
    have h3 : (kids d).length * nW l ≤ 3 * nW l := Nat.mul_le_mul_right _ h1
    omega
theorem wayD_pure (w : List Nat) : (wayD w).pure = true := by
  unfold wayD
  simp only [pure_tup]
  exact pures_of fun x hx => by obtain ⟨k, _, rfl⟩ := List.mem_map.mp hx; simp
theorem wys_pure (ws : List (List Nat)) : D.pures (ws.map wayD) = true := pures_of fun x hx => by obtain ⟨k, _, rfl⟩ := List.mem_map.mp hx; exact wayD_pure k
theorem wysK_wlen {f : D → List (List Nat)} {b : Nat} : ∀ {ps : List D} {k : Nat}, (∀ p ∈ ps, ∀ w ∈ f p, w.length ≤ b) → ∀ w ∈ wysK f k ps, w.length ≤ b + 1
  | [], k, _, w, hw => by simp [wysK] at hw
  | p :: ps, k, h, w, hw => by
    simp only [wysK, List.mem_append, List.mem_map] at hw
    rcases hw with ⟨v, hv, rfl⟩ | hw
    · have := h p List.mem_cons_self v hv
      simp; omega
    · exact wysK_wlen (fun q hq => h q (List.mem_cons_of_mem _ hq)) w hw
theorem wys_wlen : ∀ {l : Nat} {d : D} {w : List Nat}, w ∈ wys l d → w.length ≤ l
  | 0, _, w, h => by simp [wys] at h
  | l + 1, d, w, h => by
    simp only [wys, List.mem_cons] at h
    rcases h with rfl | h
    · simp
    · exact wysK_wlen (fun p _ v hv => wys_wlen hv) w h
/-- the loop of both: over the parts, with their places -/
theorem ways_loop {id l : Nat} (hl : l ≤ 100) (o0 : Option D) {kc : Sto → Bool} (hkc : ∀ S, kc S = true) (hr : ∀ (S : Sto) (p : D), tm l p = true → (wys l p).length ≤ szL → ∃ x, run P n id [p] S = .ok x S ∧ items .seq [x] S = some ((wys l p).map wayD, none)) :
    ∀ (ps : List D) (k : Nat) (acc : List D) (a b : Option D), (∀ p ∈ ps, tm l p = true) → acc.length + (wysK (wys l) k ps).length ≤ szL →
    ∃ a' b', forL (fun d s => bindT [2, 3] true d s) (fun s S => exs (run P n) [.expr (.mth .ext (.var 1) [.comp [4] [4] false .seq [.call id [.var 3]] [] (.pr .add [.tup [.var 2], .var 4])])] s S) kc ((ps.zipIdx k).map fun p => .tup [.int p.2, p.1]) [o0, some (.loc S.length), a, b, none] (S ++ [.lst acc])
      = .nx [o0, some (.loc S.length), a', b', none] (S ++ [.lst (acc ++ (wysK (wys l) k ps).map wayD)])
  | [], k, acc, a, b, h, hs => ⟨a, b, by simp [forL, wysK]⟩
  | p :: ps, k, acc, a, b, h, hs => by
    have hp := h p List.mem_cons_self
    simp only [wysK, List.length_append, List.length_map] at hs
    obtain ⟨x, rw, iw⟩ := hr (S ++ [.lst acc]) p hp (by omega)
    have hm : ev (run P n) (.comp [4] [4] false .seq [.call id [.var 3]] [] (.pr .add [.tup [.var 2], .var 4])) [o0, some (.loc S.length), some (.int k), some p, none] (S ++ [.lst acc]) = .ok (.lst (((wys l p).map (k :: ·)).map wayD)) (S ++ [.lst acc]) := by
      refine (ev_map (g := fun d => match d with | .tup xs => .tup (.int k :: xs) | _ => .non) (ds := [x]) (by simp [getV, rw]) iw (by simp; omega) rfl fun d hd => ?_).trans ?_
      · obtain ⟨w, hw, rfl⟩ := List.mem_map.mp hd
        have wl := wys_wlen hw
        exact ⟨[o0, some (.loc S.length), some (.int k), some p, some (wayD w)], rfl, by simp [getV, wayD, szL]; exact gd_y (by omega)⟩
      · congr 2
        simp [wayD, Function.comp_def]
    obtain ⟨a', b', ih⟩ := ways_loop hl o0 hkc hr ps (k + 1) (acc ++ ((wys l p).map (k :: ·)).map wayD) (some (.int k)) (some p) (fun q hq => h q (List.mem_cons_of_mem _ hq)) (by simp; omega)
    have ok : okM .ext (.loc S.length) (S ++ [.lst acc]) = true := by simp [okM, rs]
    have px : pr .ext [.loc S.length, .lst (((wys l p).map (k :: ·)).map wayD)] (S ++ [.lst acc]) = .ok .non (S ++ [.lst (acc ++ ((wys l p).map (k :: ·)).map wayD)]) := by
      simp only [pr, sto_at, rs_lst, sto_set]
      exact gd_y (by simp; omega)
    refine ⟨a', b', ?_⟩
    rw [List.zipIdx_cons, List.map_cons]
    refine forL_nx _ _ rfl (xs_nx ?_) (hkc _) (ih.trans (by simp [wysK]))
    simp only [sets, List.set_cons_zero, List.set_cons_succ, ex_expr, ev_mth, ev_var, getV, List.getElem?_cons_succ, List.getElem?_cons_zero, bOk, ok, if_true, evs_cons, hm, evs_nil, px, outE_ok]
theorem r_ways (h13 : P 13 = some F_parts_of) (h : P 14 = some F_ways) : ∀ {l n : Nat} {S : Sto} {d : D}, l ≤ 100 → (wys l d).length ≤ szL → tm l d = true → l + 2 ≤ n → run P n 14 [d] S = .ok (.tup ((wys l d).map wayD)) S
  | 0, n, S, d, _, _, hd, _ => by simp [tm] at hd
  | l + 1, n, S, d, hl, hz, hd, hn => by
    obtain ⟨n, rfl⟩ : ∃ k, n = k + 1 := ⟨n - 1, by omega⟩
    obtain ⟨h1, h2⟩ := tm_kids hd
    have hp := r_parts (S := S ++ [.lst [.tup []]]) h13 (n := n) (by omega) hd
    obtain ⟨a', b', lp⟩ := ways_loop (n := n) (S := S) (id := 14) (l := l) (by omega) (some d) (kc := fun _ => true) (fun _ => rfl) (fun S p hp hz => ⟨_, r_ways h13 h (by omega) hz hp (by omega), rfl⟩) (kids d) 0 [.tup []] none none h2 (by simp only [wys, List.length_cons] at hz; simp only [List.length_cons, List.length_nil]; omega)
    rw [run_e h _ _ [some d, none, none, none, none] rfl rfl]
    refine fx_nx [some d, some (.loc S.length), none, none, none] (S ++ [.lst [.tup []]]) (by simp) ?_
    refine fx_nx _ _ (ex_forE (ds := [.tup (kids d)]) (by simp [getV, hp]) rfl lp) ?_
    exact fx_rt (.tup ((wys (l + 1) d).map wayD)) (S ++ [.lst ([.tup []] ++ (wysK (wys l) 0 (kids d)).map wayD)]) (by simp [getV, pr, rs, wys, wayD]) (ret_pure (by simp [wys_pure]) _)
theorem r_lways (h : P 32 = some F_law_ways) : ∀ {l n : Nat} {S : Sto} {d : D}, l ≤ 100 → (wys l d).length ≤ szL → tm l d = true → l + 1 ≤ n → run P n 32 [d] S = .ok (.lst ((wys l d).map wayD)) S
  | 0, n, S, d, _, _, hd, _ => by simp [tm] at hd
  | l + 1, n, S, d, hl, hz, hd, hn => by
    obtain ⟨n, rfl⟩ : ∃ k, n = k + 1 := ⟨n - 1, by omega⟩
    obtain ⟨h1, h2⟩ := tm_kids hd
    obtain ⟨a', b', lp⟩ := ways_loop (n := n) (S := S) (id := 32) (l := l) (by omega) (some d) (kc := fun _ => true) (fun _ => rfl) (fun S p hp hz => ⟨_, r_lways h (by omega) hz hp (by omega), rfl⟩) (kids d) 0 [.tup []] none none h2 (by simp only [wys, List.length_cons] at hz; simp only [List.length_cons, List.length_nil]; omega)
    rcases tm_cases hd with ⟨s, rfl, hs⟩ | ⟨f, ps, rfl, g1, g2, g3, g4⟩
    · rw [run_at h _ _ _ rfl]
      simp [F_law_ways, getV, start, wys, kids, wysK, wayD]
    · simp only [kids] at lp
      rw [run_e h _ _ [some _, none, none, none, none] rfl rfl]
      refine fx_nx [some (.tup (.str f :: ps)), none, none, none, none] S (by simp [getV]) ?_
      refine fx_nx [some (.tup (.str f :: ps)), some (.loc S.length), none, none, none] (S ++ [.lst [.tup []]]) (by simp) ?_
      refine fx_nx _ _ (ex_forE (ds := [.tup ps]) (by simp [getV, cut_tail]) rfl lp) ?_
      refine fx_rt (.loc S.length) (S ++ [.lst ([.tup []] ++ (wysK (wys l) 0 ps).map wayD)]) (by simp [getV]) ?_
      rw [ret_lst0 (by simp [wys_pure])]
      simp [wys, wayD, kids]
end Eng

/-! B2 -/
set_option linter.all false
set_option maxRecDepth 100000
set_option maxHeartbeats 1000000
/-! Terms: the part at a way, another one put there. -/
namespace Eng
variable {P : Nat → Option Fn} {S : Sto} {n : Nat}

def prt : D → List Nat → Option D
  | d, [] => some d
  | d, k :: w => match (kids d)[k]? with
    | some p => prt p w
    | none => none
theorem prt_cons {d e : D} {k : Nat} {w : List Nat} (h : prt d (k :: w) = some e) : ∃ p, (kids d)[k]? = some p ∧ prt p w = some e := by
  simp only [prt] at h
  split at h
  · rename_i p hp; exact ⟨p, hp, h⟩
  · cases h
theorem tm_prt : ∀ {w : List Nat} {l : Nat} {d e : D}, tm l d = true → prt d w = some e → w.length < l ∧ tm (l - w.length) e = true
  | [], 0, d, e, h, _ => by simp [tm] at h
  | [], l + 1, d, e, h, hp => by simp only [prt, Option.some.injEq] at hp; subst hp; exact ⟨by simp, by simpa using h⟩
  | k :: w, 0, d, e, h, _ => by simp [tm] at h
  | k :: w, l + 1, d, e, h, hp => by
    obtain ⟨p, h1, h2⟩ := prt_cons hp
    obtain ⟨q1, q2⟩ := tm_prt ((tm_kids h).2 p (List.mem_of_getElem? h1)) h2
    exact ⟨by simp; omega, by simpa using q2⟩
theorem wysK_mem {f : D → List (List Nat)} {w : List Nat} : ∀ {ps : List D} {k : Nat}, w ∈ wysK f k ps → ∃ j p v, ps[j]? = some p ∧ v ∈ f p ∧ w = (k + j) :: v
  | [], k, h => by simp [wysK] at h
  | p :: ps, k, h => by
    simp only [wysK, List.mem_append, List.mem_map] at h
    rcases h with ⟨v, hv, rfl⟩ | h
    · exact ⟨0, p, v, rfl, hv, rfl⟩
    · obtain ⟨j, q, v, h1, h2, h3⟩ := wysK_mem h
      exact ⟨j + 1, q, v, by simpa using h1, h2, by rw [h3]; congr 1; omega⟩
/-- each way leads to a part -/
theorem wys_prt : ∀ {l : Nat} {d : D} {w : List Nat}, w ∈ wys l d → ∃ e, prt d w = some e
  | 0, _, _, h => by simp [wys] at h
  | l + 1, d, w, h => by
    simp only [wys, List.mem_cons] at h
    rcases h with rfl | h
    · exact ⟨d, rfl⟩
    · obtain ⟨j, p, v, h1, h2, rfl⟩ := wysK_mem h
      obtain ⟨e, he⟩ := wys_prt h2
      exact ⟨e, by simp only [prt, Nat.zero_add, h1]; exact he⟩
/-! ### part_at -/
theorem atI_nat {a : Type} (xs : List a) (k : Nat) : atI xs (k : Int) = xs[k]? := by
  unfold atI ixN
  by_cases h : k < xs.length
  · simp [h]
  · rw [if_pos (by omega), if_neg (by omega)]
    simp
    omega
theorem part_loop (h13 : P 13 = some F_parts_of) (hn : 1 ≤ n) {st : List St} {o1 : Option D} {kc : Sto → Bool} (hkc : ∀ S, kc S = true) : ∀ (w : List Nat) {l : Nat} {d e : D} (a b : Option D), tm l d = true → prt d w = some e →
    ∃ a' b', forL (fun d s => bindT [2] false d s) (fun s S => exs (run P n) [.set 3 (.call 13 [.var 0]), .ite (.pr .not [.chn .le .lt (.con (.int 0)) (.var 2) (.pr .len [.var 3])]) st [], .set 0 (.pr .idx [.var 3, .var 2])] s S) kc (w.map fun (k : Nat) => .int k) [some d, o1, a, b] S = .nx [some e, o1, a', b'] S
  | [], l, d, e, a, b, _, hp => by simp only [prt, Option.some.injEq] at hp; subst hp; exact ⟨a, b, rfl⟩
  | k :: w, 0, d, e, a, b, h, hp => by simp [tm] at h
  | k :: w, l + 1, d, e, a, b, h, hp => by
    obtain ⟨p, h1, h2⟩ := prt_cons hp
    obtain ⟨a', b', ih⟩ := part_loop h13 hn (st := st) (o1 := o1) hkc w (some (.int k)) (some (.tup (kids d))) ((tm_kids h).2 p (List.mem_of_getElem? h1)) h2
    refine ⟨a', b', ?_⟩
    have hk := (List.getElem?_eq_some_iff.mp h1).1
    have q1 : (0 : Int) ≤ (k : Int) := by omega
    have q2 : (k : Int) < ((kids d).length : Int) := by omega
    rw [List.map_cons]
    refine forL_nx _ _ rfl ?_ (hkc _) ih
    refine (xs_nx (s2 := [some d, o1, some (.int k), some (.tup (kids d))]) (S2 := S) (by simp [getV, r_parts (S := S) h13 hn h])).trans ?_
    refine (xs_nx (s2 := [some d, o1, some (.int k), some (.tup (kids d))]) (S2 := S) (by simp [getV, q1, q2])).trans ?_
    exact xs_nx (by simp [getV, atI_nat, h1])
theorem r_part (h13 : P 13 = some F_parts_of) (h : P 15 = some F_part_at) (hn : 2 ≤ n) {l : Nat} {d e : D} {w : List Nat} (hd : tm l d = true) (hp : prt d w = some e) : run P n 15 [d, wayD w] S = .ok e S := by
  obtain ⟨n, rfl⟩ : ∃ k, n = k + 1 := ⟨n - 1, by omega⟩
  rw [run_e h _ _ [some d, some (wayD w), none, none] rfl rfl]
  obtain ⟨a', b', lp⟩ := part_loop (S := S) h13 (n := n) (by omega) (o1 := some (wayD w)) (kc := fun _ => true) (fun _ => rfl) w none none hd hp
  refine fx_nx [some e, some (wayD w), a', b'] S (ex_forE (ds := [wayD w]) (xs := w.map fun (k : Nat) => .int k) (l := none) (S1 := S) (by simp [getV]) rfl lp) ?_
  exact fx_rt e S (by simp [getV]) retD_self
theorem lpart_loop {o1 : Option D} {kc : Sto → Bool} (hkc : ∀ S, kc S = true) {G : Nat → List D → Sto → Res D} : ∀ (w : List Nat) {l : Nat} {d e : D} (a : Option D), tm l d = true → prt d w = some e →
    ∃ a', forL (fun d s => bindT [2] false d s) (fun s S => exs G [.set 0 (.pr .idx [.var 0, .pr .add [.var 2, .con (.int 1)]])] s S) kc (w.map fun (k : Nat) => .int k) [some d, o1, a] S = .nx [some e, o1, a'] S
  | [], l, d, e, a, _, hp => by simp only [prt, Option.some.injEq] at hp; subst hp; exact ⟨a, rfl⟩
  | k :: w, 0, d, e, a, h, hp => by simp [tm] at h
  | k :: w, l + 1, d, e, a, h, hp => by
    obtain ⟨p, h1, h2⟩ := prt_cons hp
    obtain ⟨a', ih⟩ := lpart_loop (o1 := o1) hkc (G := G) w (some (.int k)) ((tm_kids h).2 p (List.mem_of_getElem? h1)) h2
    refine ⟨a', ?_⟩
    rw [List.map_cons]
    refine forL_nx _ _ rfl ?_ (hkc _) ih
    rcases tm_cases h with ⟨s, rfl, hs⟩ | ⟨f, ps, rfl, g1, g2, g3, g4⟩
    · simp [kids] at h1
    · simp only [kids] at h1
      have e1 : atI (D.str f :: ps) ((k : Int) + 1) = some p := by
        have := atI_nat (D.str f :: ps) (k + 1)
        rw [show ((k + 1 : Nat) : Int) = (k : Int) + 1 from by omega] at this
        rw [this]; simpa using h1
      exact xs_nx (by simp [getV, e1])
theorem r_lpart (h : P 33 = some F_law_part) (hn : 1 ≤ n) {l : Nat} {d e : D} {w : List Nat} (hd : tm l d = true) (hp : prt d w = some e) : run P n 33 [d, wayD w] S = .ok e S := by
  obtain ⟨n, rfl⟩ : ∃ k, n = k + 1 := ⟨n - 1, by omega⟩
  rw [run_e h _ _ [some d, some (wayD w), none] rfl rfl]
  obtain ⟨a', lp⟩ := lpart_loop (S := S) (G := run P n) (o1 := some (wayD w)) (kc := fun _ => true) (fun _ => rfl) w none hd hp
  refine fx_nx [some e, some (wayD w), a'] S (ex_forE (ds := [wayD w]) (xs := w.map fun (k : Nat) => .int k) (l := none) (S1 := S) (by simp [getV]) rfl lp) ?_
  exact fx_rt e S (by simp [getV]) retD_self
/-! ### put_at -/
def ptt : D → List Nat → D → D
  | _, [], x => x
  | d, k :: w, x => match d with
    | .tup (f :: ps) => .tup (f :: ps.set k (ptt (ps.getD k .non) w x))
    | d => d
theorem cut_to {a : Type} (xs : List a) (m : Nat) : cut xs none (some (m : Int)) = xs.take m := by
  unfold cut sIx
  simp only [show ¬ ((m : Int) < 0) from by omega, if_false, List.drop_zero, Int.toNat_natCast, Nat.sub_zero]
  rw [List.take_eq_take_iff]; omega
theorem cut_from {a : Type} (xs : List a) (m : Nat) : cut xs (some (m : Int)) none = xs.drop m := by
  unfold cut sIx
  simp only [show ¬ ((m : Int) < 0) from by omega, if_false, Int.toNat_natCast]
  by_cases h : m ≤ xs.length
  · rw [Nat.min_eq_left h, List.take_of_length_le (by simp)]
  · rw [Nat.min_eq_right (by omega), List.drop_of_length_le (by omega), List.drop_of_length_le (by omega)]; simp
theorem set_cut {a : Type} {xs : List a} {k : Nat} {x : a} (h : k < xs.length) : xs.take k ++ [x] ++ xs.drop (k + 1) = xs.set k x := by
  rw [List.set_eq_take_append_cons_drop, if_pos h]; simp
theorem tm_put : ∀ {w : List Nat} {l m j : Nat} {d e x : D}, tm l d = true → prt d w = some e → tm j x = true → j + w.length ≤ m → l ≤ m → tm m (ptt d w x) = true
  | [], l, m, j, d, e, x, _, _, hx, hj, _ => by simp only [ptt]; exact tm_le (by simpa using hj) hx
  | k :: w, 0, m, j, d, e, x, h, hp, hx, hj, hl => by simp [tm] at h
  | k :: w, l + 1, 0, j, d, e, x, h, hp, hx, hj, hl => by omega
  | k :: w, l + 1, m + 1, j, d, e, x, h, hp, hx, hj, hl => by
    obtain ⟨p, h1, h2⟩ := prt_cons hp
    rcases tm_cases h with ⟨s, rfl, hs⟩ | ⟨f, ps, rfl, g1, g2, g3, g4⟩
    · simp [kids] at h1
    · simp only [kids] at h1
      have hk := (List.getElem?_eq_some_iff.mp h1).1
      have eq : ps.getD k .non = p := by rw [List.getD_eq_getElem?_getD, h1]; rfl
      simp only [ptt, eq]
      have ih := tm_put (m := m) (g4 p (List.mem_of_getElem? h1)) h2 hx (by simp at hj; omega) (by omega)
      refine tm_node (by simpa using g1) (by simpa using g2) g3 fun q hq => ?_
      rcases List.mem_or_eq_of_mem_set hq with hq | rfl
      · exact tm_le (by omega) (g4 q hq)
      · exact ih
theorem eq_nil (w : List Nat) : pr .eq [wayD w, .tup []] S = .ok (.bl w.isEmpty) S := by
  have hd : D.dps (w.map fun (k : Nat) => D.int k) = 0 := by
    have : D.dps (w.map fun (k : Nat) => D.int k) ≤ 0 := dps_le.mpr fun x hx => by obtain ⟨k, _, rfl⟩ := List.mem_map.mp hx; simp
    omega
  have e := p_eq (S := S) (d := wayD w) (e := .tup []) (by simp [wayD, hd, dpL]) (by simp [dpL])
  rw [e]
  congr 2
  cases w <;> simp [wayD, D.eqv, D.eqvs]
theorem put_run {G : Nat → List D → Sto → Res D} {id : Nat} {f : List Nat} {ps : List D} {k : Nat} {w : List Nat} {x p y : D} (h1 : ps[k]? = some p) (h2 : ps.length ≤ 3) (hg : G id [p, wayD w, x] S = .ok y S) :
    ev G (.pr .add [.pr .add [.pr (.slc false true) [.var 0, .var 3], .tup [.call id [.pr .idx [.var 0, .var 3], .pr (.slc true false) [.var 1, .con (.int 1)], .var 2]]], .pr (.slc true false) [.var 0, .pr .add [.var 3, .con (.int 1)]]]) [some (.tup (.str f :: ps)), some (wayD (k :: w)), some x, some (.int ((k : Int) + 1))] S = .ok (.tup (.str f :: ps.set k y)) S := by
  have hk := (List.getElem?_eq_some_iff.mp h1).1
  have e1 : atI (D.str f :: ps) ((k : Int) + 1) = some p := by
    have := atI_nat (D.str f :: ps) (k + 1)
    rw [show ((k + 1 : Nat) : Int) = (k : Int) + 1 from by omega] at this
    rw [this]; simpa using h1
  have e2 : cut (D.str f :: ps) none (some ((k : Int) + 1)) = D.str f :: ps.take k := by
    have := cut_to (D.str f :: ps) (k + 1)
    rw [show ((k + 1 : Nat) : Int) = (k : Int) + 1 from by omega] at this
    rw [this]; simp
  have e3 : cut (D.str f :: ps) (some ((k : Int) + 1 + 1)) none = ps.drop (k + 1) := by
    have := cut_from (D.str f :: ps) (k + 2)
    rw [show ((k + 2 : Nat) : Int) = (k : Int) + 1 + 1 from by omega] at this
    rw [this]; simp
  have e4 : pr (.slc true false) [wayD (k :: w), .int 1] S = .ok (wayD w) S := by simp [wayD, cut_tail]
  simp [getV, e1, e2, e3, e4, hg, -g_addT]
  rw [p_addT (by simp [szL]; omega)]
  simp only [bOk]
  rw [p_addT (by simp [szL]; omega)]
  simp only [Res.ok.injEq, and_true]
  rw [← set_cut hk]
  simp
theorem r_lput (h : P 34 = some F_law_put) : ∀ {w : List Nat} {n : Nat} {S : Sto} {l : Nat} {d e x : D}, tm l d = true → prt d w = some e → w.length + 1 ≤ n → run P n 34 [d, wayD w, x] S = .ok (ptt d w x) S
  | [], n, S, l, d, e, x, hd, hp, hn => by
    obtain ⟨n, rfl⟩ : ∃ k, n = k + 1 := ⟨n - 1, by omega⟩
    rw [run_at h _ _ _ rfl]
    simp [F_law_put, getV, start, eq_nil, ptt]
  | k :: w, n, S, 0, d, e, x, hd, hp, hn => by simp [tm] at hd
  | k :: w, n, S, l + 1, d, e, x, hd, hp, hn => by
    obtain ⟨n, rfl⟩ : ∃ k, n = k + 1 := ⟨n - 1, by omega⟩
    obtain ⟨p, h1, h2⟩ := prt_cons hp
    rcases tm_cases hd with ⟨s, rfl, hs⟩ | ⟨f, ps, rfl, g1, g2, g3, g4⟩
    · simp [kids] at h1
    · simp only [kids] at h1
      have ih := r_lput h (S := S) (n := n) (x := x) (g4 p (List.mem_of_getElem? h1)) h2 (by simp at hn; omega)
      have eq : ps.getD k .non = p := by rw [List.getD_eq_getElem?_getD, h1]; rfl
      rw [run_e h _ _ [some _, some _, some _, none] rfl rfl]
      refine fx_nx [some (.tup (.str f :: ps)), some (wayD (k :: w)), some x, none] S (by simp [getV, eq_nil]) ?_
      refine fx_nx [some (.tup (.str f :: ps)), some (wayD (k :: w)), some x, some (.int ((k : Int) + 1))] S (by simp [getV, wayD]) ?_
      refine fx_rt _ S (by rw [ex_ret, put_run h1 g2 ih]; rfl) ?_
      rw [retD_self]
      simp only [ptt, eq]
theorem r_put (h13 : P 13 = some F_parts_of) (h15 : P 15 = some F_part_at) (h : P 16 = some F_put_at) : ∀ {w : List Nat} {n : Nat} {S : Sto} {l : Nat} {d e x : D}, tm l d = true → prt d w = some e → w.length + 3 ≤ n → run P n 16 [d, wayD w, x] S = .ok (ptt d w x) S
  | [], n, S, l, d, e, x, hd, hp, hn => by
    obtain ⟨n, rfl⟩ : ∃ k, n = k + 1 := ⟨n - 1, by omega⟩
    rw [run_e h _ _ [some _, some _, some _, none] rfl rfl]
    refine fx_nx [some d, some (wayD []), some x, none] S (by simp [getV, r_part (S := S) h13 h15 (n := n) (by simp at hn; omega) hd hp]) ?_
    exact fx_rt x S (by simp [getV, eq_nil]) retD_self
  | k :: w, n, S, 0, d, e, x, hd, hp, hn => by simp [tm] at hd
  | k :: w, n, S, l + 1, d, e, x, hd, hp, hn => by
    obtain ⟨n, rfl⟩ : ∃ k, n = k + 1 := ⟨n - 1, by omega⟩
    have pa := r_part (S := S) h13 h15 (n := n) (by simp at hn; omega) hd hp
    obtain ⟨p, h1, h2⟩ := prt_cons hp
    rcases tm_cases hd with ⟨s, rfl, hs⟩ | ⟨f, ps, rfl, g1, g2, g3, g4⟩
    · simp [kids] at h1
    · simp only [kids] at h1
      have ih := r_put h13 h15 h (S := S) (n := n) (x := x) (g4 p (List.mem_of_getElem? h1)) h2 (by simp at hn; omega)
      have eq : ps.getD k .non = p := by rw [List.getD_eq_getElem?_getD, h1]; rfl
      rw [run_e h _ _ [some _, some _, some _, none] rfl rfl]
      refine fx_nx [some (.tup (.str f :: ps)), some (wayD (k :: w)), some x, none] S (by simp [getV, pa]) ?_
      refine fx_nx [some (.tup (.str f :: ps)), some (wayD (k :: w)), some x, none] S (by simp [getV, eq_nil]) ?_
      refine fx_nx [some (.tup (.str f :: ps)), some (wayD (k :: w)), some x, some (.int ((k : Int) + 1))] S (by simp [getV, wayD]) ?_
      refine fx_rt _ S (by rw [ex_ret, put_run h1 g2 ih]; rfl) ?_
      rw [retD_self]
      simp only [ptt, eq]
end Eng

/-! B3 -/
set_option linter.all false
set_option maxRecDepth 100000
set_option maxHeartbeats 1000000
/-! Matching. -/
namespace Eng
variable {P : Nat → Option Fn} {S : Sto} {n : Nat}

/-! ### equal terms -/
mutual
theorem eqv_refl : ∀ {d : D}, d.fine = true → d.eqv d = true
  | .tup xs, h => by simp only [fine_tup] at h; simp only [D.eqv]; exact eqvs_refl h
  | .lst xs, h => by simp only [fine_lst] at h; simp only [D.eqv]; exact eqvs_refl h
  | .non, _ => by simp [D.eqv]
  | .bl _, _ => by simp [D.eqv]
  | .int _, _ => by simp [D.eqv]
  | .str _, _ => by simp [D.eqv]
  | .loc _, h => by simp at h
  | .scr _, h => by simp at h
theorem eqvs_refl : ∀ {xs : List D}, D.fines xs = true → D.eqvs xs xs = true
  | [], _ => by simp [D.eqvs]
  | x :: xs, h => by
    simp only [fines_cons, Bool.and_eq_true] at h
    simp only [D.eqvs, Bool.and_eq_true]
    exact ⟨eqv_refl h.1, eqvs_refl h.2⟩
end
abbrev Tab := List (List Nat × D)
def hl (s : List Nat) : Bool := s.head? == some 63
theorem okLf_hole {s : List Nat} (h : okLf s = true) : isHole (.str s) = hl s := by
  simp only [okLf, Bool.and_eq_true, beq_iff_eq] at h
  exact h.1.2
theorem okLf_cons {s : List Nat} (h : okLf s = true) : ∃ c r, s = c :: r := by
  cases s with
  | nil => simp [okLf] at h
  | cons c r => exact ⟨c, r, rfl⟩
/-! ### the two walks -/
def mIs (f : D → D → Tab → Bool × Tab) : List D → List D → Tab → List Bool × Tab
  | p :: ps, q :: qs, T => ((f p q T).1 :: (mIs f ps qs (f p q T).2).1, (mIs f ps qs (f p q T).2).2)
  | _, _, T => ([], T)
def lIs (f : D → D → Tab → Bool × Tab) : List D → List D → Tab → Bool × Tab
  | p :: ps, q :: qs, T => if (f p q T).1 = true then lIs f ps qs (f p q T).2 else (false, (f p q T).2)
  | _, _, T => (true, T)
def mLf (s : List Nat) (t : D) (T : Tab) : Bool × Tab := if hl s = true then (match lookD s T with
  | some e => (e.eqv t, T)
  | none => (t.eqv t, putD s t T)) else ((D.str s).eqv t, T)
def mI : Nat → D → D → Tab → Bool × Tab
  | 0, _, _, T => (false, T)
  | _ + 1, .str s, t, T => mLf s t T
  | l + 1, .tup (x :: ps), .tup (y :: qs), T => if qs.length = ps.length ∧ y.eqv x = true then ((mIs (mI l) ps qs T).1.all id, (mIs (mI l) ps qs T).2) else (false, T)
  | _ + 1, _, _, T => (false, T)
def lI : Nat → D → D → Tab → Bool × Tab
  | 0, _, _, T => (false, T)
  | _ + 1, .str s, t, T => mLf s t T
  | l + 1, .tup (x :: ps), .tup (y :: qs), T => if qs.length = ps.length ∧ y.eqv x = true then lIs (lI l) ps qs T else (false, T)
  | _ + 1, _, _, T => (false, T)
theorem ls_rel {f g : D → D → Tab → Bool × Tab} : ∀ (ps qs : List D) (T : Tab), (∀ p ∈ ps, ∀ q T, (f p q T).1 = (g p q T).1 ∧ ((g p q T).1 = true → (f p q T).2 = (g p q T).2)) →
    (lIs f ps qs T).1 = (mIs g ps qs T).1.all id ∧ ((mIs g ps qs T).1.all id = true → (lIs f ps qs T).2 = (mIs g ps qs T).2)
  | [], qs, T, _ => by simp [lIs, mIs]
  | p :: ps, [], T, _ => by simp [lIs, mIs]
  | p :: ps, q :: qs, T, h => by
    obtain ⟨h1, h2⟩ := h p List.mem_cons_self q T
    simp only [lIs, mIs, List.all_cons, id]
    cases e : (g p q T).1 with
    | false => rw [e] at h1; simp [h1]
    | true =>
      rw [e] at h1
      rw [if_pos h1, h2 e]
      obtain ⟨k1, k2⟩ := ls_rel ps qs (g p q T).2 fun p hp => h p (List.mem_cons_of_mem _ hp)
      rw [Bool.true_and]
      exact ⟨k1, k2⟩
theorem lI_mI : ∀ (l : Nat) (p t : D) (T : Tab), (lI l p t T).1 = (mI l p t T).1 ∧ ((mI l p t T).1 = true → (lI l p t T).2 = (mI l p t T).2)
  | 0, p, t, T => by simp [lI, mI]
  | l + 1, p, t, T => by
    cases p with
    | str s => simp [lI, mI]
    | tup xs =>
      cases xs with
      | nil => simp [lI, mI]
      | cons x ps =>
        cases t with
        | tup ys =>
          cases ys with
          | nil => simp [lI, mI]
          | cons y qs =>
            simp only [lI, mI]
            split
            · exact ls_rel ps qs T fun p _ q T => lI_mI l p q T
            · simp
        | _ => simp [lI, mI]
    | _ => simp [lI, mI]
/-! ### what the tables hold -/
def TOk (m : Nat) (T : Tab) : Prop := ∀ kv ∈ T, tm m kv.2 = true ∧ hl kv.1 = true
theorem look_mem {s : List Nat} {e : D} : ∀ {T : Tab}, lookD s T = some e → (s, e) ∈ T
  | [], h => by simp [lookD] at h
  | (y, d) :: T, h => by
    simp only [lookD] at h
    split at h
    · rename_i q; cases h; subst q; exact List.mem_cons_self
    · exact List.mem_cons_of_mem _ (look_mem h)
theorem put_new {s : List Nat} {e : D} {T : Tab} (h : lookD s T = none) : putD s e T = T ++ [(s, e)] := by simp [putD, h]
theorem look_app {s k : List Nat} {e : D} : ∀ {T : Tab}, lookD k (T ++ [(s, e)]) = match lookD k T with
    | some x => some x
    | none => if s = k then some e else none
  | [] => by simp [lookD]
  | (y, d) :: T => by
    simp only [List.cons_append, lookD]
    split
    · rfl
    · exact look_app
theorem mLf_ok {m : Nat} {s : List Nat} {t : D} {T : Tab} (ht : tm m t = true) (hT : TOk m T) : TOk m (mLf s t T).2 ∧ (mLf s t T).2.length ≤ T.length + 1 := by
  unfold mLf
  split
  · rename_i hs
    split
    · exact ⟨hT, by simp⟩
    · rename_i e
      rw [put_new e]
      refine ⟨fun kv hk => ?_, by simp⟩
      rcases List.mem_append.mp hk with hk | hk
      · exact hT kv hk
      · simp at hk; subst hk; exact ⟨ht, hs⟩
  · exact ⟨hT, by simp⟩
theorem mIs_ok {f : D → D → Tab → Bool × Tab} {m b : Nat} : ∀ {ps qs : List D} {T : Tab}, (∀ p ∈ ps, ∀ q T, tm m q = true → TOk m T → TOk m (f p q T).2 ∧ (f p q T).2.length ≤ T.length + b) → (∀ q ∈ qs, tm m q = true) → TOk m T →
    TOk m (mIs f ps qs T).2 ∧ (mIs f ps qs T).2.length ≤ T.length + ps.length * b
  | [], qs, T, _, _, hT => ⟨hT, by simp [mIs]⟩
  | p :: ps, [], T, _, _, hT => ⟨hT, by simp [mIs]⟩
  | p :: ps, q :: qs, T, h, hq, hT => by
    obtain ⟨h1, h2⟩ := h p List.mem_cons_self q T (hq q List.mem_cons_self) hT
    obtain ⟨h3, h4⟩ := mIs_ok (ps := ps) (qs := qs) (T := (f p q T).2) (fun p hp => h p (List.mem_cons_of_mem _ hp)) (fun q hq' => hq q (List.mem_cons_of_mem _ hq')) h1
    refine ⟨h3, ?_⟩
    simp only [mIs, List.length_cons]
    have : (ps.length + 1) * b = ps.length * b + b := Nat.succ_mul _ _
    omega
theorem lIs_ok {f : D → D → Tab → Bool × Tab} {m b : Nat} : ∀ {ps qs : List D} {T : Tab}, (∀ p ∈ ps, ∀ q T, tm m q = true → TOk m T → TOk m (f p q T).2 ∧ (f p q T).2.length ≤ T.length + b) → (∀ q ∈ qs, tm m q = true) → TOk m T →
    TOk m (lIs f ps qs T).2 ∧ (lIs f ps qs T).2.length ≤ T.length + ps.length * b
  | [], qs, T, _, _, hT => ⟨hT, by simp [lIs]⟩
  | p :: ps, [], T, _, _, hT => ⟨hT, by simp [lIs]⟩
  | p :: ps, q :: qs, T, h, hq, hT => by
    obtain ⟨h1, h2⟩ := h p List.mem_cons_self q T (hq q List.mem_cons_self) hT
    obtain ⟨h3, h4⟩ := lIs_ok (ps := ps) (qs := qs) (T := (f p q T).2) (fun p hp => h p (List.mem_cons_of_mem _ hp)) (fun q hq' => hq q (List.mem_cons_of_mem _ hq')) h1
    have : (ps.length + 1) * b = ps.length * b + b := Nat.succ_mul _ _
    simp only [lIs, List.length_cons]
    split
    · exact ⟨h3, by omega⟩
    · exact ⟨h1, by simp only; omega⟩
theorem kids_up {m : Nat} {y : D} {qs : List D} (h : tm m (.tup (y :: qs)) = true) : ∀ q ∈ qs, tm m q = true := by
  cases m with
  | zero => simp [tm] at h
  | succ m => exact fun q hq => tm_up ((tm_kids h).2 q hq)
theorem mI_ok : ∀ {l m : Nat} {p t : D} {T : Tab}, tm l p = true → tm m t = true → TOk m T → TOk m (mI l p t T).2 ∧ (mI l p t T).2.length ≤ T.length + nW l
  | 0, m, p, t, T, hp, _, _ => by simp [tm] at hp
  | l + 1, m, p, t, T, hp, ht, hT => by
    rcases tm_cases hp with ⟨s, rfl, hs⟩ | ⟨f, ps, rfl, g1, g2, g3, g4⟩
    · obtain ⟨h1, h2⟩ := mLf_ok (s := s) ht hT
      exact ⟨h1, by simp only [mI, nW]; omega⟩
    · cases t with
      | tup ys =>
        cases ys with
        | nil => exact ⟨hT, by simp [mI]⟩
        | cons y qs =>
          simp only [mI]
          split
          · obtain ⟨h1, h2⟩ := mIs_ok (f := mI l) (b := nW l) (ps := ps) (qs := qs) (T := T) (fun p hp' q T hq hT => mI_ok (g4 p hp') hq hT) (kids_up ht) hT
            have h3 : ps.length * nW l ≤ 3 * nW l := Nat.mul_le_mul_right _ g2
            exact ⟨h1, by simp only [nW]; omega⟩
          · exact ⟨hT, by simp⟩
      | _ => exact ⟨hT, by simp [mI]⟩
theorem lI_ok : ∀ {l m : Nat} {p t : D} {T : Tab}, tm l p = true → tm m t = true → TOk m T → TOk m (lI l p t T).2 ∧ (lI l p t T).2.length ≤ T.length + nW l
  | 0, m, p, t, T, hp, _, _ => by simp [tm] at hp
  | l + 1, m, p, t, T, hp, ht, hT => by
    rcases tm_cases hp with ⟨s, rfl, hs⟩ | ⟨f, ps, rfl, g1, g2, g3, g4⟩
    · obtain ⟨h1, h2⟩ := mLf_ok (s := s) ht hT
      exact ⟨h1, by simp only [lI, nW]; omega⟩
    · cases t with
      | tup ys =>
        cases ys with
        | nil => exact ⟨hT, by simp [lI]⟩
        | cons y qs =>
          simp only [lI]
          split
          · obtain ⟨h1, h2⟩ := lIs_ok (f := lI l) (b := nW l) (ps := ps) (qs := qs) (T := T) (fun p hp' q T hq hT => lI_ok (g4 p hp') hq hT) (kids_up ht) hT
            have h3 : ps.length * nW l ≤ 3 * nW l := Nat.mul_le_mul_right _ g2
            exact ⟨h1, by simp only [nW]; omega⟩
          · exact ⟨hT, by simp⟩
      | _ => exact ⟨hT, by simp [lI]⟩
/-! ### the leaf's step, in both -/
theorem tm_dp190 {l : Nat} {d : D} (hl : l ≤ 100) (h : tm l d = true) : (rs S d).dp ≤ dpL := by
  rw [fine_rs (tm_fine h)]
  have := tm_dp h
  unfold dpL; omega
theorem ne_str {x y : List Nat} : pr .ne [.str x, .str y] S = .ok (.bl (!(x == y))) S := p_neS
theorem set_same {k : Nat} {m : MO} (h : S[k]? = some m) : S.set k m = S := by
  obtain ⟨h1, h2⟩ := List.getElem?_eq_some_iff.mp h
  rw [← h2]; exact List.set_getElem_self h1
/-- found.setdefault(s, t) == t -/
theorem ev_setd {G : Nat → List D → Sto → Res D} {s : List Nat} {t : D} {k m : Nat} {T : Tab} {r : Env} (hm : m ≤ 100) (hk : S[k]? = some (.dct T)) (ht : tm m t = true) (hT : TOk m T) (hsz : T.length < szL) (hh : hl s = true) :
    ev G (.pr .eq [.mth .setd (.var 2) [.var 0, .var 1], .var 1]) (some (.str s) :: some t :: some (.loc k) :: r) S = .ok (.bl (mLf s t T).1) (S.set k (.dct (mLf s t T).2)) := by
  have ok : okM .setd (.loc k) S = true := by simp [okM, hk]
  unfold mLf
  rw [if_pos hh]
  cases e : lookD s T with
  | some x =>
    have hx := (hT _ (look_mem e)).1
    have p1 : pr .setd [.loc k, .str s, t] S = .ok x S := by simp [pr, hk, hsz, e]
    have p2 := p_eq (S := S) (tm_dp190 hm hx) (tm_dp190 hm ht)
    rw [fine_rs (tm_fine hx), fine_rs (tm_fine ht)] at p2
    simp [getV, ok, p1, p2, set_same hk]
  | none =>
    have p1 : pr .setd [.loc k, .str s, t] S = .ok t (S.set k (.dct (putD s t T))) := by simp [pr, hk, hsz, e]
    have p2 := p_eq (S := S.set k (.dct (putD s t T))) (tm_dp190 hm ht) (tm_dp190 hm ht)
    rw [fine_rs (tm_fine ht)] at p2
    simp [getV, ok, p1, p2]
theorem ev_eqS {s : List Nat} {t : D} {m : Nat} (hm : m ≤ 100) (ht : tm m t = true) : pr .eq [.str s, t] S = .ok (.bl ((D.str s).eqv t)) S := by
  have p2 := p_eq (S := S) (d := .str s) (e := t) (by simp [dpL]) (tm_dp190 hm ht)
  rw [fine_rs (tm_fine ht)] at p2
  exact p2
theorem idx0 {f : List Nat} : (pr .idx [.str f, .int 0] S : Res D) = match f with
    | [] => .no
    | c :: _ => .ok (.str [c]) S := by
  cases f <;> simp [atI, ixN]
theorem compL_go {b : D → Option Env} {c : Env → Sto → Res Bool} {e : Env → Sto → Res D} {k : Sto → Bool} {d y : D} {ds ys : List D} {S S2 S3 : Sto} {s1 : Env} (hb : b d = some s1) (hc : c s1 S = .ok true S) (he : e s1 S = .ok y S2) (hk : k S2 = true) (hr : compL b c e k ds S2 = .ok ys S3) : compL b c e k (d :: ds) S = .ok (y :: ys) S3 := by
  simp only [compL, hb, hc, cOk, bOk, he, hk, if_true, hr]
section
variable {G : Nat → List D → Sto → Res D} {c : E} {a b : List St} {s : Env} {S1 : Sto}
theorem ex_itT (h : tst (ev G c s S) = .ok true S1) : ex G (.ite c a b) s S = exs G a s S1 := by rw [ex_ite, h, outB_ok]
theorem ex_itF (h : tst (ev G c s S) = .ok false S1) : ex G (.ite c a b) s S = exs G b s S1 := by rw [ex_ite, h, outB_ok]
end
/-! ### match_into -/
theorem mc_loop {G : Nat → List D → Sto → Res D} {f : D → D → Tab → Bool × Tab} {k m b : Nat} {a0 a1 : D} {kc : Sto → Bool} (hkc : ∀ S, kc S = true)
    (hf : ∀ p q T, tm m q = true → TOk m T → TOk m (f p q T).2 ∧ (f p q T).2.length ≤ T.length + b) :
    ∀ (ps qs : List D) (T : Tab) (S : Sto), (∀ p ∈ ps, ∀ q (T : Tab) (S : Sto), tm m q = true → TOk m T → S[k]? = some (.dct T) → T.length + b ≤ szL → G 20 [p, q, .loc k] S = .ok (.bl (f p q T).1) (S.set k (.dct (f p q T).2))) →
    (∀ q ∈ qs, tm m q = true) → TOk m T → S[k]? = some (.dct T) → T.length + ps.length * b ≤ szL →
    compL (fun d => bindT [3, 4] true d [some a0, some a1, some (.loc k), none, none]) (fun s S => evT G [] s S) (fun s S => ev G (.call 20 [.var 3, .var 4, .var 2]) s S) kc ((ps.zip qs).map fun p => .tup [p.1, p.2]) S = .ok ((mIs f ps qs T).1.map D.bl) (S.set k (.dct (mIs f ps qs T).2))
  | [], qs, T, S, _, _, _, hk, _ => by simp [compL, mIs, set_same hk]
  | p :: ps, [], T, S, _, _, _, hk, _ => by simp [compL, mIs, set_same hk]
  | p :: ps, q :: qs, T, S, hg, hq, hT, hk, hsz => by
    have hz : (ps.length + 1) * b = ps.length * b + b := Nat.succ_mul _ _
    rw [List.length_cons] at hsz
    have hkl := (List.getElem?_eq_some_iff.mp hk).1
    obtain ⟨t1, t2⟩ := hf p q T (hq q List.mem_cons_self) hT
    have g1 := hg p List.mem_cons_self q T S (hq q List.mem_cons_self) hT hk (by omega)
    have ih := mc_loop (a0 := a0) (a1 := a1) (kc := kc) hkc hf ps qs (f p q T).2 (S.set k (.dct (f p q T).2)) (fun p hp => hg p (List.mem_cons_of_mem _ hp)) (fun q hq' => hq q (List.mem_cons_of_mem _ hq')) t1 (by rw [List.getElem?_set_self hkl]) (by omega)
    rw [List.zip_cons_cons, List.map_cons]
    have e1 : (fun s S => ev G (.call 20 [.var 3, .var 4, .var 2]) s S) [some a0, some a1, some (.loc k), some p, some q] S = .ok (.bl (f p q T).1) (S.set k (.dct (f p q T).2)) := by simp [getV, g1]
    rw [List.set_set] at ih
    rw [compL_go (s1 := [some a0, some a1, some (.loc k), some p, some q]) rfl (by simp only [evT]) e1 (hkc _) ih]
    simp [mIs]
theorem r_mInto (h1 : P 1 = some F_is_name) (h2 : P 2 = some F_is_hole) (h : P 20 = some F_match_into) : ∀ {l m n k : Nat} {S : Sto} {p t : D} {T : Tab}, m ≤ 100 → tm l p = true → tm m t = true → TOk m T → S[k]? = some (.dct T) → T.length + nW l ≤ szL → l + 2 ≤ n →
    run P n 20 [p, t, .loc k] S = .ok (.bl (mI l p t T).1) (S.set k (.dct (mI l p t T).2))
  | 0, m, n, k, S, p, t, T, _, hp, _, _, _, _, _ => by simp [tm] at hp
  | l + 1, m, n, k, S, p, t, T, hm, hp, ht, hT, hk, hsz, hn => by
    obtain ⟨n, rfl⟩ : ∃ k, n = k + 1 := ⟨n - 1, by omega⟩
    have fin_ : ∀ (d : D) (T' : Tab), retD S d (S.set k (.dct T')) = .ok d (S.set k (.dct T')) := fun d T' => by unfold retD; rw [if_pos (by simp)]
    simp only [nW] at hsz
    rcases tm_cases hp with ⟨s, rfl, hs⟩ | ⟨f, ps, rfl, g1, g2, g3, g4⟩
    · have hh : run P n 2 [.str s] S = .ok (.bl (hl s)) S := by rw [r_hole h1 h2 (by omega) _ rfl, okLf_hole hs]
      rw [run_e h _ _ [some (.str s), some t, some (.loc k), none, none] rfl rfl]
      cases e : hl s with
      | true =>
        have sd := ev_setd (G := run P n) (r := [none, none]) hm hk ht hT (by omega) e
        rw [e] at hh
        refine fx_rt _ (S.set k (.dct (mLf s t T).2)) ?_ (fin_ _ _)
        refine (ex_itT (S1 := S) (by simp [getV])).trans (xs_rt ((ex_itT (S1 := S) (by simp [getV, hh])).trans (xs_rt ?_)))
        rw [ex_ret, sd]
        rfl
      | false =>
        rw [e] at hh
        have e1 : mLf s t T = ((D.str s).eqv t, T) := by unfold mLf; rw [e]; rfl
        simp only [mI, e1]
        refine fx_rt (.bl ((D.str s).eqv t)) S ?_ (by rw [retD_self, set_same hk])
        simp [getV, hh, ev_eqS hm ht]
    · rw [run_e h _ _ [some _, some t, some (.loc k), none, none] rfl rfl]
      refine fx_nx [some (.tup (.str f :: ps)), some t, some (.loc k), none, none] S (by simp [getV]) ?_
      cases m with
      | zero => simp [tm] at ht
      | succ m =>
      rcases tm_cases ht with ⟨u, rfl, hu⟩ | ⟨y, qs, rfl, q1, q2, q3, q4⟩
      · refine fx_rt (.bl false) S (by simp [getV]) ?_
        rw [retD_self]
        simp [mI, set_same hk]
      · by_cases hl : qs.length = ps.length
        · by_cases hy : y = f
          · have c1 : qs.length = ps.length ∧ (D.str y).eqv (.str f) = true := ⟨hl, by simp [D.eqv, hy]⟩
            have h3 : ps.length * nW l ≤ 3 * nW l := Nat.mul_le_mul_right _ g2
            have lp := mc_loop (G := run P n) (f := fun p q T => if tm l p = true then mI l p q T else (false, T)) (k := k) (m := m + 1) (b := nW l) (a0 := .tup (.str f :: ps)) (a1 := .tup (.str y :: qs)) (kc := fun _ => true) (fun _ => rfl)
              (fun p q T hq hT => by
                split
                · rename_i hp'; exact mI_ok hp' hq hT
                · exact ⟨hT, by simp⟩) ps qs T S
              (fun p hp' q T S hq hT hk hsz => by
                rw [if_pos (g4 p hp')]
                exact r_mInto h1 h2 h hm (g4 p hp') hq hT hk hsz (by omega)) (kids_up ht) hT hk (by omega)
            have es : ∀ (ps qs : List D) (T : Tab), (∀ p ∈ ps, tm l p = true) → mIs (fun p q T => if tm l p = true then mI l p q T else (false, T)) ps qs T = mIs (mI l) ps qs T := by
              intro ps
              induction ps with
              | nil => intro qs T _; simp [mIs]
              | cons p ps ih =>
                intro qs T hp'
                cases qs with
                | nil => simp [mIs]
                | cons q qs =>
                  simp only [mIs]
                  rw [if_pos (hp' p List.mem_cons_self), ih _ _ fun p hp => hp' p (List.mem_cons_of_mem _ hp)]
            rw [es ps qs T g4] at lp
            refine fx_nx [some (.tup (.str f :: ps)), some (.tup (.str y :: qs)), some (.loc k), none, none] S (by simp [getV, hl, hy]) ?_
            refine fx_rt (.bl ((mIs (mI l) ps qs T).1.all id)) (S.set k (.dct (mIs (mI l) ps qs T).2)) ?_ (by rw [fin_]; simp only [mI, if_pos c1])
            have hc : ev (run P n) (.comp [3, 4] [3, 4] true .zip [.pr (.slc true false) [.var 0, .con (.int 1)], .pr (.slc true false) [.var 1, .con (.int 1)]] [] (.call 20 [.var 3, .var 4, .var 2])) [some (.tup (.str f :: ps)), some (.tup (.str y :: qs)), some (.loc k), none, none] S = .ok (.lst ((mIs (mI l) ps qs T).1.map D.bl)) (S.set k (.dct (mIs (mI l) ps qs T).2)) := by
              have hsr : evs (run P n) [.pr (.slc true false) [.var 0, .con (.int 1)], .pr (.slc true false) [.var 1, .con (.int 1)]] [some (.tup (.str f :: ps)), some (.tup (.str y :: qs)), some (.loc k), none, none] S = .ok [.tup ps, .tup qs] S := by simp [getV, cut_tail]
              simp only [ev, hsr, bOk, items]
              rw [if_pos (by simp [szL]; omega)]
              show (compL (fun d => bindT [3, 4] true d [some (.tup (.str f :: ps)), some (.tup (.str y :: qs)), some (.loc k), none, none]) (fun s S => evT (run P n) [] s S) (fun s S => ev (run P n) (.call 20 [.var 3, .var 4, .var 2]) s S) (fun _ => true) ((ps.zip qs).map fun p => .tup [p.1, p.2]) S).bind _ = _
              rw [lp]; rfl
            rw [ex_ret, ev_pr, evs_cons, hc]
            simp only [bOk, evs_nil]
            rw [p_all (boolsD_map (fun b : Bool => b) _ ▸ (by simp) : boolsD ((mIs (mI l) ps qs T).1.map D.bl) = some (mIs (mI l) ps qs T).1)]
            rfl
          · have c1 : ¬ (qs.length = ps.length ∧ (D.str y).eqv (.str f) = true) := fun c => hy (by simpa [D.eqv] using c.2)
            have hb : (y == f) = false := beq_eq_false_iff_ne.mpr hy
            refine fx_rt (.bl false) S (by simp [getV, hl, hb]) ?_
            rw [retD_self]
            simp only [mI, if_neg c1, set_same hk]
        · have c1 : ¬ (qs.length = ps.length ∧ (D.str y).eqv (.str f) = true) := fun c => hl c.1
          have hb : (((qs.length : Int) + 1) == ((ps.length : Int) + 1)) = false := beq_eq_false_iff_ne.mpr (by omega)
          refine fx_rt (.bl false) S (by simp [getV, hb]) ?_
          rw [retD_self]
          simp only [mI, if_neg c1, set_same hk]
/-! ### the law's own -/
theorem lc_loop {G : Nat → List D → Sto → Res D} {f : D → D → Tab → Bool × Tab} {k m b : Nat} {a0 a1 : D} {kc : Sto → Bool} (hkc : ∀ S, kc S = true)
    (hf : ∀ p q T, tm m q = true → TOk m T → TOk m (f p q T).2 ∧ (f p q T).2.length ≤ T.length + b) :
    ∀ (ps qs : List D) (T : Tab) (S : Sto) (x y : Option D), (∀ p ∈ ps, ∀ q (T : Tab) (S : Sto), tm m q = true → TOk m T → S[k]? = some (.dct T) → T.length + b ≤ szL → G 31 [p, q, .loc k] S = .ok (.bl (f p q T).1) (S.set k (.dct (f p q T).2))) →
    (∀ q ∈ qs, tm m q = true) → TOk m T → S[k]? = some (.dct T) → T.length + ps.length * b ≤ szL →
    ∃ x' y', forL (fun d s => bindT [3, 4] true d s) (fun s S => exs G [.ite (.pr .not [.call 31 [.var 3, .var 4, .var 2]]) [.ret (.con (.bl false))] []] s S) kc ((ps.zip qs).map fun p => .tup [p.1, p.2]) [some a0, some a1, some (.loc k), x, y] S =
      if (lIs f ps qs T).1 = true then .nx [some a0, some a1, some (.loc k), x', y'] (S.set k (.dct (lIs f ps qs T).2)) else .rt (.bl false) (S.set k (.dct (lIs f ps qs T).2))
  | [], qs, T, S, x, y, _, _, _, hk, _ => ⟨x, y, by simp [forL, lIs, set_same hk]⟩
  | p :: ps, [], T, S, x, y, _, _, _, hk, _ => ⟨x, y, by simp [forL, lIs, set_same hk]⟩
  | p :: ps, q :: qs, T, S, x, y, hg, hq, hT, hk, hsz => by
    have hz : (ps.length + 1) * b = ps.length * b + b := Nat.succ_mul _ _
    rw [List.length_cons] at hsz
    have hkl := (List.getElem?_eq_some_iff.mp hk).1
    obtain ⟨t1, t2⟩ := hf p q T (hq q List.mem_cons_self) hT
    have g1 := hg p List.mem_cons_self q T S (hq q List.mem_cons_self) hT hk (by omega)
    obtain ⟨x', y', ih⟩ := lc_loop (a0 := a0) (a1 := a1) (kc := kc) hkc hf ps qs (f p q T).2 (S.set k (.dct (f p q T).2)) (some p) (some q) (fun p hp => hg p (List.mem_cons_of_mem _ hp)) (fun q hq' => hq q (List.mem_cons_of_mem _ hq')) t1 (by rw [List.getElem?_set_self hkl]) (by omega)
    refine ⟨x', y', ?_⟩
    rw [List.zip_cons_cons, List.map_cons]
    rw [List.set_set] at ih
    cases e : (f p q T).1 with
    | true =>
      rw [e] at g1
      refine forL_nx [some a0, some a1, some (.loc k), some p, some q] (S.set k (.dct (f p q T).2)) rfl ?_ (hkc _) (ih.trans ?_)
      · simp [sets, getV, g1]
      · simp only [lIs, e, if_true]
    | false =>
      rw [e] at g1
      refine (forL_rt (e := .bl false) (S2 := S.set k (.dct (f p q T).2)) rfl ?_).trans ?_
      · simp [sets, getV, g1]
      · simp [lIs, e]
theorem hl_head {s : List Nat} (h : okLf s = true) : ∃ c r, s = c :: r ∧ (c == 63) = hl s := by
  obtain ⟨c, r, rfl⟩ := okLf_cons h
  exact ⟨c, r, rfl, by simp [hl]⟩
theorem r_lmatch (h : P 31 = some F_law_match) : ∀ {l m n k : Nat} {S : Sto} {p t : D} {T : Tab}, m ≤ 100 → tm l p = true → tm m t = true → TOk m T → S[k]? = some (.dct T) → T.length + nW l ≤ szL → l ≤ n →
    run P n 31 [p, t, .loc k] S = .ok (.bl (lI l p t T).1) (S.set k (.dct (lI l p t T).2))
  | 0, m, n, k, S, p, t, T, _, hp, _, _, _, _, _ => by simp [tm] at hp
  | l + 1, m, n, k, S, p, t, T, hm, hp, ht, hT, hk, hsz, hn => by
    obtain ⟨n, rfl⟩ : ∃ k, n = k + 1 := ⟨n - 1, by omega⟩
    have fin_ : ∀ (d : D) (T' : Tab), retD S d (S.set k (.dct T')) = .ok d (S.set k (.dct T')) := fun d T' => by unfold retD; rw [if_pos (by simp)]
    simp only [nW] at hsz
    rcases tm_cases hp with ⟨s, rfl, hs⟩ | ⟨f, ps, rfl, g1, g2, g3, g4⟩
    · rw [run_e h _ _ [some (.str s), some t, some (.loc k), none, none] rfl rfl]
      obtain ⟨c, r, es, hc⟩ := hl_head hs
      have i0 : pr .idx [.str s, .int 0] S = .ok (.str [c]) S := by rw [es]; simp
      cases e : hl s with
      | true =>
        have sd := ev_setd (G := run P n) (r := [none, none]) hm hk ht hT (by omega) e
        rw [e] at hc
        refine fx_rt _ (S.set k (.dct (mLf s t T).2)) ?_ (fin_ _ _)
        refine (ex_itT (S1 := S) (by simp [getV])).trans (xs_rt ((ex_itT (S1 := S) (by simp [getV, i0, hc, -p_idxS])).trans (xs_rt ?_)))
        rw [ex_ret, sd]
        rfl
      | false =>
        rw [e] at hc
        have e1 : mLf s t T = ((D.str s).eqv t, T) := by unfold mLf; rw [e]; rfl
        simp only [lI, e1]
        refine fx_rt (.bl ((D.str s).eqv t)) S ?_ (by rw [retD_self, set_same hk])
        refine (ex_itT (S1 := S) (by simp [getV])).trans ((xs_nx ((ex_itF (S1 := S) (by simp [getV, i0, hc, -p_idxS])).trans exs_nil)).trans (xs_rt ?_))
        simp [getV, ev_eqS hm ht]
    · rw [run_e h _ _ [some _, some t, some (.loc k), none, none] rfl rfl]
      refine fx_nx [some (.tup (.str f :: ps)), some t, some (.loc k), none, none] S (by simp [getV]) ?_
      cases m with
      | zero => simp [tm] at ht
      | succ m =>
      rcases tm_cases ht with ⟨u, rfl, hu⟩ | ⟨y, qs, rfl, q1, q2, q3, q4⟩
      · refine fx_rt (.bl false) S (by simp [getV]) ?_
        rw [retD_self]
        simp [lI, set_same hk]
      · by_cases hl : qs.length = ps.length
        · by_cases hy : y = f
          · have c1 : qs.length = ps.length ∧ (D.str y).eqv (.str f) = true := ⟨hl, by simp [D.eqv, hy]⟩
            have h3 : ps.length * nW l ≤ 3 * nW l := Nat.mul_le_mul_right _ g2
            obtain ⟨x', y', lp⟩ := lc_loop (G := run P n) (f := fun p q T => if tm l p = true then lI l p q T else (false, T)) (k := k) (m := m + 1) (b := nW l) (a0 := .tup (.str f :: ps)) (a1 := .tup (.str y :: qs)) (kc := fun _ => true) (fun _ => rfl)
              (fun p q T hq hT => by
                split
                · rename_i hp'; exact lI_ok hp' hq hT
                · exact ⟨hT, by simp⟩) ps qs T S none none
              (fun p hp' q T S hq hT hk hsz => by
                rw [if_pos (g4 p hp')]
                exact r_lmatch h hm (g4 p hp') hq hT hk hsz (by omega)) (kids_up ht) hT hk (by omega)
            have es : ∀ (ps qs : List D) (T : Tab), (∀ p ∈ ps, tm l p = true) → lIs (fun p q T => if tm l p = true then lI l p q T else (false, T)) ps qs T = lIs (lI l) ps qs T := by
              intro ps
              induction ps with
              | nil => intro qs T _; simp [lIs]
              | cons p ps ih =>
                intro qs T hp'
                cases qs with
                | nil => simp [lIs]
                | cons q qs =>
                  simp only [lIs]
                  rw [if_pos (hp' p List.mem_cons_self), ih _ _ fun p hp => hp' p (List.mem_cons_of_mem _ hp)]
            rw [es ps qs T g4] at lp
            refine fx_nx [some (.tup (.str f :: ps)), some (.tup (.str y :: qs)), some (.loc k), none, none] S (by simp [getV, hl, hy]) ?_
            have fr := ex_forE (G := run P n) (tg := [3, 4]) (un := true) (k := .zip) (srcs := [.pr (.slc true false) [.var 0, .con (.int 1)], .pr (.slc true false) [.var 1, .con (.int 1)]]) (s := [some (.tup (.str f :: ps)), some (.tup (.str y :: qs)), some (.loc k), none, none]) (S := S) (S1 := S) (ds := [.tup ps, .tup qs]) (by simp [getV, cut_tail]) rfl lp
            simp only [lI, if_pos c1]
            cases eb : (lIs (lI l) ps qs T).1 with
            | true =>
              rw [eb, if_pos rfl] at fr
              refine fx_nx _ _ fr ?_
              exact fx_rt (.bl true) _ (by simp) (fin_ _ _)
            | false =>
              rw [eb, if_neg (by decide)] at fr
              exact fx_rt (.bl false) _ fr (fin_ _ _)
          · have c1 : ¬ (qs.length = ps.length ∧ (D.str y).eqv (.str f) = true) := fun c => hy (by simpa [D.eqv] using c.2)
            have hb : (y == f) = false := beq_eq_false_iff_ne.mpr hy
            refine fx_rt (.bl false) S (by simp [getV, hl, hb]) ?_
            rw [retD_self]
            simp only [lI, if_neg c1, set_same hk]
        · have c1 : ¬ (qs.length = ps.length ∧ (D.str y).eqv (.str f) = true) := fun c => hl c.1
          have hb : (((qs.length : Int) + 1) == ((ps.length : Int) + 1)) = false := beq_eq_false_iff_ne.mpr (by omega)
          refine fx_rt (.bl false) S (by simp [getV, hb]) ?_
          rw [retD_self]
          simp only [lI, if_neg c1, set_same hk]
/-! ### match -/
def keyS (T : Tab) : List (List Nat) := sortS (T.map (·.1))
def prsD (T : Tab) : List D := (keyS T).map fun k => .tup [.str k, (lookD k T).getD .non]
def mtch (l : Nat) (p t : D) : D := if (mI l p t []).1 = true then .tup (prsD (mI l p t []).2) else .non
theorem ins_mem2 {x y : List Nat} : ∀ {l : List (List Nat)}, y ∈ insS x l ↔ y = x ∨ y ∈ l
  | [] => by simp [insS]
  | z :: l => by
    unfold insS
    split
    · rw [List.mem_cons, ins_mem2, List.mem_cons]
      exact ⟨fun h => h.elim (fun e => .inr (.inl e)) (fun h => h.elim .inl (fun e => .inr (.inr e))), fun h => h.elim (fun e => .inr (.inl e)) (fun h => h.elim .inl (fun e => .inr (.inr e)))⟩
    · exact List.mem_cons
theorem sort_mem2 {y : List Nat} : ∀ {l : List (List Nat)}, y ∈ sortS l ↔ y ∈ l
  | [] => by simp [sortS]
  | x :: l => by rw [sortS, ins_mem2, sort_mem2, List.mem_cons]
theorem ins_len2 (x : List Nat) : ∀ l : List (List Nat), (insS x l).length = l.length + 1
  | [] => rfl
  | z :: l => by
    unfold insS
    split
    · simp [ins_len2 x l]
    · rfl
theorem sort_len2 : ∀ l : List (List Nat), (sortS l).length = l.length
  | [] => rfl
  | x :: l => by simp only [sortS, ins_len2, sort_len2 l, List.length_cons]
theorem look_some {k : List Nat} : ∀ {T : Tab}, k ∈ T.map (·.1) → ∃ e, lookD k T = some e
  | [], h => by simp at h
  | (y, d) :: T, h => by
    simp only [lookD]
    split
    · exact ⟨d, rfl⟩
    · rename_i hne
      simp only [List.map_cons, List.mem_cons] at h
      rcases h with h | h
      · exact absurd h.symm hne
      · exact look_some h
theorem prs_pure {m : Nat} {T : Tab} (h : TOk m T) : D.pures (prsD T) = true := pures_of fun x hx => by
  obtain ⟨k, hk, rfl⟩ := List.mem_map.mp hx
  obtain ⟨e, he⟩ := look_some (sort_mem2.mp hk)
  simp [he, tm_pure (h _ (look_mem he)).1]
theorem r_match (h1 : P 1 = some F_is_name) (h2 : P 2 = some F_is_hole) (h20 : P 20 = some F_match_into) (h : P 21 = some F_match) {l m n : Nat} {S : Sto} {p t : D} (hm : m ≤ 100) (hl4 : l ≤ 4) (hp : tm l p = true) (ht : tm m t = true) (hn : l + 3 ≤ n) : run P n 21 [p, t] S = .ok (mtch l p t) S := by
  obtain ⟨n, rfl⟩ : ∃ k, n = k + 1 := ⟨n - 1, by omega⟩
  have n4 : nW l ≤ 40 := Nat.le_trans (nW_mono hl4) (by decide)
  have t0 : TOk m [] := fun kv hk => by simp at hk
  have mi := r_mInto h1 h2 h20 (S := S ++ [.dct []]) (n := n) (k := S.length) (T := []) hm hp ht t0 sto_at (by simp [szL]; omega) (by omega)
  obtain ⟨q1, q2⟩ := mI_ok hp ht t0
  rw [sto_set] at mi
  rw [run_e h _ _ [some p, some t, none, none] rfl rfl]
  refine fx_nx [some p, some t, some (.loc S.length), none] (S ++ [.dct []]) (by simp [pr]) ?_
  unfold mtch
  cases e : (mI l p t []).1 with
  | false =>
    rw [e] at mi
    refine fx_rt .non (S ++ [.dct (mI l p t []).2]) (by simp [getV, mi]) ?_
    rw [ret_pure rfl]; rfl
  | true =>
    rw [e] at mi
    generalize (mI l p t []).2 = T at mi q1 q2
    simp at q2
    refine fx_nx [some p, some t, some (.loc S.length), none] (S ++ [.dct T]) (by simp [getV, mi]) ?_
    refine fx_rt (.tup (prsD T)) (S ++ [.dct T]) ?_ (by rw [ret_pure (by simp [prs_pure q1])]; rfl)
    have so : pr .sorted [.loc S.length] (S ++ [.dct T]) = .ok (.lst ((keyS T).map D.str)) (S ++ [.dct T]) := by
      simp only [pr, rs, sto_at]
      exact gd_y (by omega)
    have hc : ev (run P n) (.comp [3] [3] false .seq [.pr .sorted [.var 2]] [] (.tup [.var 3, .pr .idx [.var 2, .var 3]])) [some p, some t, some (.loc S.length), none] (S ++ [.dct T]) = .ok (.lst (prsD T)) (S ++ [.dct T]) := by
      refine (ev_map (g := fun d => match d with | .str k => .tup [.str k, (lookD k T).getD .non] | _ => .non) (ds := [.lst ((keyS T).map D.str)]) (by simp [getV, so]) it_lst ?_ rfl fun d hd => ?_).trans ?_
      · rw [List.length_map, keyS, sort_len2, List.length_map]; unfold szL; omega
      · obtain ⟨k, hk, rfl⟩ := List.mem_map.mp hd
        obtain ⟨e, he⟩ := look_some (sort_mem2.mp hk)
        refine ⟨[some p, some t, some (.loc S.length), some (.str k)], rfl, ?_⟩
        have ix : pr .idx [.loc S.length, .str k] (S ++ [.dct T]) = .ok e (S ++ [.dct T]) := by simp [pr, rs, he]
        simp [getV, ix, he]
      · simp [prsD, Function.comp_def]
    rw [ex_ret, ev_pr, evs_cons, hc]
    simp
end Eng

/-! B4 -/
set_option linter.all false
set_option maxRecDepth 100000
set_option maxHeartbeats 1000000
/-! Leaves, holes, filling. -/
namespace Eng
variable {P : Nat → Option Fn} {S : Sto} {n : Nat}

/-! ### leaves -/
def lvs : Nat → D → List (List Nat)
  | 0, _ => []
  | _ + 1, .str s => [s]
  | l + 1, d => (kids d).flatMap (lvs l)
theorem lvs_node {l : Nat} {x : D} {ps : List D} : lvs (l + 1) (.tup (x :: ps)) = ps.flatMap (lvs l) := rfl
theorem lvs_len : ∀ {l : Nat} {d : D}, tm l d = true → (lvs l d).length ≤ nW l
  | 0, _, h => by simp [tm] at h
  | l + 1, d, h => by
    rcases tm_cases h with ⟨s, rfl, hs⟩ | ⟨f, ps, rfl, h1, h2, h3, h4⟩
    · simp [lvs, nW]
    · rw [lvs_node]
      simp only [nW]
      have : ∀ qs : List D, (∀ p ∈ qs, tm l p = true) → (qs.flatMap (lvs l)).length ≤ qs.length * nW l := by
        intro qs
        induction qs with
        | nil => simp
        | cons q qs ih =>
          intro hq
          have a := lvs_len (hq q List.mem_cons_self)
          have b := ih fun p hp => hq p (List.mem_cons_of_mem _ hp)
          have : (qs.length + 1) * nW l = qs.length * nW l + nW l := Nat.succ_mul _ _
          simp only [List.flatMap_cons, List.length_append, List.length_cons]
          omega
      have a := this ps h4
      have b : ps.length * nW l ≤ 3 * nW l := Nat.mul_le_mul_right _ h2
      omega
theorem lvs_ok : ∀ {l : Nat} {d : D} {s : List Nat}, tm l d = true → s ∈ lvs l d → okLf s = true
  | 0, _, _, h, _ => by simp [tm] at h
  | l + 1, d, s, h, hs => by
    rcases tm_cases h with ⟨u, rfl, hu⟩ | ⟨f, ps, rfl, h1, h2, h3, h4⟩
    · simp only [lvs, List.mem_singleton] at hs; subst hs; exact hu
    · rw [lvs_node, List.mem_flatMap] at hs
      obtain ⟨p, hp, hs⟩ := hs
      exact lvs_ok (h4 p hp) hs
theorem strs_pure (ss : List (List Nat)) : D.pures (ss.map D.str) = true := pures_of fun x hx => by obtain ⟨k, _, rfl⟩ := List.mem_map.mp hx; simp
theorem ext_at {xs ys : List D} (h : xs.length + ys.length ≤ szL) : pr .ext [.loc S.length, .lst ys] (S ++ [.lst xs]) = .ok .non (S ++ [.lst (xs ++ ys)]) := by
  simp only [pr, sto_at, rs_lst, sto_set]
  exact gd_y h
theorem app_at {xs : List D} {x : D} (h : xs.length < szL) : pr .app [.loc S.length, x] (S ++ [.lst xs]) = .ok .non (S ++ [.lst (xs ++ [x])]) := by
  simp only [pr, sto_at, sto_set]
  exact gd_y h
theorem okE {xs : List D} : okM .ext (.loc S.length) (S ++ [.lst xs]) = true := by simp [okM, rs]
theorem okA {xs : List D} : okM .app (.loc S.length) (S ++ [.lst xs]) = true := by simp [okM, rs]
theorem leaves_loop {l : Nat} (hl : l ≤ 13) {o0 : Option D} {kc : Sto → Bool} (hkc : ∀ S, kc S = true) (hr : ∀ (S : Sto) (p : D), tm l p = true → run P n 17 [p] S = .ok (.lst ((lvs l p).map D.str)) S) :
    ∀ (ps : List D) (acc : List D) (a : Option D), (∀ p ∈ ps, tm l p = true) → acc.length + ps.length * nW l ≤ szL →
    ∃ a', forL (fun d s => bindT [2] false d s) (fun s S => exs (run P n) [.expr (.mth .ext (.var 1) [.call 17 [.var 2]])] s S) kc ps [o0, some (.loc S.length), a] (S ++ [.lst acc]) = .nx [o0, some (.loc S.length), a'] (S ++ [.lst (acc ++ (ps.flatMap (lvs l)).map D.str)])
  | [], acc, a, h, hs => ⟨a, by simp [forL]⟩
  | p :: ps, acc, a, h, hs => by
    have hp := h p List.mem_cons_self
    have rw := hr (S ++ [.lst acc]) p hp
    have lw := lvs_len hp
    have hps : (ps.length + 1) * nW l = ps.length * nW l + nW l := Nat.succ_mul _ _
    rw [List.length_cons] at hs
    obtain ⟨a', ih⟩ := leaves_loop hl (o0 := o0) hkc hr ps (acc ++ (lvs l p).map D.str) (some p) (fun q hq => h q (List.mem_cons_of_mem _ hq)) (by simp; omega)
    refine ⟨a', forL_nx [o0, some (.loc S.length), some p] (S ++ [.lst (acc ++ (lvs l p).map D.str)]) rfl ?_ (hkc _) (ih.trans (by simp))⟩
    simp [getV, okE, rw, ext_at (show acc.length + ((lvs l p).map D.str).length ≤ szL by simp; omega)]
theorem r_leaves (h13 : P 13 = some F_parts_of) (h : P 17 = some F_leaves) : ∀ {l n : Nat} {S : Sto} {d : D}, l ≤ 14 → tm l d = true → l + 1 ≤ n → run P n 17 [d] S = .ok (.lst ((lvs l d).map D.str)) S
  | 0, n, S, d, _, hd, _ => by simp [tm] at hd
  | l + 1, n, S, d, hl, hd, hn => by
    obtain ⟨n, rfl⟩ : ∃ k, n = k + 1 := ⟨n - 1, by omega⟩
    obtain ⟨h1, h2⟩ := tm_kids hd
    have n13 := nW_14 (l := l) (by omega)
    have h3 : (kids d).length * nW l ≤ 3 * nW l := Nat.mul_le_mul_right _ h1
    have hp := r_parts (S := S ++ [.lst []]) h13 (n := n) (by omega) hd
    obtain ⟨a', lp⟩ := leaves_loop (n := n) (S := S) (l := l) (by omega) (o0 := some d) (kc := fun _ => true) (fun _ => rfl) (fun S p hp => r_leaves h13 h (by omega) hp (by omega)) (kids d) [] none h2 (by simp [szL]; omega)
    rcases tm_cases hd with ⟨s, rfl, hs⟩ | ⟨f, ps, rfl, g1, g2, g3, g4⟩
    · rw [run_at h _ _ _ rfl]
      simp [F_leaves, getV, start, lvs]
    · rw [run_e h _ _ [some _, none, none] rfl rfl]
      simp only [kids] at lp hp
      refine fx_nx [some (.tup (.str f :: ps)), none, none] S (by simp [getV]) ?_
      refine fx_nx [some (.tup (.str f :: ps)), some (.loc S.length), none] (S ++ [.lst []]) (by simp) ?_
      refine fx_nx _ _ (ex_forE (ds := [.tup ps]) (by simp [getV, hp]) rfl lp) ?_
      refine fx_rt (.loc S.length) (S ++ [.lst ([] ++ (ps.flatMap (lvs l)).map D.str)]) (by simp [getV]) ?_
      rw [ret_lst0 (by simpa using strs_pure _)]
      simp [lvs_node]
/-! ### holes -/
def hadd (acc : List (List Nat)) (s : List Nat) : List (List Nat) := if hl s = true ∧ s ∉ acc then acc ++ [s] else acc
def hls (l : Nat) (d : D) : List (List Nat) := (lvs l d).foldl hadd []
theorem hadd_mem {acc : List (List Nat)} {s k : List Nat} (h : k ∈ hadd acc s) : k ∈ acc ∨ (k = s ∧ hl s = true) := by
  unfold hadd at h
  split at h
  · rename_i hs
    rcases List.mem_append.mp h with h | h
    · exact .inl h
    · simp at h; exact .inr ⟨h, hs.1⟩
  · exact .inl h
theorem hadd_len (acc : List (List Nat)) (s : List Nat) : (hadd acc s).length ≤ acc.length + 1 := by unfold hadd; split <;> simp
theorem hfold_mem : ∀ {ss acc : List (List Nat)} {k : List Nat}, k ∈ ss.foldl hadd acc → k ∈ acc ∨ (k ∈ ss ∧ hl k = true)
  | [], acc, k, h => .inl h
  | s :: ss, acc, k, h => by
    rcases hfold_mem (ss := ss) h with h | ⟨h, h'⟩
    · rcases hadd_mem h with h | ⟨rfl, h⟩
      · exact .inl h
      · exact .inr ⟨List.mem_cons_self, h⟩
    · exact .inr ⟨List.mem_cons_of_mem _ h, h'⟩
theorem hls_mem {l : Nat} {d : D} {k : List Nat} (h : k ∈ hls l d) : k ∈ lvs l d ∧ hl k = true := by
  rcases hfold_mem h with h | h
  · simp at h
  · exact h
theorem hfold_len : ∀ {ss acc : List (List Nat)}, (ss.foldl hadd acc).length ≤ acc.length + ss.length
  | [], acc => by simp
  | s :: ss, acc => by
    have a := hfold_len (ss := ss) (acc := hadd acc s)
    have b := hadd_len acc s
    simp only [List.foldl_cons, List.length_cons]; omega
theorem eqvS_any {k : List Nat} : ∀ {acc : List (List Nat)}, (acc.map D.str).any (fun y => y.eqv (.str k)) = decide (k ∈ acc)
  | [] => by simp
  | a :: acc => by
    simp only [List.map_cons, List.any_cons, eqvS_any (acc := acc), D.eqv, List.mem_cons]
    by_cases h : a = k
    · subst h; simp
    · have : (a == k) = false := beq_eq_false_iff_ne.mpr h
      rw [this]
      have hk : ¬ k = a := fun e => h e.symm
      simp [hk]
theorem strs_dps {acc : List (List Nat)} : D.dps (acc.map D.str) = 0 := by
  have : D.dps (acc.map D.str) ≤ 0 := dps_le.mpr fun x hx => by obtain ⟨k, _, rfl⟩ := List.mem_map.mp hx; simp
  omega
theorem notin_at {k : List Nat} {acc : List (List Nat)} : pr .notin [.str k, .loc S.length] (S ++ [.lst (acc.map D.str)]) = .ok (.bl (!decide (k ∈ acc))) (S ++ [.lst (acc.map D.str)]) := by
  have e : pr .notin [.str k, .loc S.length] (S ++ [.lst (acc.map D.str)]) = gd ((D.str k).dp ≤ dpL ∧ (D.lst (acc.map D.str)).dp ≤ dpL) (.bl (!(acc.map D.str).any (fun y => y.eqv (.str k)))) (S ++ [.lst (acc.map D.str)]) := by
    simp only [pr, rs, sto_at, pr.isIn]
    cases k with
    | nil => rfl
    | cons c r => cases r <;> rfl
  rw [e, eqvS_any]
  exact gd_y (by simp [strs_dps, dpL])
theorem holes_loop (h1 : P 1 = some F_is_name) (h2 : P 2 = some F_is_hole) (hn : 2 ≤ n) {o0 : Option D} {kc : Sto → Bool} (hkc : ∀ S, kc S = true) : ∀ (ss acc : List (List Nat)) (a : Option D), (∀ s ∈ ss, okLf s = true) → acc.length + ss.length ≤ szL →
    ∃ a', forL (fun d s => bindT [2] false d s) (fun s S => exs (run P n) [.ite (.and (.call 2 [.var 2]) (.pr .notin [.var 2, .var 1])) [.expr (.mth .app (.var 1) [.var 2])] []] s S) kc (ss.map D.str) [o0, some (.loc S.length), a] (S ++ [.lst (acc.map D.str)]) = .nx [o0, some (.loc S.length), a'] (S ++ [.lst ((ss.foldl hadd acc).map D.str)])
  | [], acc, a, _, _ => ⟨a, by simp [forL]⟩
  | s :: ss, acc, a, h, hs => by
    rw [List.length_cons] at hs
    have b := hadd_len acc s
    obtain ⟨a', ih⟩ := holes_loop h1 h2 hn (o0 := o0) hkc ss (hadd acc s) (some (.str s)) (fun q hq => h q (List.mem_cons_of_mem _ hq)) (by omega)
    have hh : run P n 2 [.str s] (S ++ [.lst (acc.map D.str)]) = .ok (.bl (hl s)) (S ++ [.lst (acc.map D.str)]) := by rw [r_hole h1 h2 (by omega) _ rfl, okLf_hole (h s List.mem_cons_self)]
    rw [List.map_cons]
    refine ⟨a', forL_nx [o0, some (.loc S.length), some (.str s)] (S ++ [.lst ((hadd acc s).map D.str)]) rfl ?_ (hkc _) ih⟩
    cases e1 : hl s with
    | false =>
      rw [e1] at hh
      have e2 : hadd acc s = acc := by unfold hadd; rw [if_neg (by rw [e1]; simp)]
      rw [e2]
      simp [getV, hh]
    | true =>
      rw [e1] at hh
      by_cases hm : s ∈ acc
      · have e2 : hadd acc s = acc := by unfold hadd; rw [if_neg (by simp [hm])]
        rw [e2]
        simp [getV, hh, notin_at, hm]
      · have e2 : hadd acc s = acc ++ [s] := by unfold hadd; rw [if_pos ⟨e1, hm⟩]
        rw [e2]
        simp [getV, hh, notin_at, hm, okA, app_at (show (acc.map D.str).length < szL by simp; omega)]
theorem r_holes (h1 : P 1 = some F_is_name) (h2 : P 2 = some F_is_hole) (h13 : P 13 = some F_parts_of) (h17 : P 17 = some F_leaves) (h : P 18 = some F_holes) {l : Nat} {d : D} (hl : l ≤ 14) (hd : tm l d = true) (hn : l + 3 ≤ n) : run P n 18 [d] S = .ok (.tup ((hls l d).map D.str)) S := by
  obtain ⟨n, rfl⟩ : ∃ k, n = k + 1 := ⟨n - 1, by omega⟩
  have n13 := nW_14 (l := l) hl
  have ll := lvs_len hd
  have lv := r_leaves (S := S ++ [.lst []]) h13 h17 (n := n) hl hd (by omega)
  obtain ⟨a', lp⟩ := holes_loop (S := S) h1 h2 (n := n) (by omega) (o0 := some d) (kc := fun _ => true) (fun _ => rfl) (lvs l d) [] none (fun s hs => lvs_ok hd hs) (by simp [szL]; omega)
  rw [run_e h _ _ [some d, none, none] rfl rfl]
  refine fx_nx [some d, some (.loc S.length), none] (S ++ [.lst []]) (by simp) ?_
  refine fx_nx _ _ (ex_forE (ds := [.lst ((lvs l d).map D.str)]) (by simp [getV, lv]) rfl lp) ?_
  exact fx_rt (.tup ((hls l d).map D.str)) (S ++ [.lst ((hls l d).map D.str)]) (by simp [getV, pr, rs, hls]) (ret_pure (by simp [strs_pure]) _)
/-! ### filling -/
def fl : Nat → D → Tab → D
  | 0, d, _ => d
  | _ + 1, .str s, T => (lookD s T).getD (.str s)
  | l + 1, .tup (x :: ps), T => .tup (x :: ps.map fun p => fl l p T)
  | _ + 1, d, _ => d
theorem fl_congr {T T' : Tab} (h : ∀ s, lookD s T = lookD s T') : ∀ (l : Nat) (d : D), fl l d T = fl l d T'
  | 0, d => rfl
  | l + 1, d => by
    cases d with
    | str s => simp only [fl, h]
    | tup xs =>
      cases xs with
      | nil => rfl
      | cons x ps =>
        simp only [fl, D.tup.injEq, List.cons.injEq, true_and]
        exact List.map_congr_left fun p _ => fl_congr h l p
    | _ => rfl
theorem tm_fl : ∀ {l j : Nat} {d : D} {T : Tab}, tm l d = true → (∀ kv ∈ T, tm j kv.2 = true) → 1 ≤ j → tm (l + j - 1) (fl l d T) = true
  | 0, j, d, T, h, _, _ => by simp [tm] at h
  | l + 1, j, d, T, h, hT, hj => by
    rcases tm_cases h with ⟨s, rfl, hs⟩ | ⟨f, ps, rfl, g1, g2, g3, g4⟩
    · simp only [fl]
      cases e : lookD s T with
      | none => exact tm_le (l := 1) (by omega) (by simpa only [Option.getD_none, tm] using hs)
      | some x => exact tm_le (by omega) (hT _ (look_mem e))
    · simp only [fl]
      obtain ⟨i, rfl⟩ : ∃ i, j = i + 1 := ⟨j - 1, by omega⟩
      rw [show l + 1 + (i + 1) - 1 = (l + (i + 1) - 1) + 1 from by omega]
      refine tm_node (by simpa using g1) (by simpa using g2) g3 fun q hq => ?_
      obtain ⟨p, hp, rfl⟩ := List.mem_map.mp hq
      exact tm_fl (g4 p hp) hT hj
theorem fill_run {G : Nat → List D → Sto → Res D} {id : Nat} {e : E} {f : List Nat} {ps : List D} {g : D → D} {k : Nat} (h2 : ps.length ≤ 3) (he : ev G e [some (.tup (.str f :: ps)), some (.loc k), none] S = .ok (.tup ps) S) (hg : ∀ p ∈ ps, G id [p, .loc k] S = .ok (g p) S) :
    ev G (.pr .add [.tup [.pr .idx [.var 0, .con (.int 0)]], .pr .tuple [.comp [2] [2] false .seq [e] [] (.call id [.var 2, .var 1])]]) [some (.tup (.str f :: ps)), some (.loc k), none] S = .ok (.tup (.str f :: ps.map g)) S := by
  have hc : ev G (.comp [2] [2] false .seq [e] [] (.call id [.var 2, .var 1])) [some (.tup (.str f :: ps)), some (.loc k), none] S = .ok (.lst (ps.map g)) S := by
    refine ev_map (g := g) (ds := [.tup ps]) (by simp [he]) it_tup (by unfold szL; omega) rfl fun d hd => ⟨[some (.tup (.str f :: ps)), some (.loc k), some d], rfl, ?_⟩
    simp [getV, hg d hd]
  have ht : ev G (.tup [.pr .idx [.var 0, .con (.int 0)]]) [some (.tup (.str f :: ps)), some (.loc k), none] S = .ok (.tup [.str f]) S := by simp [getV]
  rw [ev_pr, evs_cons, ht, bOk, evs_cons]
  rw [show ev G (.pr .tuple [.comp [2] [2] false .seq [e] [] (.call id [.var 2, .var 1])]) [some (.tup (.str f :: ps)), some (.loc k), none] S = .ok (.tup (ps.map g)) S from by rw [ev_pr, evs_cons, hc]; simp]
  simp only [bOk, evs_nil]
  rw [p_addT (by simp [szL]; omega)]
  simp
theorem get_at {s : List Nat} {T : Tab} {k : Nat} (hk : S[k]? = some (.dct T)) : pr .get [.loc k, .str s, .str s] S = .ok ((lookD s T).getD (.str s)) S := by simp [pr, hk]
theorem okG {T : Tab} {k : Nat} (hk : S[k]? = some (.dct T)) : okM .get (.loc k) S = true := by simp [okM, hk]
theorem r_lfill (h : P 30 = some F_law_fill) : ∀ {l n k : Nat} {S : Sto} {d : D} {T : Tab}, tm l d = true → S[k]? = some (.dct T) → l ≤ n → run P n 30 [d, .loc k] S = .ok (fl l d T) S
  | 0, n, k, S, d, T, hd, _, _ => by simp [tm] at hd
  | l + 1, n, k, S, d, T, hd, hk, hn => by
    obtain ⟨n, rfl⟩ : ∃ k, n = k + 1 := ⟨n - 1, by omega⟩
    rcases tm_cases hd with ⟨s, rfl, hs⟩ | ⟨f, ps, rfl, g1, g2, g3, g4⟩
    · rw [run_at h _ _ _ rfl]
      simp [F_law_fill, getV, start, okG hk, get_at hk, fl]
    · rw [run_e h _ _ [some _, some _, none] rfl rfl]
      refine fx_nx [some (.tup (.str f :: ps)), some (.loc k), none] S (by simp [getV]) ?_
      refine fx_rt (.tup (.str f :: ps.map fun p => fl l p T)) S ?_ (by rw [retD_self]; rfl)
      rw [ex_ret, fill_run (g := fun p => fl l p T) g2 (by simp [getV, cut_tail]) fun p hp => r_lfill h (g4 p hp) hk (by omega)]
      rfl
theorem r_with (h13 : P 13 = some F_parts_of) (h : P 22 = some F_with_holes) : ∀ {l n k : Nat} {S : Sto} {d : D} {T : Tab}, tm l d = true → S[k]? = some (.dct T) → l + 1 ≤ n → run P n 22 [d, .loc k] S = .ok (fl l d T) S
  | 0, n, k, S, d, T, hd, _, _ => by simp [tm] at hd
  | l + 1, n, k, S, d, T, hd, hk, hn => by
    obtain ⟨n, rfl⟩ : ∃ k, n = k + 1 := ⟨n - 1, by omega⟩
    rcases tm_cases hd with ⟨s, rfl, hs⟩ | ⟨f, ps, rfl, g1, g2, g3, g4⟩
    · rw [run_at h _ _ _ rfl]
      simp [F_with_holes, getV, start, okG hk, get_at hk, fl]
    · have hp := r_parts (S := S) h13 (n := n) (by omega) hd
      simp only [kids] at hp
      rw [run_e h _ _ [some _, some _, none] rfl rfl]
      refine fx_nx [some (.tup (.str f :: ps)), some (.loc k), none] S (by simp [getV]) ?_
      refine fx_rt (.tup (.str f :: ps.map fun p => fl l p T)) S ?_ (by rw [retD_self]; rfl)
      rw [ex_ret, fill_run (g := fun p => fl l p T) g2 (by simp [getV, hp]) fun p hp => r_with h13 h (g4 p hp) hk (by omega)]
      rfl
/-! ### filled -/
theorem look_put {s k : List Nat} {e : D} {T : Tab} : lookD k (putD s e T) = if s = k then some e else lookD k T := by
  unfold putD
  split
  · rename_i hs
    obtain ⟨x, hx⟩ := Option.isSome_iff_exists.mp hs
    have : ∀ (T : Tab), (∃ y, lookD s T = some y) → lookD k (T.map fun kv => if kv.1 = s then (kv.1, e) else kv) = if s = k then some e else lookD k T := by
      intro T
      induction T with
      | nil => intro ⟨y, hy⟩; simp [lookD] at hy
      | cons kv T ih =>
        obtain ⟨y, d⟩ := kv
        intro ⟨z, hz⟩
        simp only [lookD] at hz
        by_cases hy : y = s
        · subst hy
          simp only [List.map_cons, if_true, lookD]
          by_cases hk : y = k
          · rw [if_pos hk, if_pos hk]
          · rw [if_neg hk, if_neg hk]
            have other : ∀ (T : Tab), lookD k (T.map fun kv => if kv.1 = y then (kv.1, e) else kv) = lookD k T := by
              intro T
              induction T with
              | nil => rfl
              | cons kv T ih =>
                obtain ⟨a, b⟩ := kv
                simp only [List.map_cons, lookD]
                by_cases ha : a = y
                · rw [if_pos ha]
                  simp only [lookD]
                  rw [if_neg (by rw [ha]; exact hk), if_neg (by rw [ha]; exact hk), ih]
                · rw [if_neg ha]
                  simp only [lookD, ih]
            rw [other, if_neg hk]
        · rw [if_neg hy] at hz
          simp only [List.map_cons]
          rw [if_neg hy]
          simp only [lookD, ih ⟨z, hz⟩]
          by_cases hk : y = k
          · rw [if_pos hk, if_pos hk, if_neg (fun q => hy (hk.trans q.symm))]
          · rw [if_neg hk, if_neg hk]
    exact this T ⟨x, hx⟩
  · rename_i hs
    have : lookD s T = none := by cases q : lookD s T with | none => rfl | some x => rw [q] at hs; simp at hs
    rw [look_app]
    by_cases hk : s = k
    · subst hk; rw [this]
    · rw [if_neg hk, if_neg hk]; cases lookD k T <;> rfl
theorem look_merge {f : List Nat → D} {k : List Nat} : ∀ (ks : List (List Nat)) (acc : Tab), lookD k (mergeD acc (ks.map fun k => (k, f k))) = if k ∈ ks then some (f k) else lookD k acc
  | [], acc => by simp [mergeD]
  | s :: ks, acc => by
    have e : mergeD acc ((s :: ks).map fun k => (k, f k)) = mergeD (putD s (f s) acc) (ks.map fun k => (k, f k)) := rfl
    rw [e, look_merge ks, look_put]
    by_cases h : k ∈ ks
    · rw [if_pos h, if_pos (List.mem_cons_of_mem _ h)]
    · rw [if_neg h]
      by_cases hs : s = k
      · subst hs; simp
      · have hk : ¬ k = s := fun q => hs q.symm
        rw [if_neg hs, if_neg (by simp [h, hk])]
theorem prs_pairs : ∀ (ks : List (List Nat)) (f : List Nat → D), pairsD (ks.map fun k => .tup [.str k, f k]) = some (ks.map fun k => (k, f k))
  | [], f => rfl
  | k :: ks, f => by simp [pairsD, prs_pairs ks f]
theorem look_none {k : List Nat} : ∀ {T : Tab}, k ∉ T.map (·.1) → lookD k T = none
  | [], _ => rfl
  | (y, d) :: T, h => by
    simp only [List.map_cons, List.mem_cons, not_or] at h
    simp only [lookD]
    rw [if_neg (fun e => h.1 e.symm)]
    exact look_none h.2
/-- the pairs told by match, as a table again -/
def back (T : Tab) : Tab := mergeD [] ((keyS T).map fun k => (k, (lookD k T).getD .non))
theorem look_back (T : Tab) (k : List Nat) : lookD k (back T) = lookD k T := by
  unfold back keyS
  rw [look_merge]
  by_cases h : k ∈ T.map (·.1)
  · obtain ⟨e, he⟩ := look_some h
    rw [if_pos (sort_mem2.mpr h), he]; rfl
  · rw [if_neg (fun q => h (sort_mem2.mp q)), look_none h]; rfl
theorem r_filled (h1 : P 1 = some F_is_name) (h2 : P 2 = some F_is_hole) (h13 : P 13 = some F_parts_of) (h17 : P 17 = some F_leaves) (h18 : P 18 = some F_holes) (h22 : P 22 = some F_with_holes) (h : P 23 = some F_filled) {l m : Nat} {d : D} {T : Tab} (hl : l ≤ 14) (hd : tm l d = true) (hT : TOk m T) (hm : 1 ≤ m) (hs : T.length ≤ 100)
    (hh : ∀ s ∈ lvs l d, Eng.hl s = true → (lookD s T).isSome = true) (hn : l + 4 ≤ n) : run P n 23 [d, .tup (prsD T)] S = .ok (fl l d T) S := by
  obtain ⟨n, rfl⟩ : ∃ k, n = k + 1 := ⟨n - 1, by omega⟩
  have n13 := nW_14 (l := l) hl
  have ll := lvs_len hd
  have dp : pr .dictp [.tup (prsD T)] S = .ok (.loc S.length) (S ++ [.dct (back T)]) := by
    simp only [pr, rs_tup, prsD, prs_pairs]
    exact gd_y (by rw [List.length_map, keyS, sort_len2, List.length_map]; unfold szL; omega)
  have ho := r_holes (S := S ++ [.dct (back T)]) h1 h2 h13 h17 h18 (n := n) hl hd (by omega)
  have hw := r_with (S := S ++ [.dct (back T)]) h13 h22 (n := n) (k := S.length) hd sto_at (by omega)
  rw [fl_congr (look_back T)] at hw
  have hc : ev (run P n) (.comp [3] [3] false .seq [.call 18 [.var 0]] [] (.pr .isin [.var 3, .var 2])) [some d, some (.tup (prsD T)), some (.loc S.length), none] (S ++ [.dct (back T)]) = .ok (.lst ((hls l d).map fun _ => D.bl true)) (S ++ [.dct (back T)]) := by
    refine (ev_map (g := fun _ => .bl true) (ds := [.tup ((hls l d).map D.str)]) (by simp [getV, ho]) it_tup ?_ rfl fun x hx => ?_).trans (by simp [Function.comp_def])
    · rw [List.length_map]
      have := hfold_len (ss := lvs l d) (acc := [])
      unfold hls szL
      simp at this
      omega
    · obtain ⟨k, hk, rfl⟩ := List.mem_map.mp hx
      obtain ⟨q1, q2⟩ := hls_mem hk
      have q3 := hh k q1 q2
      refine ⟨[some d, some (.tup (prsD T)), some (.loc S.length), some (.str k)], rfl, ?_⟩
      have e : pr .isin [.str k, .loc S.length] (S ++ [.dct (back T)]) = .ok (.bl (lookD k (back T)).isSome) (S ++ [.dct (back T)]) := by
        simp only [pr, rs, sto_at, pr.isIn]
        cases k with
        | nil => rfl
        | cons c r => cases r <;> simp
      simp [getV, e, look_back, q3]
  have al : pr .all [.lst ((hls l d).map fun _ => D.bl true)] (S ++ [.dct (back T)]) = .ok (.bl true) (S ++ [.dct (back T)]) := by
    rw [p_all (boolsD_map (fun _ => true) (hls l d))]
    simp
  rw [run_e h _ _ [some d, some (.tup (prsD T)), none, none] rfl rfl]
  refine fx_nx [some d, some (.tup (prsD T)), some (.loc S.length), none] (S ++ [.dct (back T)]) (by simp [getV, dp]) ?_
  refine fx_nx [some d, some (.tup (prsD T)), some (.loc S.length), none] (S ++ [.dct (back T)]) ?_ ?_
  · refine (ex_itF (S1 := S ++ [.dct (back T)]) ?_).trans exs_nil
    rw [ev_pr, evs_cons, ev_pr, evs_cons, hc]
    simp [al]
  · exact fx_rt (fl l d T) (S ++ [.dct (back T)]) (by simp [getV, hw]) (ret_pure (tm_pure (tm_fl (j := m) hd (fun kv hk => (hT kv hk).1) hm)) _)
end Eng

/-! B5 -/
set_option linter.all false
set_option maxRecDepth 100000
set_option maxHeartbeats 1000000
/-! What the laws draw: trees, patterns, mends, books without nots. -/
namespace Eng
variable {P : Nat → Option Fn} {S : Sto} {n : Nat}

/-! ### trees are terms -/
def sX : List Nat := [63, 120]
def sY : List Nat := [63, 121]
def sAB : List Nat := [63, 97, 98]
theorem pick_of {Q : D → Prop} {a b c d : D} {i : Int} (ha : Q a) (hb : Q b) (hc : Q c) (hd : Q d) : Q (pick4 a b c d i) := by
  unfold pick4
  split
  · exact ha
  split
  · exact hb
  split
  · exact hc
  · exact hd
def lfOk (d : D) : Prop := ∃ s, d = .str s ∧ okLf s = true ∧ (hl s = true → s = sX ∨ s = sY ∨ s = sAB)
theorem leaf_lf (c : Int) (t : Bool) : lfOk (lawLeaf c t) := by
  unfold lawLeaf
  split
  · exact pick_of ⟨_, rfl, by decide, fun _ => .inl rfl⟩ ⟨_, rfl, by decide, fun _ => .inr (.inl rfl)⟩ ⟨_, rfl, by decide, fun _ => .inl rfl⟩ ⟨_, rfl, by decide, fun _ => .inr (.inr rfl)⟩
  · exact pick_of ⟨_, rfl, by decide, fun h => by simp [hl] at h⟩ ⟨_, rfl, by decide, fun h => by simp [hl] at h⟩ ⟨_, rfl, by decide, fun h => by simp [hl] at h⟩ ⟨_, rfl, by decide, fun h => by simp [hl] at h⟩
theorem name_lf (c : Int) : ∃ f, lawName c = .str f ∧ f.length ≤ 100 := by
  unfold lawName
  exact pick_of (Q := fun d => ∃ f, d = .str f ∧ f.length ≤ 100) ⟨_, rfl, by decide⟩ ⟨_, rfl, by decide⟩ ⟨_, rfl, by decide⟩ ⟨_, rfl, by decide⟩
theorem many_lf (c : Int) : 1 ≤ lawMany c ∧ lawMany c ≤ 3 := by
  unfold lawMany
  split
  · omega
  split <;> omega
theorem tree_tm : ∀ (l : Nat) (c : Int) (t : Bool), tm (l + 1) (lawTree (l + 1) c t) = true
  | 0, c, t => by
    obtain ⟨s, e, h, _⟩ := leaf_lf c t
    simp only [lawTree, e, tm]; exact h
  | l + 1, c, t => by
    simp only [lawTree]
    split
    · obtain ⟨s, e, h, _⟩ := leaf_lf c t
      rw [e]; simpa only [tm] using h
    · obtain ⟨f, e, hf⟩ := name_lf c
      obtain ⟨m1, m2⟩ := many_lf c
      rw [e]
      refine tm_node (by simpa using m1) (by simpa using m2) hf fun p hp => ?_
      obtain ⟨k, _, rfl⟩ := List.mem_map.mp hp
      exact tree_tm l _ t
theorem tree_holes : ∀ (l : Nat) (c : Int) (t : Bool) (s : List Nat), s ∈ lvs (l + 1) (lawTree (l + 1) c t) → hl s = true → s = sX ∨ s = sY ∨ s = sAB
  | 0, c, t, s, hs, hh => by
    obtain ⟨u, e, h, q⟩ := leaf_lf c t
    simp only [lawTree, e, lvs, List.mem_singleton] at hs
    subst hs; exact q hh
  | l + 1, c, t, s, hs, hh => by
    simp only [lawTree] at hs
    split at hs
    · obtain ⟨u, e, h, q⟩ := leaf_lf c t
      rw [e] at hs
      simp only [lvs, List.mem_singleton] at hs
      subst hs; exact q hh
    · rw [lvs_node, List.mem_flatMap] at hs
      obtain ⟨p, hp, hs⟩ := hs
      obtain ⟨k, _, rfl⟩ := List.mem_map.mp hp
      exact tree_holes l _ t s hs hh
/-! ### patterns -/
def lawPat (c : Int) (l : Nat) : D := match lawTree l c true with
  | .str s => if hl s = true then .tup [.str [102], .str s] else .str s
  | d => d
def noHole (d : D) : Prop := ∀ s, d = .str s → hl s = false
theorem pat_ok (c : Int) (l : Nat) : tm (l + 2) (lawPat c (l + 2)) = true ∧ noHole (lawPat c (l + 2)) := by
  have h := tree_tm (l + 1) c true
  unfold lawPat
  split
  · rename_i s e
    rw [e] at h
    simp only [tm] at h
    split
    · exact ⟨tm_node (by simp) (by simp) (by simp) fun p hp => by simp at hp; subst hp; simpa only [tm] using h, fun s q => by cases q⟩
    · rename_i hs
      exact ⟨by simpa only [tm] using h, fun u q => by cases q; simpa using hs⟩
  · rename_i hne
    exact ⟨h, fun u q => absurd q (hne u)⟩
theorem r_pat (h7 : P 7 = some F_law_mix) (h8 : P 8 = some F_law_leaf) (h9 : P 9 = some F_law_tree) (h : P 28 = some F_law_pattern) {c : Int} {l : Nat} (hn : l + 4 ≤ n) : run P n 28 [.int c, .int ((l : Int) + 1)] S = .ok (lawPat c (l + 1)) S := by
  obtain ⟨n, rfl⟩ : ∃ k, n = k + 1 := ⟨n - 1, by omega⟩
  have tr := r_tree h7 h8 h9 l (n := n) (S := S) c true (by omega)
  have ht := tree_tm l c true
  rw [run_e h _ _ [some _, some _, none] rfl rfl]
  refine fx_nx [some (.int c), some (.int ((l : Int) + 1)), some (lawTree (l + 1) c true)] S (by simp [getV, tr]) ?_
  unfold lawPat
  generalize lawTree (l + 1) c true = d at ht
  rcases tm_cases ht with ⟨s, rfl, hs⟩ | ⟨f, ps, rfl, g1, g2, g3, g4⟩
  · obtain ⟨a, r, es, hc⟩ := hl_head hs
    have i0 : pr .idx [.str s, .int 0] S = .ok (.str [a]) S := by rw [es]; simp
    cases e : hl s with
    | true => rw [e] at hc; exact fx_rt _ S (by simp [getV, i0, hc, -p_idxS]; rfl) (by rw [retD_self]; simp [e])
    | false => rw [e] at hc; exact fx_rt _ S (by simp [getV, i0, hc, -p_idxS]; rfl) (by rw [retD_self]; simp [e])
  · exact fx_rt _ S (by simp [getV]; rfl) (by rw [retD_self])
/-! ### the law's holes -/
def lhK (f : D → List (List Nat)) : List D → List (List Nat) → List (List Nat)
  | [], acc => acc
  | p :: ps, acc => lhK f ps (acc ++ (f p).filter fun s => decide (s ∉ acc))
def lhl : Nat → D → List (List Nat)
  | 0, _ => []
  | _ + 1, .str s => if hl s = true then [s] else []
  | l + 1, d => lhK (lhl l) (kids d) []
theorem lhK_mem {f : D → List (List Nat)} {Q : List Nat → Prop} : ∀ {ps : List D} {acc : List (List Nat)}, (∀ p ∈ ps, ∀ s ∈ f p, Q s) → (∀ s ∈ acc, Q s) → ∀ s ∈ lhK f ps acc, Q s
  | [], acc, _, h, s, hs => h s hs
  | p :: ps, acc, hf, h, s, hs => by
    refine lhK_mem (ps := ps) (fun q hq => hf q (List.mem_cons_of_mem _ hq)) (fun u hu => ?_) s hs
    rcases List.mem_append.mp hu with hu | hu
    · exact h u hu
    · exact hf p List.mem_cons_self u (List.mem_filter.mp hu).1
theorem lhl_mem : ∀ {l : Nat} {d : D} {s : List Nat}, tm l d = true → s ∈ lhl l d → s ∈ lvs l d ∧ hl s = true
  | 0, d, s, h, _ => by simp [tm] at h
  | l + 1, d, s, h, hs => by
    rcases tm_cases h with ⟨u, rfl, hu⟩ | ⟨f, ps, rfl, h1, h2, h3, h4⟩
    · simp only [lhl] at hs
      split at hs
      · rename_i e
        simp only [List.mem_singleton] at hs; subst hs
        exact ⟨by simp [lvs], e⟩
      · simp at hs
    · refine lhK_mem (Q := fun s => s ∈ lvs (l + 1) (.tup (.str f :: ps)) ∧ hl s = true) (f := lhl l) (ps := ps) (acc := []) (fun p hp s hs => ?_) (fun s hs => by simp at hs) s hs
      obtain ⟨q1, q2⟩ := lhl_mem (h4 p hp) hs
      exact ⟨by rw [lvs_node, List.mem_flatMap]; exact ⟨p, hp, q1⟩, q2⟩
theorem lhK_len {f : D → List (List Nat)} {b : Nat} : ∀ {ps : List D} {acc : List (List Nat)}, (∀ p ∈ ps, (f p).length ≤ b) → (lhK f ps acc).length ≤ acc.length + ps.length * b
  | [], acc, _ => by simp [lhK]
  | p :: ps, acc, h => by
    have a := lhK_len (ps := ps) (acc := acc ++ (f p).filter fun s => decide (s ∉ acc)) fun q hq => h q (List.mem_cons_of_mem _ hq)
    have b1 := h p List.mem_cons_self
    have b2 := List.length_filter_le (fun s => decide (s ∉ acc)) (f p)
    have hz : (ps.length + 1) * b = ps.length * b + b := Nat.succ_mul _ _
    simp only [lhK, List.length_cons, List.length_append] at a ⊢
    omega
theorem lhl_len : ∀ {l : Nat} {d : D}, tm l d = true → (lhl l d).length ≤ nW l
  | 0, d, h => by simp [tm] at h
  | l + 1, d, h => by
    rcases tm_cases h with ⟨u, rfl, hu⟩ | ⟨f, ps, rfl, h1, h2, h3, h4⟩
    · simp only [lhl, nW]; split <;> simp
    · have a := lhK_len (f := lhl l) (b := nW l) (ps := ps) (acc := []) fun p hp => lhl_len (h4 p hp)
      have b : ps.length * nW l ≤ 3 * nW l := Nat.mul_le_mul_right _ h2
      simp only [lhl, kids, nW]
      simp at a
      omega
theorem lholes_loop {l : Nat} {o0 : Option D} {kc : Sto → Bool} (hkc : ∀ S, kc S = true) (hr : ∀ (S : Sto) (p : D), tm l p = true → run P n 29 [p] S = .ok (.lst ((lhl l p).map D.str)) S) :
    ∀ (ps : List D) (acc : List (List Nat)) (a : Option D), (∀ p ∈ ps, tm l p = true) → acc.length + ps.length * nW l ≤ 1000000 →
    ∃ a', forL (fun d s => bindT [2] false d s) (fun s S => exs (run P n) [.expr (.mth .ext (.var 1) [.comp [3] [3] false .seq [.call 29 [.var 2]] [.pr .notin [.var 3, .var 1]] (.var 3)])] s S) kc ps [o0, some (.loc S.length), a, none] (S ++ [.lst (acc.map D.str)]) = .nx [o0, some (.loc S.length), a', none] (S ++ [.lst ((lhK (lhl l) ps acc).map D.str)])
  | [], acc, a, h, hs => ⟨a, by simp [forL, lhK]⟩
  | p :: ps, acc, a, h, hs => by
    have hp := h p List.mem_cons_self
    have rw := hr (S ++ [.lst (acc.map D.str)]) p hp
    have lw := lhl_len hp
    have hps : (ps.length + 1) * nW l = ps.length * nW l + nW l := Nat.succ_mul _ _
    rw [List.length_cons] at hs
    have fl := List.length_filter_le (fun s => decide (s ∉ acc)) (lhl l p)
    obtain ⟨a', ih⟩ := lholes_loop (o0 := o0) hkc hr ps (acc ++ (lhl l p).filter fun s => decide (s ∉ acc)) (some p) (fun q hq => h q (List.mem_cons_of_mem _ hq)) (by simp only [List.length_append]; omega)
    have hc : ev (run P n) (.comp [3] [3] false .seq [.call 29 [.var 2]] [.pr .notin [.var 3, .var 1]] (.var 3)) [o0, some (.loc S.length), some p, none] (S ++ [.lst (acc.map D.str)]) = .ok (.lst (((lhl l p).filter fun s => decide (s ∉ acc)).map D.str)) (S ++ [.lst (acc.map D.str)]) := by
      refine (ev_fm (g := id) (t := fun d => match d with | .str s => !decide (s ∈ acc) | _ => false) (ds := [.lst ((lhl l p).map D.str)]) (by simp [getV, rw]) it_lst (by rw [List.length_map]; unfold szL; omega) rfl fun d hd => ?_).trans ?_
      · obtain ⟨s, _, rfl⟩ := List.mem_map.mp hd
        exact ⟨[o0, some (.loc S.length), some p, some (.str s)], rfl, by simp [getV, notin_at], fun _ => by simp [getV]⟩
      · congr 2
        rw [List.map_id, List.filter_map]
        congr 1
        refine List.filter_congr fun s _ => ?_
        simp
    refine ⟨a', forL_nx [o0, some (.loc S.length), some p, none] (S ++ [.lst ((acc ++ (lhl l p).filter fun s => decide (s ∉ acc)).map D.str)]) rfl ?_ (hkc _) (ih.trans (by simp only [lhK]))⟩
    have pex := ext_at (S := S) (xs := acc.map D.str) (ys := ((lhl l p).filter fun s => decide (s ∉ acc)).map D.str) (by simp only [List.length_map]; unfold szL; omega)
    rw [← List.map_append] at pex
    refine xs_nx ?_
    show ex (run P n) _ [o0, some (.loc S.length), some p, none] _ = _
    rw [ex_expr, ev_mth, ev_var]
    simp only [getV, List.getElem?_cons_succ, List.getElem?_cons_zero, bOk, okE, if_true]
    rw [evs_cons, hc]
    simp only [bOk, evs_nil, pex, outE_ok]
theorem r_lholes (h : P 29 = some F_law_holes) : ∀ {l n : Nat} {S : Sto} {d : D}, l ≤ 8 → tm l d = true → l ≤ n → run P n 29 [d] S = .ok (.lst ((lhl l d).map D.str)) S
  | 0, n, S, d, _, hd, _ => by simp [tm] at hd
  | l + 1, n, S, d, hl8, hd, hn => by
    obtain ⟨n, rfl⟩ : ∃ k, n = k + 1 := ⟨n - 1, by omega⟩
    rcases tm_cases hd with ⟨s, rfl, hs⟩ | ⟨f, ps, rfl, g1, g2, g3, g4⟩
    · obtain ⟨a, r, es, hc⟩ := hl_head hs
      have i0 : pr .idx [.str s, .int 0] S = .ok (.str [a]) S := by rw [es]; simp
      rw [run_at h _ _ _ rfl]
      cases e : hl s with
      | true => rw [e] at hc; simp [F_law_holes, getV, start, i0, hc, lhl, e, -p_idxS]
      | false => rw [e] at hc; simp [F_law_holes, getV, start, i0, hc, lhl, e, -p_idxS]
    · have n8 : nW l ≤ 3280 := Nat.le_trans (nW_mono (by omega : l ≤ 8)) (by decide)
      have h3 : ps.length * nW l ≤ 3 * nW l := Nat.mul_le_mul_right _ g2
      obtain ⟨a', lp⟩ := lholes_loop (n := n) (S := S) (l := l) (o0 := some (.tup (.str f :: ps))) (kc := fun _ => true) (fun _ => rfl) (fun S p hp => r_lholes h (by omega) hp (by omega)) ps [] none g4 (by simp; omega)
      rw [run_e h _ _ [some _, none, none, none] rfl rfl]
      refine fx_nx [some (.tup (.str f :: ps)), none, none, none] S (by simp [getV]) ?_
      refine fx_nx [some (.tup (.str f :: ps)), some (.loc S.length), none, none] (S ++ [.lst []]) (by simp) ?_
      refine fx_nx _ _ (ex_forE (ds := [.tup ps]) (by simp [getV, cut_tail]) rfl lp) ?_
      refine fx_rt (.loc S.length) (S ++ [.lst ((lhK (lhl l) ps []).map D.str)]) (by simp [getV]) ?_
      rw [ret_lst0 (strs_pure _)]
      rfl
end Eng

/-! B6 -/
set_option linter.all false
set_option maxRecDepth 100000
set_option maxHeartbeats 1000000
/-! Mends, books without nots. -/
namespace Eng
variable {P : Nat → Option Fn} {S : Sto} {n : Nat}

theorem lvs_le : ∀ {l m : Nat} {d : D} {s : List Nat}, l ≤ m → tm l d = true → (s ∈ lvs l d ↔ s ∈ lvs m d)
  | 0, m, d, s, _, h => by simp [tm] at h
  | l + 1, 0, d, s, hm, h => by omega
  | l + 1, m + 1, d, s, hm, h => by
    rcases tm_cases h with ⟨u, rfl, hu⟩ | ⟨f, ps, rfl, h1, h2, h3, h4⟩
    · simp [lvs]
    · rw [lvs_node, lvs_node, List.mem_flatMap, List.mem_flatMap]
      exact ⟨fun ⟨p, hp, q⟩ => ⟨p, hp, (lvs_le (by omega) (h4 p hp)).mp q⟩, fun ⟨p, hp, q⟩ => ⟨p, hp, (lvs_le (by omega) (h4 p hp)).mpr q⟩⟩
/-- the leaves of what is filled -/
theorem lvs_fl {T : Tab} {Q : List Nat → Prop} {m : Nat} (hv : ∀ k e, lookD k T = some e → tm m e = true ∧ ∀ s ∈ lvs m e, Q s) : ∀ {l : Nat} {d : D}, tm l d = true → (∀ s ∈ lvs l d, lookD s T = none → Q s) → ∀ {j : Nat} {s : List Nat}, tm j (fl l d T) = true → s ∈ lvs j (fl l d T) → Q s
  | 0, d, h, _, _, _, _, _ => by simp [tm] at h
  | l + 1, d, h, hq, j, s, hj, hs => by
    rcases tm_cases h with ⟨u, rfl, hu⟩ | ⟨f, ps, rfl, h1, h2, h3, h4⟩
    · simp only [fl] at hs hj
      cases e : lookD u T with
      | none =>
        rw [e] at hs hj
        simp only [Option.getD_none] at hs hj
        cases j with
        | zero => simp [tm] at hj
        | succ j =>
          simp only [lvs, List.mem_singleton] at hs
          subst hs
          exact hq _ (by simp [lvs]) e
      | some x =>
        rw [e] at hs hj
        simp only [Option.getD_some] at hs hj
        obtain ⟨q1, q2⟩ := hv u x e
        by_cases hle : j ≤ m
        · exact q2 s ((lvs_le hle hj).mp hs)
        · exact q2 s ((lvs_le (by omega) q1).mpr hs)
    · simp only [fl] at hs hj
      cases j with
      | zero => simp [tm] at hj
      | succ j =>
        rw [lvs_node, List.mem_flatMap] at hs
        obtain ⟨p, hp, hs⟩ := hs
        have tp := (tm_kids hj).2 p hp
        obtain ⟨q, hq', rfl⟩ := List.mem_map.mp hp
        exact lvs_fl hv (h4 q hq') (fun s hs => hq s (by rw [lvs_node, List.mem_flatMap]; exact ⟨q, hq', hs⟩)) tp hs
/-! ### mends -/
def T0 : Tab := [(sX, .str [97]), (sY, .str [98]), (sAB, .str [110, 105, 108])]
def T1 (a b : List Nat) : Tab := [(sX, .str a), (sY, .str b), (sAB, .str [98])]
def mendT (p : D) : Tab := match lhl 3 p with
  | [] => T0
  | a :: r => T1 a ((a :: r).getLastD a)
def mendL (c : Int) : Nat := if lawMix c 9923 6 % 2 = 0 then 2 else 3
def lawMend (c : Int) (p : D) : D := if lawMix c 9923 6 = 0 then .non else if lawMix c 9923 6 = 1 ∧ isTupl p = true then (kids p).getD 0 .non else fl (mendL c) (lawTree (mendL c) (c + 5) true) (mendT p)
theorem mendT_val {p : D} (hp : tm 3 p = true) {k : List Nat} {e : D} (h : lookD k (mendT p) = some e) : tm 1 e = true ∧ ∀ s ∈ lvs 1 e, hl s = true → s ∈ lvs 3 p := by
  have key : ∀ s, okLf s = true → (hl s = true → s ∈ lvs 3 p) → tm 1 (.str s) = true ∧ ∀ u ∈ lvs 1 (.str s), hl u = true → u ∈ lvs 3 p := fun s h1 h2 => ⟨by simpa only [tm] using h1, fun u hu hh => by simp only [lvs, List.mem_singleton] at hu; subst hu; exact h2 hh⟩
  unfold mendT at h
  split at h
  · have := look_mem h
    simp only [T0, List.mem_cons, List.not_mem_nil, or_false, Prod.mk.injEq] at this
    rcases this with ⟨rfl, rfl⟩ | ⟨rfl, rfl⟩ | ⟨rfl, rfl⟩ <;> exact key _ (by decide) (fun h => by simp [hl] at h)
  · rename_i a r e0
    have mem : ∀ s ∈ a :: r, okLf s = true ∧ (hl s = true → s ∈ lvs 3 p) := fun s hs => by
      obtain ⟨q1, q2⟩ := lhl_mem hp (e0 ▸ hs)
      exact ⟨lvs_ok hp q1, fun _ => q1⟩
    have := look_mem h
    simp only [T1, List.mem_cons, List.not_mem_nil, or_false, Prod.mk.injEq] at this
    rcases this with ⟨rfl, rfl⟩ | ⟨rfl, rfl⟩ | ⟨rfl, rfl⟩
    · exact key _ (mem a List.mem_cons_self).1 (mem a List.mem_cons_self).2
    · have hl' : (a :: r).getLastD a ∈ a :: r := by
        rw [List.getLastD_eq_getLast?, List.getLast?_eq_getLast (by simp)]
        exact List.getLast_mem _
      exact key _ (mem _ hl').1 (mem _ hl').2
    · exact key _ (by decide) (fun h => by simp [hl] at h)
theorem mendL_ge (c : Int) : 2 ≤ mendL c ∧ mendL c ≤ 3 := by unfold mendL; split <;> omega
theorem mendT_look {p : D} {s : List Nat} (h : s = sX ∨ s = sY ∨ s = sAB) : lookD s (mendT p) ≠ none := by
  unfold mendT
  split <;> rcases h with rfl | rfl | rfl <;> simp [T0, T1, lookD, sX, sY, sAB]
theorem mend_ok (c : Int) {p : D} (hp : tm 3 p = true) : lawMend c p = .non ∨ (tm 3 (lawMend c p) = true ∧ ∀ s ∈ lvs 3 (lawMend c p), hl s = true → s ∈ lvs 3 p) := by
  unfold lawMend
  split
  · exact .inl rfl
  split
  · rename_i hq
    right
    rcases tm_cases hp with ⟨u, rfl, hu⟩ | ⟨f, ps, rfl, h1, h2, h3, h4⟩
    · simp [isTupl] at hq
    · cases ps with
      | nil => simp at h1
      | cons q qs =>
        have t2 := h4 q List.mem_cons_self
        refine ⟨tm_up t2, fun s hs hh => ?_⟩
        rw [lvs_node, List.mem_flatMap]
        exact ⟨q, List.mem_cons_self, (lvs_le (l := 2) (m := 3) (by omega) t2).mpr hs⟩
  · right
    obtain ⟨m1, m2⟩ := mendL_ge c
    generalize mendL c = k at m1 m2
    obtain ⟨k, rfl⟩ : ∃ j, k = j + 1 := ⟨k - 1, by omega⟩
    have t1 := tree_tm k (c + 5) true
    have t2 := tm_fl (j := 1) (T := mendT p) t1 (fun kv hk => by
      unfold mendT at hk
      have : ∀ {a b d : List Nat}, okLf a = true → okLf b = true → okLf d = true → kv ∈ [(sX, D.str a), (sY, D.str b), (sAB, D.str d)] → tm 1 kv.2 = true := fun {a b d} ha hb hd hm => by
        simp only [List.mem_cons, List.not_mem_nil, or_false] at hm
        rcases hm with rfl | rfl | rfl <;> (simp only [tm]; assumption)
      split at hk
      · exact this (by decide) (by decide) (by decide) hk
      · rename_i a r e0
        have mem : ∀ s ∈ a :: r, okLf s = true := fun s hs => lvs_ok hp (lhl_mem hp (e0 ▸ hs)).1
        refine this (mem a List.mem_cons_self) (mem _ ?_) (by decide) hk
        rw [List.getLastD_eq_getLast?, List.getLast?_eq_getLast (by simp)]
        exact List.getLast_mem _) (by omega)
    have t3 : tm 3 (fl (k + 1) (lawTree (k + 1) (c + 5) true) (mendT p)) = true := tm_le (by omega) t2
    refine ⟨t3, fun s hs hh => ?_⟩
    have := lvs_fl (T := mendT p) (Q := fun s => hl s = true → s ∈ lvs 3 p) (m := 1) (fun k e h => mendT_val hp h) t1 (fun s hs hn hh => absurd hn (mendT_look (tree_holes k (c + 5) true s hs hh))) t3 hs
    exact this hh
theorem dlit3 {a b d : D} {k1 k2 k3 : List Nat} (h12 : k1 ≠ k2) (h13 : k1 ≠ k3) (h23 : k2 ≠ k3) : pr .dlit [.str k1, a, .str k2, b, .str k3, d] S = .ok (.loc S.length) (S ++ [.dct [(k1, a), (k2, b), (k3, d)]]) := by
  have e : mergeD [] [(k1, a), (k2, b), (k3, d)] = [(k1, a), (k2, b), (k3, d)] := by
    simp [mergeD, putD, lookD, h12, h13, h23]
  simp only [pr, pairsF, Option.map_some, e]
  exact gd_y (by simp)
theorem atI_last {a : Type} (x : a) (r : List a) : atI (x :: r) (-1) = some ((x :: r).getLastD x) := by
  unfold atI ixN
  rw [if_neg (by decide), if_pos (by simp only [List.length_cons]; omega)]
  simp only [Option.bind_some]
  rw [List.getLastD_eq_getLast?, List.getLast?_eq_getElem?]
  have : ((-1 : Int) + ((x :: r).length : Int)).toNat = (x :: r).length - 1 := by simp only [List.length_cons]; omega
  rw [this]
  have h : (x :: r).length - 1 < (x :: r).length := by simp
  rw [List.getElem?_eq_getElem h]; rfl
theorem r_mend (h7 : P 7 = some F_law_mix) (h8 : P 8 = some F_law_leaf) (h9 : P 9 = some F_law_tree) (h29 : P 29 = some F_law_holes) (h30 : P 30 = some F_law_fill) (h : P 35 = some F_law_mend) {c : Int} {p : D} (hp : tm 3 p = true) (hn : 8 ≤ n) : run P n 35 [.int c, p] S = .ok (lawMend c p) S := by
  obtain ⟨n, rfl⟩ : ∃ k, n = k + 1 := ⟨n - 1, by omega⟩
  have ho := r_lholes (S := S) h29 (n := n) (l := 3) (by omega) hp (by omega)
  have mx : run P n 7 [.int c, .int 9923, .int 6] S = .ok (.int (lawMix c 9923 6)) S := r_mix h7 (by omega) c 9923 6 (by decide) (by decide) (by decide)
  have mlo := mix_lo c 9923 (m := 6) (by decide)
  have mhi := mix_hi c 9923 (m := 6) (by decide)
  have hml : mendL c = if lawMix c 9923 6 % 2 = 0 then 2 else 3 := rfl
  have mk : lawMend c p = if lawMix c 9923 6 = 0 then .non else if lawMix c 9923 6 = 1 ∧ isTupl p = true then (kids p).getD 0 .non else fl (mendL c) (lawTree (mendL c) (c + 5) true) (mendT p) := rfl
  rw [mk]
  rw [run_e h _ _ [some (.int c), some p, none, none, none] rfl rfl]
  refine fx_nx [some (.int c), some p, some (.lst ((lhl 3 p).map D.str)), none, none] S (by simp [getV, ho]) ?_
  refine fx_nx [some (.int c), some p, some (.lst ((lhl 3 p).map D.str)), some (.int (lawMix c 9923 6)), none] S (by simp [getV, mx]) ?_
  generalize lawMix c 9923 6 = m at *
  by_cases h0 : m = 0
  · rw [if_pos h0]
    exact fx_rt .non S (by simp [getV, h0]) retD_self
  · rw [if_neg h0]
    have b0 : (m == 0) = false := beq_eq_false_iff_ne.mpr h0
    refine fx_nx [some (.int c), some p, some (.lst ((lhl 3 p).map D.str)), some (.int m), none] S (by simp [getV, b0]) ?_
    have it : pr (.isi [.tup]) [p] S = .ok (.bl (isTupl p)) S := p_isTup (tm_fine hp)
    by_cases h1 : m = 1 ∧ isTupl p = true
    · rw [if_pos h1]
      rcases tm_cases hp with ⟨u, rfl, hu⟩ | ⟨f, ps, rfl, g1, g2, g3, g4⟩
      · simp [isTupl] at h1
      · cases ps with
        | nil => simp at g1
        | cons q qs => exact fx_rt q S (by simp [getV, h1.1]) (by rw [retD_self]; rfl)
    · rw [if_neg h1]
      refine fx_nx [some (.int c), some p, some (.lst ((lhl 3 p).map D.str)), some (.int m), none] S ?_ ?_
      · by_cases h2 : m = 1
        · have : isTupl p = false := by simpa [h2] using h1
          simp [getV, h2, it, this, -g_isi]
        · have b1 : (m == 1) = false := beq_eq_false_iff_ne.mpr h2
          simp [getV, b1]
      · have tr : run P n 9 [.int (c + 5), .int (2 + m % 2), .bl true] S = .ok (lawTree (mendL c) (c + 5) true) S := by
          rw [hml]
          have : m % 2 = 0 ∨ m % 2 = 1 := by omega
          rcases this with q | q
          · rw [q]; exact r_tree h7 h8 h9 1 (n := n) (S := S) (c + 5) true (by omega)
          · rw [q]; exact r_tree h7 h8 h9 2 (n := n) (S := S) (c + 5) true (by omega)
        have tt : tm (mendL c) (lawTree (mendL c) (c + 5) true) = true := by
          obtain ⟨a, b⟩ := mendL_ge c
          obtain ⟨j, e⟩ : ∃ j, mendL c = j + 1 := ⟨mendL c - 1, by omega⟩
          rw [e]; exact tree_tm j _ _
        have m3 := (mendL_ge c).2
        generalize mendL c = k at tr tt m3
        generalize lawTree k (c + 5) true = g at tr tt
        refine fx_nx [some (.int c), some p, some (.lst ((lhl 3 p).map D.str)), some (.int m), some g] S (by simp [getV, tr]) ?_
        have fill : ∀ T : Tab, run P n 30 [g, .loc S.length] (S ++ [.dct T]) = .ok (fl k g T) (S ++ [.dct T]) := fun T => r_lfill h30 tt sto_at (by omega)
        have pu : (fl k g (mendT p)).pure = true := by
          refine tm_pure (tm_fl (j := 1) tt (fun kv hk => ?_) (by omega))
          unfold mendT at hk
          have : ∀ {a b d : List Nat}, okLf a = true → okLf b = true → okLf d = true → kv ∈ [(sX, D.str a), (sY, D.str b), (sAB, D.str d)] → tm 1 kv.2 = true := fun {a b d} ha hb hd hm => by
            simp only [List.mem_cons, List.not_mem_nil, or_false] at hm
            rcases hm with rfl | rfl | rfl <;> (simp only [tm]; assumption)
          split at hk
          · exact this (by decide) (by decide) (by decide) hk
          · rename_i a r e0
            have mem : ∀ s ∈ a :: r, okLf s = true := fun s hs => lvs_ok hp (lhl_mem hp (e0 ▸ hs)).1
            refine this (mem a List.mem_cons_self) (mem _ ?_) (by decide) hk
            rw [List.getLastD_eq_getLast?, List.getLast?_eq_getLast (by simp)]
            exact List.getLast_mem _
        have en := p_eqNil (S := S) (xs := (lhl 3 p).map D.str) (by rw [strs_dps]; omega)
        cases e : lhl 3 p with
        | nil =>
          rw [e] at en
          simp only [List.map_nil, List.isEmpty_nil] at en
          have e2 : mendT p = T0 := by unfold mendT; rw [e]
          rw [e2] at pu ⊢
          have f0 := fill T0
          have d0 : pr .dlit [.str [63, 120], .str [97], .str [63, 121], .str [98], .str [63, 97, 98], .str [110, 105, 108]] S = .ok (.loc S.length) (S ++ [.dct T0]) := dlit3 (by decide) (by decide) (by decide)
          refine fx_rt (fl k g T0) (S ++ [.dct T0]) ?_ (ret_pure pu _)
          refine (ex_itT (S1 := S) (by simp [getV, en])).trans (xs_rt ?_)
          simp [getV, d0, f0]
        | cons a r =>
          rw [e] at en
          have e2 : mendT p = T1 a ((a :: r).getLastD a) := by unfold mendT; rw [e]
          rw [e2] at pu ⊢
          have f1 := fill (T1 a ((a :: r).getLastD a))
          have d1 : pr .dlit [.str [63, 120], .str a, .str [63, 121], .str ((a :: r).getLastD a), .str [63, 97, 98], .str [98]] S = .ok (.loc S.length) (S ++ [.dct (T1 a ((a :: r).getLastD a))]) := dlit3 (by decide) (by decide) (by decide)
          have la : atI (D.str a :: r.map D.str) (-1) = some (.str ((a :: r).getLastD a)) := by
            rw [atI_last]
            congr 1
            rw [List.getLastD_eq_getLast?, List.getLastD_eq_getLast?, show D.str a :: r.map D.str = (a :: r).map D.str from rfl, List.getLast?_map]
            rw [List.getLast?_eq_getLast (by simp : (a :: r) ≠ [])]; rfl
          clear e2
          generalize (a :: r).getLastD a = z at pu f1 d1 la ⊢
          refine fx_nx [some (.int c), some p, some (.lst ((a :: r).map D.str)), some (.int m), some g] S ?_ ?_
          · refine (ex_itF (S1 := S) ?_).trans exs_nil
            simp only [ev_pr, evs_cons, ev_var, getV, List.getElem?_cons_succ, List.getElem?_cons_zero, bOk, ev_lst, evs_nil, en, tst_ok, tr_bl, oS]
            rfl
          · refine fx_rt (fl k g (T1 a z)) (S ++ [.dct (T1 a z)]) ?_ (ret_pure pu _)
            simp [getV, la, d1, f1]
/-! ### rules, books without nots -/
/-- what a rule excludes: the part, a part around it, what a hole holds -/
inductive Nt where
  | is (p : D)
  | inn (p : D)
  | wit (h : List Nat) (p : D)
def Nt.d : Nt → D
  | .is p => .tup [.str [105, 115], p]
  | .inn p => .tup [.str [105, 110], p]
  | .wit h p => .tup [.str [119, 105, 116, 104], .str h, p]
def Nt.pat : Nt → D
  | .is p => p
  | .inn p => p
  | .wit _ p => p
structure Rul where
  code : List Nat
  pat : D
  mend : D
  nots : List Nt
def Rul.d (r : Rul) : D := .tup [.str r.code, r.pat, r.mend, .tup (r.nots.map Nt.d)]
def bookD (b : List Rul) : D := .tup (b.map Rul.d)
/-- a rule as they are drawn -/
structure Rul.Ok (r : Rul) : Prop where
  pat : tm 3 r.pat = true
  pn : noHole r.pat
  mend : r.mend = .non ∨ (tm 3 r.mend = true ∧ ∀ s ∈ lvs 3 r.mend, hl s = true → s ∈ lvs 3 r.pat)
def codeAt (k : Nat) : List Nat := if k = 0 then [65] else if k = 1 then [66] else if k = 2 then [85, 80] else [76, 79, 78, 71]
def rulF (c : Int) (k : Nat) : Rul := ⟨codeAt k, lawPat (c + 53 * (k : Int)) 3, lawMend (c + 53 * (k : Int) + 1) (lawPat (c + 53 * (k : Int)) 3), []⟩
def manyR (c : Int) : Nat := (1 + lawMix c 9887 4).toNat
def bookF (c : Int) : List Rul := (List.range (manyR c)).map (rulF c)
theorem rulF_ok (c : Int) (k : Nat) : (rulF c k).Ok := by
  obtain ⟨h1, h2⟩ := pat_ok (c + 53 * (k : Int)) 1
  exact ⟨h1, h2, mend_ok _ h1⟩
theorem manyR_le (c : Int) : 1 ≤ manyR c ∧ manyR c ≤ 4 := by
  have a := mix_lo c 9887 (m := 4) (by decide)
  have b := mix_hi c 9887 (m := 4) (by decide)
  unfold manyR
  omega
theorem bookF_ok (c : Int) : ∀ r ∈ bookF c, r.Ok := fun r hr => by
  obtain ⟨k, _, rfl⟩ := List.mem_map.mp hr
  exact rulF_ok c k
theorem bookF_codes (c : Int) : ((bookF c).map Rul.code).Nodup := by
  have : (bookF c).map Rul.code = (List.range (manyR c)).map codeAt := by simp [bookF, rulF, Function.comp_def]
  rw [this]
  obtain ⟨h1, h2⟩ := manyR_le c
  have : manyR c = 1 ∨ manyR c = 2 ∨ manyR c = 3 ∨ manyR c = 4 := by omega
  rcases this with e | e | e | e <;> rw [e] <;> decide
theorem book_loop (h7 : P 7 = some F_law_mix) (h8 : P 8 = some F_law_leaf) (h9 : P 9 = some F_law_tree) (h28 : P 28 = some F_law_pattern) (h29 : P 29 = some F_law_holes) (h30 : P 30 = some F_law_fill) (h35 : P 35 = some F_law_mend) (hn : 8 ≤ n) {c : Int} {kc : Sto → Bool} (hkc : ∀ S, kc S = true) :
    ∀ (m k : Nat) (acc : List Rul) (o3 o4 o5 o6 o7 : Option D), k + m ≤ 4 → acc.length + m ≤ 4 →
    ∃ a b d e f, forL (fun d s => bindT [3] false d s) (fun s S => exs (run P n) [.set 4 (.pr .add [.var 0, .pr .mul [.con (.int 53), .var 3]]),
    .set 5 (.call 28 [.var 4, .con (.int 3)]),
    .set 6 (.ite (.or (.var 1) (.pr .eq [.call 7 [.var 4, .con (.int 9883), .con (.int 2)], .con (.int 0)])) (.tup []) (.call 36 [.var 4, .var 5])),
    .set 7 (.pr .idx [.tup [.con (.str [65]), .con (.str [66]), .con (.str [85, 80]), .con (.str [76, 79, 78, 71])], .var 3]),
    .set 2 (.pr .add [.var 2, .tup [.tup [.var 7, .var 5, .call 35 [.pr .add [.var 4, .con (.int 1)], .var 5], .var 6]]])] s S) kc ((List.range' k m).map fun (i : Nat) => .int i) [some (.int c), some (.bl true), some (bookD acc), o3, o4, o5, o6, o7] S
      = .nx [some (.int c), some (.bl true), some (bookD (acc ++ (List.range' k m).map (rulF c))), a, b, d, e, f] S
  | 0, k, acc, o3, o4, o5, o6, o7, _, _ => ⟨o3, o4, o5, o6, o7, by simp [forL]⟩
  | m + 1, k, acc, o3, o4, o5, o6, o7, hk, ha => by
    have pt := pat_ok (c + 53 * (k : Int)) 1
    have rp : run P n 28 [.int (c + 53 * (k : Int)), .int 3] S = .ok (lawPat (c + 53 * (k : Int)) 3) S := r_pat h7 h8 h9 h28 (l := 2) (by omega)
    have rm : run P n 35 [.int (c + 53 * (k : Int) + 1), lawPat (c + 53 * (k : Int)) 3] S = .ok (lawMend (c + 53 * (k : Int) + 1) (lawPat (c + 53 * (k : Int)) 3)) S := r_mend h7 h8 h9 h29 h30 h35 pt.1 (by omega)
    have mu : pr .mul [.int 53, .int k] S = .ok (.int (53 * (k : Int))) S := p_mulI (.inl (by omega))
    have ac : atI [D.str [65], .str [66], .str [85, 80], .str [76, 79, 78, 71]] (k : Int) = some (.str (codeAt k)) := by
      have : k = 0 ∨ k = 1 ∨ k = 2 ∨ k = 3 := by omega
      rcases this with rfl | rfl | rfl | rfl <;> rfl
    rw [show List.range' k (m + 1) = k :: List.range' (k + 1) m from rfl, List.map_cons]
    obtain ⟨a, b, d, e, f, ih⟩ := book_loop h7 h8 h9 h28 h29 h30 h35 hn (c := c) hkc m (k + 1) (acc ++ [rulF c k]) (some (.int k)) (some (.int (c + 53 * (k : Int)))) (some (lawPat (c + 53 * (k : Int)) 3)) (some (.tup [])) (some (.str (codeAt k))) (by omega) (by simp; omega)
    refine ⟨a, b, d, e, f, forL_nx [some (.int c), some (.bl true), some (bookD (acc ++ [rulF c k])), some (.int k), some (.int (c + 53 * (k : Int))), some (lawPat (c + 53 * (k : Int)) 3), some (.tup []), some (.str (codeAt k))] S rfl ?_ (hkc _) (ih.trans (by simp))⟩
    show exs (run P n) _ [some (.int c), some (.bl true), some (bookD acc), some (.int k), o4, o5, o6, o7] S = _
    refine (xs_nx (s2 := [some (.int c), some (.bl true), some (bookD acc), some (.int k), some (.int (c + 53 * (k : Int))), o5, o6, o7]) (S2 := S) (by simp [getV, mu, -g_mulI])).trans ?_
    refine (xs_nx (s2 := [some (.int c), some (.bl true), some (bookD acc), some (.int k), some (.int (c + 53 * (k : Int))), some (lawPat (c + 53 * (k : Int)) 3), o6, o7]) (S2 := S) (by simp [getV, rp])).trans ?_
    refine (xs_nx (s2 := [some (.int c), some (.bl true), some (bookD acc), some (.int k), some (.int (c + 53 * (k : Int))), some (lawPat (c + 53 * (k : Int)) 3), some (.tup []), o7]) (S2 := S) (by simp [getV])).trans ?_
    refine (xs_nx (s2 := [some (.int c), some (.bl true), some (bookD acc), some (.int k), some (.int (c + 53 * (k : Int))), some (lawPat (c + 53 * (k : Int)) 3), some (.tup []), some (.str (codeAt k))]) (S2 := S) (by simp [getV, ac])).trans ?_
    have pa : pr .add [bookD acc, .tup [.tup [.str (codeAt k), lawPat (c + 53 * (k : Int)) 3, lawMend (c + 53 * (k : Int) + 1) (lawPat (c + 53 * (k : Int)) 3), .tup []]]] S = .ok (bookD (acc ++ [rulF c k])) S := by
      unfold bookD
      rw [p_addT (by simp [szL]; omega)]
      simp [rulF, Rul.d]
    refine (xs_nx (s2 := [some (.int c), some (.bl true), some (bookD (acc ++ [rulF c k])), some (.int k), some (.int (c + 53 * (k : Int))), some (lawPat (c + 53 * (k : Int)) 3), some (.tup []), some (.str (codeAt k))]) (S2 := S) ?_).trans exs_nil
    simp [getV, rm, pa, -g_addT]
theorem r_book (h7 : P 7 = some F_law_mix) (h8 : P 8 = some F_law_leaf) (h9 : P 9 = some F_law_tree) (h28 : P 28 = some F_law_pattern) (h29 : P 29 = some F_law_holes) (h30 : P 30 = some F_law_fill) (h35 : P 35 = some F_law_mend) (h : P 37 = some F_law_book) (hn : 9 ≤ n) {c : Int} : run P n 37 [.int c, .bl true] S = .ok (bookD (bookF c)) S := by
  obtain ⟨n, rfl⟩ : ∃ k, n = k + 1 := ⟨n - 1, by omega⟩
  have mx : run P n 7 [.int c, .int 9887, .int 4] S = .ok (.int (lawMix c 9887 4)) S := r_mix h7 (by omega) c 9887 4 (by decide) (by decide) (by decide)
  have mlo := mix_lo c 9887 (m := 4) (by decide)
  have mhi := mix_hi c 9887 (m := 4) (by decide)
  obtain ⟨m1, m2⟩ := manyR_le c
  obtain ⟨a, b, d, e, f, lp⟩ := book_loop (S := S) h7 h8 h9 h28 h29 h30 h35 (n := n) (by omega) (c := c) (kc := fun _ => true) (fun _ => rfl) (manyR c) 0 [] none none none none none (by omega) (by simpa using m2)
  have hi : items .rng [.int (1 + lawMix c 9887 4)] S = some ((List.range' 0 (manyR c)).map fun (i : Nat) => .int i, none) := by
    rw [it_rng, if_pos (by omega), ← List.range_eq_range']; rfl
  rw [run_e h _ _ [some _, some _, none, none, none, none, none, none] rfl rfl]
  refine fx_nx [some (.int c), some (.bl true), some (.tup []), none, none, none, none, none] S (by simp) ?_
  refine fx_nx _ S (ex_forE (ds := [.int (1 + lawMix c 9887 4)]) (by simp [getV, mx]) hi lp) ?_
  refine fx_rt (bookD (bookF c)) S ?_ retD_self
  simp [getV, bookF, List.range_eq_range']
end Eng

/-! B7 -/
set_option linter.all false
set_option maxRecDepth 100000
set_option maxHeartbeats 1000000
/-! How great terms become. -/
namespace Eng
variable {P : Nat → Option Fn} {S : Sto} {n : Nat}

def sz (l : Nat) (d : D) : Nat := (wys l d).length
def szs (l : Nat) : List D → Nat
  | [] => 0
  | p :: ps => sz l p + szs l ps
theorem wysK_szs {l : Nat} : ∀ {ps : List D} {k : Nat}, (wysK (wys l) k ps).length = szs l ps
  | [], k => rfl
  | p :: ps, k => by simp only [wysK, List.length_append, List.length_map, szs, sz, wysK_szs (ps := ps)]
theorem sz_succ {l : Nat} {d : D} : sz (l + 1) d = 1 + szs l (kids d) := by
  unfold sz; simp only [wys, List.length_cons, wysK_szs]; omega
theorem szs_mem {l : Nat} : ∀ {ps : List D} {p : D}, p ∈ ps → sz l p ≤ szs l ps
  | q :: ps, p, h => by
    simp only [szs]
    rcases List.mem_cons.mp h with rfl | h
    · omega
    · have := szs_mem (l := l) h; omega
theorem sz_pos {l : Nat} {d : D} (h : tm l d = true) : 1 ≤ sz l d := by
  cases l with
  | zero => simp [tm] at h
  | succ l => rw [sz_succ]; omega
theorem sz_le : ∀ {l m : Nat} {d : D}, l ≤ m → tm l d = true → sz m d = sz l d
  | 0, m, d, _, h => by simp [tm] at h
  | l + 1, 0, d, hm, h => by omega
  | l + 1, m + 1, d, hm, h => by
    rw [sz_succ, sz_succ]
    have : ∀ ps : List D, (∀ p ∈ ps, tm l p = true) → szs m ps = szs l ps := by
      intro ps
      induction ps with
      | nil => intro _; rfl
      | cons p ps ih => intro hp; simp only [szs, sz_le (by omega : l ≤ m) (hp p List.mem_cons_self), ih fun q hq => hp q (List.mem_cons_of_mem _ hq)]
    rw [this _ (tm_kids h).2]
theorem sz_eq {l m : Nat} {d : D} (h : tm l d = true) (h' : tm m d = true) : sz m d = sz l d := by
  by_cases hm : l ≤ m
  · exact sz_le hm h
  · exact (sz_le (by omega) h').symm
theorem sz_nW {l : Nat} {d : D} (h : tm l d = true) : sz l d ≤ nW l := wys_len h
theorem szs_set {l : Nat} : ∀ {ps : List D} {k : Nat} {p x : D}, ps[k]? = some p → szs l (ps.set k x) + sz l p = szs l ps + sz l x
  | q :: ps, 0, p, x, h => by simp at h; subst h; simp only [List.set_cons_zero, szs]; omega
  | q :: ps, k + 1, p, x, h => by
    have := szs_set (l := l) (ps := ps) (k := k) (x := x) (by simpa using h)
    simp only [List.set_cons_succ, szs]; omega
  | [], k, p, x, h => by simp at h
/-- what is put in the place of a part -/
theorem sz_put : ∀ {w : List Nat} {l m j i : Nat} {d e x : D}, tm l d = true → prt d w = some e → tm i e = true → tm j x = true → tm m (ptt d w x) = true → sz m (ptt d w x) + sz i e = sz l d + sz j x
  | [], l, m, j, i, d, e, x, hd, hp, he, hx, hm => by
    simp only [prt, Option.some.injEq] at hp; subst hp
    simp only [ptt] at hm ⊢
    rw [sz_eq hx hm, sz_eq hd he]; omega
  | k :: w, 0, m, j, i, d, e, x, hd, hp, he, hx, hm => by simp [tm] at hd
  | k :: w, l + 1, m, j, i, d, e, x, hd, hp, he, hx, hm => by
    obtain ⟨p, h1, h2⟩ := prt_cons hp
    rcases tm_cases hd with ⟨s, rfl, hs⟩ | ⟨f, ps, rfl, g1, g2, g3, g4⟩
    · simp [kids] at h1
    · simp only [kids] at h1
      have eq : ps.getD k .non = p := by rw [List.getD_eq_getElem?_getD, h1]; rfl
      cases m with
      | zero => simp [tm] at hm
      | succ m =>
        simp only [ptt, eq] at hm ⊢
        have hk := (List.getElem?_eq_some_iff.mp h1).1
        have tn : tm m (ptt p w x) = true := (tm_kids hm).2 _ (by simp only [kids]; exact List.mem_set hk _)
        have ih := sz_put (g4 p (List.mem_of_getElem? h1)) h2 he hx tn
        -- all parts at one level
        have up : ∀ (a b : Nat) (qs : List D), a ≤ b → (∀ q ∈ qs, tm a q = true) → szs b qs = szs a qs := by
          intro a b qs hab
          induction qs with
          | nil => intro _; rfl
          | cons q qs ihq => intro hq; simp only [szs, sz_le hab (hq q List.mem_cons_self), ihq fun r hr => hq r (List.mem_cons_of_mem _ hr)]
        rw [sz_succ, sz_succ]
        simp only [kids]
        have hM : l ≤ max l m := Nat.le_max_left ..
        have hM2 : m ≤ max l m := Nat.le_max_right ..
        have e1 := szs_set (l := max l m) (x := ptt p w x) h1
        have e2 : szs (max l m) ps = szs l ps := up l (max l m) ps hM g4
        have e3 : szs (max l m) (ps.set k (ptt p w x)) = szs m (ps.set k (ptt p w x)) := up m (max l m) _ hM2 (fun q hq => (tm_kids hm).2 q hq)
        have e4 : sz (max l m) p = sz l p := sz_le hM (g4 p (List.mem_of_getElem? h1))
        have e5 : sz (max l m) (ptt p w x) = sz m (ptt p w x) := sz_le hM2 tn
        omega
def gB : Nat → Nat → Nat
  | 0, _ => 0
  | 1, V => V
  | l + 2, V => 1 + 3 * gB (l + 1) V
theorem gB_ge {V : Nat} : ∀ l, V ≤ gB (l + 1) V
  | 0 => by simp [gB]
  | l + 1 => by
    have := gB_ge (V := V) l
    simp only [gB]; omega
/-- a pattern, filled -/
theorem sz_fl {T : Tab} {V m : Nat} (hV : 1 ≤ V) (hv : ∀ k e, lookD k T = some e → tm m e = true ∧ sz m e ≤ V) : ∀ {l j : Nat} {d : D}, tm l d = true → tm j (fl l d T) = true → sz j (fl l d T) ≤ gB l V
  | 0, j, d, h, _ => by simp [tm] at h
  | l + 1, j, d, h, hj => by
    have hz := gB_ge (V := V) l
    rcases tm_cases h with ⟨u, rfl, hu⟩ | ⟨f, ps, rfl, h1, h2, h3, h4⟩
    · simp only [fl] at hj ⊢
      cases e : lookD u T with
      | none =>
        rw [e] at hj
        have : tm 1 (D.str u) = true := by simpa only [tm] using hu
        simp only [Option.getD_none] at hj ⊢
        rw [sz_eq this hj, sz_succ]
        simp only [kids, szs]
        omega
      | some x =>
        rw [e] at hj
        simp only [Option.getD_some] at hj ⊢
        obtain ⟨q1, q2⟩ := hv u x e
        rw [sz_eq q1 hj]; omega
    · simp only [fl] at hj ⊢
      cases j with
      | zero => simp [tm] at hj
      | succ j =>
        rw [sz_succ]
        simp only [kids]
        have : ∀ qs : List D, (∀ q ∈ qs, tm l q = true) → (∀ q ∈ qs, tm j (fl l q T) = true) → szs j (qs.map fun q => fl l q T) ≤ qs.length * gB l V := by
          intro qs
          induction qs with
          | nil => intro _ _; simp [szs]
          | cons q qs ih =>
            intro a b
            have i1 := sz_fl hV hv (a q List.mem_cons_self) (b q List.mem_cons_self)
            have i2 := ih (fun r hr => a r (List.mem_cons_of_mem _ hr)) (fun r hr => b r (List.mem_cons_of_mem _ hr))
            simp only [List.map_cons, szs, List.length_cons]
            have : (qs.length + 1) * gB l V = qs.length * gB l V + gB l V := Nat.succ_mul _ _
            omega
        have a := this ps h4 fun q hq => (tm_kids hj).2 _ (by simp only [kids]; exact List.mem_map_of_mem hq)
        have b : ps.length * gB l V ≤ 3 * gB l V := Nat.mul_le_mul_right _ h2
        cases l with
        | zero =>
          cases ps with
          | nil => simp at h1
          | cons q _ => have := h4 q List.mem_cons_self; simp [tm] at this
        | succ l => simp only [gB]; omega
/-! ### what a match fills holes with -/
theorem mIs_all {f : D → D → Tab → Bool × Tab} {Q : D → Prop} : ∀ {ps qs : List D} {T : Tab}, (∀ p ∈ ps, ∀ q T, Q q → (∀ kv ∈ T, Q kv.2) → ∀ kv ∈ (f p q T).2, Q kv.2) → (∀ q ∈ qs, Q q) → (∀ kv ∈ T, Q kv.2) → ∀ kv ∈ (mIs f ps qs T).2, Q kv.2
  | [], qs, T, _, _, hT => hT
  | p :: ps, [], T, _, _, hT => hT
  | p :: ps, q :: qs, T, h, hq, hT => by
    simp only [mIs]
    exact mIs_all (ps := ps) (qs := qs) (fun p hp => h p (List.mem_cons_of_mem _ hp)) (fun q hq' => hq q (List.mem_cons_of_mem _ hq')) (h p List.mem_cons_self q T (hq q List.mem_cons_self) hT)
theorem mI_all {Q : D → Prop} (hc : ∀ d, Q d → ∀ k ∈ kids d, Q k) : ∀ {l : Nat} {p t : D} {T : Tab}, Q t → (∀ kv ∈ T, Q kv.2) → ∀ kv ∈ (mI l p t T).2, Q kv.2
  | 0, p, t, T, _, hT => by simpa [mI] using hT
  | l + 1, p, t, T, ht, hT => by
    cases p with
    | str s =>
      simp only [mI, mLf]
      split
      · split
        · exact hT
        · rename_i e
          rw [put_new e]
          intro kv hk
          rcases List.mem_append.mp hk with hk | hk
          · exact hT kv hk
          · simp at hk; subst hk; exact ht
      · exact hT
    | tup xs =>
      cases xs with
      | nil => simpa [mI] using hT
      | cons x ps =>
        cases t with
        | tup ys =>
          cases ys with
          | nil => simpa [mI] using hT
          | cons y qs =>
            simp only [mI]
            split
            · exact mIs_all (fun p _ q T hq hT => mI_all hc hq hT) (hc _ ht) hT
            · exact hT
        | _ => simpa [mI] using hT
    | _ => simpa [mI] using hT
/-- a pattern that is no hole fills its holes with parts -/
theorem mI_parts {Q : D → Prop} (hc : ∀ d, Q d → ∀ k ∈ kids d, Q k) {l : Nat} {p t : D} (hp : tm l p = true) (hn : noHole p) (ht : ∀ k ∈ kids t, Q k) : ∀ kv ∈ (mI l p t []).2, Q kv.2 := by
  cases l with
  | zero => simp [tm] at hp
  | succ l =>
    rcases tm_cases hp with ⟨s, rfl, hs⟩ | ⟨f, ps, rfl, g1, g2, g3, g4⟩
    · have := hn s rfl
      simp [mI, mLf, this]
    · cases t with
      | tup ys =>
        cases ys with
        | nil => simp [mI]
        | cons y qs =>
          simp only [mI]
          split
          · exact mIs_all (fun p _ q T hq hT => mI_all hc hq hT) ht (by simp)
          · simp
      | _ => simp [mI]
theorem look_kept {k : List Nat} {f : D → D → Tab → Bool × Tab} : ∀ {ps qs : List D} {T : Tab}, (∀ p ∈ ps, ∀ q T, (lookD k T).isSome = true → (lookD k (f p q T).2).isSome = true) → (lookD k T).isSome = true → (lookD k (mIs f ps qs T).2).isSome = true
  | [], qs, T, _, h => h
  | p :: ps, [], T, _, h => h
  | p :: ps, q :: qs, T, hf, h => look_kept (ps := ps) (qs := qs) (fun p hp => hf p (List.mem_cons_of_mem _ hp)) (hf p List.mem_cons_self q T h)
theorem mI_kept {k : List Nat} : ∀ {l : Nat} {p t : D} {T : Tab}, (lookD k T).isSome = true → (lookD k (mI l p t T).2).isSome = true
  | 0, p, t, T, h => by simpa [mI] using h
  | l + 1, p, t, T, h => by
    cases p with
    | str s =>
      simp only [mI, mLf]
      split
      · split
        · exact h
        · rw [look_put]
          split
          · rfl
          · exact h
      · exact h
    | tup xs =>
      cases xs with
      | nil => simpa [mI] using h
      | cons x ps =>
        cases t with
        | tup ys =>
          cases ys with
          | nil => simpa [mI] using h
          | cons y qs =>
            simp only [mI]
            split
            · exact look_kept (fun p _ q T h => mI_kept h) h
            · exact h
        | _ => simpa [mI] using h
    | _ => simpa [mI] using h
theorem mIs_holes {f : D → D → Tab → Bool × Tab} {L : D → List (List Nat)} (hk : ∀ k p q T, (lookD k T).isSome = true → (lookD k (f p q T).2).isSome = true) : ∀ {ps qs : List D} {T : Tab}, qs.length = ps.length → (∀ p ∈ ps, ∀ q T, (f p q T).1 = true → ∀ s ∈ L p, hl s = true → (lookD s (f p q T).2).isSome = true) → (mIs f ps qs T).1.all id = true → ∀ p ∈ ps, ∀ s ∈ L p, hl s = true → (lookD s (mIs f ps qs T).2).isSome = true
  | [], qs, T, _, _, _, p, hp => by simp at hp
  | p :: ps, [], T, hl, _, _, _, _ => by simp at hl
  | p :: ps, q :: qs, T, hl, h, ha, r, hr => by
    simp only [mIs, List.all_cons, Bool.and_eq_true, id] at ha ⊢
    intro s hs hh
    rcases List.mem_cons.mp hr with rfl | hr
    · exact look_kept (fun p _ q T h => hk s p q T h) (h r List.mem_cons_self q T ha.1 s hs hh)
    · exact mIs_holes hk (by simpa using hl) (fun p hp => h p (List.mem_cons_of_mem _ hp)) ha.2 r hr s hs hh
/-- what matches tells all holes -/
theorem mI_holes : ∀ {l : Nat} {p t : D} {T : Tab}, tm l p = true → (mI l p t T).1 = true → ∀ s ∈ lvs l p, hl s = true → (lookD s (mI l p t T).2).isSome = true
  | 0, p, t, T, hp, _, _, _, _ => by simp [tm] at hp
  | l + 1, p, t, T, hp, hm, s, hs, hh => by
    rcases tm_cases hp with ⟨u, rfl, hu⟩ | ⟨f, ps, rfl, g1, g2, g3, g4⟩
    · simp only [lvs, List.mem_singleton] at hs; subst hs
      simp only [mI, mLf, hh, if_true]
      cases e : lookD s T with
      | none => simp [look_put]
      | some x => simp [e]
    · cases t with
      | tup ys =>
        cases ys with
        | nil => simp [mI] at hm
        | cons y qs =>
          simp only [mI] at hm ⊢
          split at hm
          · rename_i hc
            rw [if_pos hc]
            rw [lvs_node, List.mem_flatMap] at hs
            obtain ⟨p, hp', hs⟩ := hs
            exact mIs_holes (L := fun p => if tm l p = true then lvs l p else []) (fun k p q T h => mI_kept h) hc.1 (fun p hp q T h s hs hh => by
              split at hs
              · rename_i tp; exact mI_holes tp h s hs hh
              · simp at hs) hm p hp' s (by rw [if_pos (g4 p hp')]; exact hs) hh
          · simp at hm
      | _ => simp [mI] at hm
end Eng

/-! BG -/
set_option linter.all false
set_option maxRecDepth 100000
set_option maxHeartbeats 1000000
/-! Rules at parts. -/
namespace Eng
variable {P : Nat → Option Fn} {S : Sto} {n : Nat}

def partOf (d : D) (w : List Nat) : D := (prt d w).getD .non
def hit (r : Rul) (e : D) : Bool := (mI 3 r.pat e []).1
def tab (r : Rul) (e : D) : Tab := (mI 3 r.pat e []).2
def mends (r : Rul) : Bool := !decide (r.mend = .non)
def new (d : D) (w : List Nat) (r : Rul) : D := ptt d w (fl 3 r.mend (tab r (partOf d w)))
theorem part_of {l : Nat} {d : D} {w : List Nat} (h : w ∈ wys l d) : prt d w = some (partOf d w) := by
  obtain ⟨e, he⟩ := wys_prt h
  unfold partOf; rw [he]; rfl
theorem flat_len {a b : Type} {f : a → List b} {k : Nat} : ∀ {l : List a}, (∀ x ∈ l, (f x).length ≤ k) → (l.flatMap f).length ≤ l.length * k
  | [], _ => by simp
  | x :: l, h => by
    have h1 := h x List.mem_cons_self
    have h2 := flat_len (l := l) fun y hy => h y (List.mem_cons_of_mem _ hy)
    simp only [List.flatMap_cons, List.length_append, List.length_cons]
    have : (l.length + 1) * k = l.length * k + k := Nat.succ_mul _ _
    omega
theorem tm1 {l : Nat} {d e : D} {w : List Nat} (hd : tm l d = true) (he : prt d w = some e) : tm l e = true := tm_le (by omega) (tm_prt hd he).2
theorem isnt_match {r : Rul} {e : D} : (!decide (mtch 3 r.pat e = .non)) = hit r e := by
  unfold mtch hit
  cases (mI 3 r.pat e []).1 <;> simp
structure LibF (P : Nat → Option Fn) : Prop where
  h1 : P 1 = some F_is_name
  h2 : P 2 = some F_is_hole
  h13 : P 13 = some F_parts_of
  h14 : P 14 = some F_ways
  h15 : P 15 = some F_part_at
  h20 : P 20 = some F_match_into
  h21 : P 21 = some F_match
structure Lib (P : Nat → Option Fn) : Prop extends LibF P where
  h16 : P 16 = some F_put_at
  h17 : P 17 = some F_leaves
  h18 : P 18 = some F_holes
  h22 : P 22 = some F_with_holes
  h23 : P 23 = some F_filled
def stD (p : List Nat × Rul) : D := .tup [wayD p.1, .str p.2.code]
theorem stD_pure (p : List Nat × Rul) : (stD p).pure = true := by simp [stD, wayD_pure]
theorem mid_at {acc : List D} {M : Sto} : (S ++ (.lst acc :: M))[S.length]? = some (.lst acc) := by simp
theorem mid_app {acc : List D} {M : Sto} {x : D} (h : acc.length < szL) : pr .app [.loc S.length, x] (S ++ (.lst acc :: M)) = .ok .non (S ++ (.lst (acc ++ [x]) :: M)) := by
  simp only [pr, mid_at]
  rw [show (S ++ (.lst acc :: M)).set S.length (.lst (acc ++ [x])) = S ++ (.lst (acc ++ [x]) :: M) from by rw [List.set_append_right _ _ (Nat.le_refl _)]; simp]
  exact gd_y h
theorem okA2 {acc : List D} {M : Sto} : okM .app (.loc S.length) (S ++ (.lst acc :: M)) = true := by simp [okM, rs]
structure LawM (P : Nat → Option Fn) : Prop where
  h31 : P 31 = some F_law_match
  h32 : P 32 = some F_law_ways
  h33 : P 33 = some F_law_part
structure LawL (P : Nat → Option Fn) : Prop extends LawM P where
  h30 : P 30 = some F_law_fill
  h34 : P 34 = some F_law_put
theorem mend_tm {r : Rul} (h : r.Ok) (hm : mends r = true) : tm 3 r.mend = true ∧ ∀ s ∈ lvs 3 r.mend, hl s = true → s ∈ lvs 3 r.pat := by
  rcases h.mend with e | e
  · simp [mends, e] at hm
  · exact e
theorem new_pure {l : Nat} {d : D} (hd : tm l d = true) {w : List Nat} {r : Rul} (hw : w ∈ wys l d) (hr : r.Ok) (hm : mends r = true) : ∃ j, tm j (new d w r) = true := by
  have hp := part_of hw
  have te := tm1 hd hp
  have t0 : TOk l [] := fun kv hk => by simp at hk
  have q := (mI_ok (l := 3) hr.pat te t0).1
  have l1 := (tm_prt hd hp).1
  have t := tm_fl (l := 3) (j := l) (d := r.mend) (T := tab r (partOf d w)) (mend_tm hr hm).1 (fun kv hk => (q kv hk).1) (by omega)
  exact ⟨(3 + l - 1) + w.length + l, tm_put hd hp t (by omega) (by omega)⟩
mutual
def D.neat : D → Bool
  | .tup xs => D.neats xs
  | .str _ => true
  | .int _ => true
  | _ => false
def D.neats : List D → Bool
  | [] => true
  | x :: xs => x.neat && D.neats xs
end
mutual
theorem eqv_iff : ∀ {a b : D}, a.neat = true → b.neat = true → (a.eqv b = true ↔ a = b)
  | .str x, b, _, hb => by
    cases b with
    | str y => simp [D.eqv]
    | int y => simp [D.eqv]
    | tup y => simp [D.eqv]
    | _ => simp [D.neat] at hb
  | .int x, b, _, hb => by
    cases b with
    | str y => simp [D.eqv]
    | int y => simp [D.eqv]
    | tup y => simp [D.eqv]
    | _ => simp [D.neat] at hb
  | .tup xs, b, ha, hb => by
    cases b with
    | str y => simp [D.eqv]
    | int y => simp [D.eqv]
    | tup ys =>
      simp only [D.neat] at ha hb
      simp only [D.eqv, D.tup.injEq]
      exact eqvs_iff ha hb
    | _ => simp [D.neat] at hb
  | .non, b, ha, _ => by simp [D.neat] at ha
  | .bl _, b, ha, _ => by simp [D.neat] at ha
  | .lst _, b, ha, _ => by simp [D.neat] at ha
  | .loc _, b, ha, _ => by simp [D.neat] at ha
  | .scr _, b, ha, _ => by simp [D.neat] at ha
theorem eqvs_iff : ∀ {a b : List D}, D.neats a = true → D.neats b = true → (D.eqvs a b = true ↔ a = b)
  | [], [], _, _ => by simp [D.eqvs]
  | [], _ :: _, _, _ => by simp [D.eqvs]
  | _ :: _, [], _, _ => by simp [D.eqvs]
  | x :: xs, y :: ys, ha, hb => by
    simp only [D.neats, Bool.and_eq_true] at ha hb
    simp only [D.eqvs, Bool.and_eq_true, List.cons.injEq, eqv_iff ha.1 hb.1, eqvs_iff ha.2 hb.2]
end
theorem neats_of : ∀ {xs : List D}, (∀ x ∈ xs, x.neat = true) → D.neats xs = true
  | [], _ => by simp [D.neats]
  | y :: ys, h => by
    simp only [D.neats, Bool.and_eq_true]
    exact ⟨h y List.mem_cons_self, neats_of fun x hx => h x (List.mem_cons_of_mem _ hx)⟩
theorem neat_way (w : List Nat) : (wayD w).neat = true := by
  unfold wayD
  simp only [D.neat]
  exact neats_of fun x hx => by obtain ⟨k, _, rfl⟩ := List.mem_map.mp hx; simp [D.neat]
theorem neat_stD (p : List Nat × Rul) : (stD p).neat = true := by simp [stD, D.neat, D.neats, neat_way]
theorem way_inj {v w : List Nat} (h : wayD v = wayD w) : v = w := by
  unfold wayD at h
  simp only [D.tup.injEq] at h
  have key : ∀ (v w : List Nat), v.map (fun (k : Nat) => D.int k) = w.map (fun (k : Nat) => D.int k) → v = w := by
    intro v
    induction v with
    | nil => intro w h; cases w <;> simp at h ⊢
    | cons a v ih =>
      intro w h
      cases w with
      | nil => simp at h
      | cons b w =>
        simp only [List.map_cons, List.cons.injEq, D.int.injEq] at h
        rw [ih w h.2, show a = b from by omega]
  exact key v w h
theorem dp_way (w : List Nat) : (wayD w).dp ≤ 1 := by
  unfold wayD
  simp only [dp_tup]
  have : D.dps (w.map fun (k : Nat) => D.int k) ≤ 0 := dps_le.mpr fun x hx => by obtain ⟨k, _, rfl⟩ := List.mem_map.mp hx; simp
  omega
theorem dp_stD (p : List Nat × Rul) : (stD p).dp ≤ 2 := by
  have := dp_way p.1
  simp [stD]; omega
theorem find_code {b : List Rul} (hn : (b.map Rul.code).Nodup) {r : Rul} (hr : r ∈ b) : b.filter (fun q => q.code == r.code) = [r] := by
  induction b with
  | nil => simp at hr
  | cons q b ih =>
    simp only [List.map_cons, List.nodup_cons] at hn
    rcases List.mem_cons.mp hr with rfl | hr
    · rw [List.filter_cons_of_pos (by simp)]
      have : b.filter (fun q => q.code == r.code) = [] := List.filter_eq_nil_iff.mpr fun q hq e => hn.1 (by rw [← beq_iff_eq.mp e]; exact List.mem_map_of_mem hq)
      rw [this]
    · rw [List.filter_cons_of_neg (fun e => hn.1 (by rw [beq_iff_eq.mp e]; exact List.mem_map_of_mem hr)), ih hn.2 hr]
theorem sz_prt : ∀ {w : List Nat} {l i : Nat} {d e : D}, tm l d = true → prt d w = some e → tm i e = true → sz i e ≤ sz l d
  | [], l, i, d, e, hd, hp, he => by
    simp only [prt, Option.some.injEq] at hp; subst hp
    rw [sz_eq hd he]; omega
  | k :: w, 0, i, d, e, hd, _, _ => by simp [tm] at hd
  | k :: w, l + 1, i, d, e, hd, hp, he => by
    obtain ⟨p, h1, h2⟩ := prt_cons hp
    have a := sz_prt ((tm_kids hd).2 p (List.mem_of_getElem? h1)) h2 he
    have b := szs_mem (l := l) (List.mem_of_getElem? h1)
    rw [sz_succ]; omega
theorem grow {l : Nat} {d : D} (hd : tm l d = true) {w : List Nat} {r : Rul} (hw : prt d w = some (partOf d w)) (hr : r.Ok) (hm : mends r = true) : ∃ l', tm l' (new d w r) = true ∧
    ((l' = l + 2 ∧ sz l' (new d w r) ≤ sz l d + 12) ∨ (l' = l + 1 ∧ sz l' (new d w r) ≤ 9 * sz l d ∧ sz l' (new d w r) ≤ sz l d + 4 + 9 * nW (l - 1))) := by
  obtain ⟨q1, q2⟩ := tm_prt hd hw
  have tM := (mend_tm hr hm).1
  generalize hi : l - w.length = i at q2
  generalize partOf d w = e at hw q2
  have hnew : new d w r = ptt d w (fl 3 r.mend (tab r e)) := by
    unfold new partOf; rw [hw]; rfl
  rw [hnew]
  obtain ⟨i, rfl⟩ : ∃ j, i = j + 1 := ⟨i - 1, by omega⟩
  have pw := sz_prt hd hw q2
  rcases tm_cases q2 with ⟨s, rfl, hs⟩ | ⟨f, ps, rfl, g1, g2, g3, g4⟩
  · have tT : ∀ kv ∈ tab r (.str s), False := mI_parts (Q := fun _ => False) (fun _ h => h.elim) hr.pat hr.pn (by simp [kids])
    have t3 := tm_fl (j := 1) (T := tab r (.str s)) tM (fun kv hk => (tT kv hk).elim) (by omega)
    have tn := tm_put (m := l + 2) hd hw t3 (by omega) (by omega)
    refine ⟨l + 2, tn, .inl ⟨rfl, ?_⟩⟩
    have a := sz_put hd hw q2 t3 tn
    have b := sz_fl (T := tab r (.str s)) (V := 1) (m := 1) (Nat.le_refl _) (fun k e he => (tT _ (look_mem he)).elim) tM t3
    have c : gB 3 1 = 13 := rfl
    have g : sz (i + 1) (.str s) = 1 := by rw [sz_succ]; simp [kids, szs]
    omega
  · cases ps with
    | nil => simp at g1
    | cons p0 ps0 =>
    cases i with
    | zero => have := g4 p0 List.mem_cons_self; simp [tm] at this
    | succ i =>
    have se : sz (i + 1 + 1) (.tup (.str f :: p0 :: ps0)) = 1 + szs (i + 1) (p0 :: ps0) := by rw [sz_succ]; rfl
    have tT : ∀ kv ∈ tab r (.tup (.str f :: p0 :: ps0)), tm (i + 1) kv.2 = true ∧ sz (i + 1) kv.2 ≤ szs (i + 1) (p0 :: ps0) := by
      refine mI_parts (Q := fun q => tm (i + 1) q = true ∧ sz (i + 1) q ≤ szs (i + 1) (p0 :: ps0)) (fun q hq k hk => ?_) hr.pat hr.pn fun q hq => ⟨g4 q hq, szs_mem hq⟩
      have tk := (tm_kids hq.1).2 k hk
      refine ⟨tm_up tk, ?_⟩
      have a : sz (i + 1) q = 1 + szs i (kids q) := sz_succ
      have b := szs_mem (l := i) hk
      have c := sz_le (by omega : i ≤ i + 1) tk
      omega
    have t3 := tm_fl (j := i + 1) (T := tab r (.tup (.str f :: p0 :: ps0))) tM (fun kv hk => (tT kv hk).1) (by omega)
    have tn := tm_put (m := l + 1) hd hw t3 (by omega) (by omega)
    refine ⟨l + 1, tn, .inr ⟨rfl, ?_⟩⟩
    have a := sz_put hd hw q2 t3 tn
    have pos : 1 ≤ szs (i + 1) (p0 :: ps0) := by
      have := sz_pos (g4 p0 List.mem_cons_self)
      have := szs_mem (l := i + 1) (List.mem_cons_self : p0 ∈ p0 :: ps0)
      omega
    have b := sz_fl (T := tab r (.tup (.str f :: p0 :: ps0))) (V := szs (i + 1) (p0 :: ps0)) (m := i + 1) pos (fun k e he => tT _ (look_mem he)) tM t3
    have b2 := sz_fl (T := tab r (.tup (.str f :: p0 :: ps0))) (V := nW (i + 1)) (m := i + 1) (by simp only [nW]; omega) (fun k e he => ⟨(tT _ (look_mem he)).1, sz_nW (tT _ (look_mem he)).1⟩) tM t3
    have c : ∀ V, gB 3 V = 4 + 9 * V := fun V => by simp only [gB]; omega
    rw [c] at b b2
    have d1 : nW (i + 1) ≤ nW (l - 1) := nW_mono (by omega)
    constructor <;> omega

end Eng

/-! B11 -/
set_option linter.all false
set_option maxRecDepth 100000
set_option maxHeartbeats 1000000
/-! What the laws draw: nots, books with them, programs. -/
namespace Eng
variable {P : Nat → Option Fn} {S : Sto} {n : Nat}

/-! ### nots -/
def ntAt (c : Int) (p : D) (k : Nat) : Nt := if lawMix (c + k) 9901 3 = 2 ∧ lhl 3 p ≠ [] then .wit ((lhl 3 p).getD (k % (lhl 3 p).length) []) (lawTree 3 (c + 11 * (k : Int) + 3) true)
  else if lawMix (c + k) 9901 3 % 2 = 0 then .is (lawTree 3 (c + 11 * (k : Int) + 3) true) else .inn (lawTree 3 (c + 11 * (k : Int) + 3) true)
def manyN (c : Int) : Nat := (lawMix c 9907 3).toNat
def lawNots (c : Int) (p : D) : List Nt := (List.range (manyN c)).map (ntAt c p)
/-- a not as they are drawn -/
def Nt.Ok (p : D) (x : Nt) : Prop := tm 3 x.pat = true ∧ ∀ h q, x = .wit h q → h ∈ lvs 3 p ∧ hl h = true
theorem getD_mem {xs : List (List Nat)} {k : Nat} (h : xs ≠ []) : xs.getD (k % xs.length) [] ∈ xs := by
  have hp : 0 < xs.length := List.length_pos_iff.mpr h
  have hk := Nat.mod_lt k hp
  rw [List.getD_eq_getElem?_getD, List.getElem?_eq_getElem hk]
  exact List.getElem_mem _
theorem ntAt_ok (c : Int) {p : D} (hp : tm 3 p = true) (k : Nat) : (ntAt c p k).Ok p := by
  unfold ntAt
  split
  · rename_i h
    exact ⟨tree_tm 2 _ _, fun g q e => by cases e; exact lhl_mem hp (getD_mem h.2)⟩
  split
  · exact ⟨tree_tm 2 _ _, fun g q e => by cases e⟩
  · exact ⟨tree_tm 2 _ _, fun g q e => by cases e⟩
theorem manyN_le (c : Int) : manyN c ≤ 2 := by
  have a := mix_lo c 9907 (m := 3) (by decide)
  have b := mix_hi c 9907 (m := 3) (by decide)
  unfold manyN; omega
theorem ne_nilS {xs : List (List Nat)} : pr .ne [.lst (xs.map D.str), .lst []] S = .ok (.bl (!xs.isEmpty)) S := by
  rw [p_ne (by simp [strs_dps, dpL]) (by simp [dpL])]
  cases xs <;> simp [D.eqv, D.eqvs]
theorem nots_loop (h7 : P 7 = some F_law_mix) (h8 : P 8 = some F_law_leaf) (h9 : P 9 = some F_law_tree) (h29 : P 29 = some F_law_holes) (hn : 7 ≤ n) {c : Int} {p : D} (hp : tm 3 p = true) {kc : Sto → Bool} (hkc : ∀ S, kc S = true) :
    ∀ (m k : Nat) (acc : List Nt) (o3 o4 o5 o6 : Option D), k + m ≤ 2 → acc.length + m ≤ 2 →
    ∃ a b d e, forL (fun d s => bindT [3] false d s) (fun s S => exs (run P n) [.set 4 (.call 9 [.pr .add [.pr .add [.var 0, .pr .mul [.con (.int 11), .var 3]], .con (.int 3)], .con (.int 3), .con (.bl true)]),
    .set 5 (.call 7 [.pr .add [.var 0, .var 3], .con (.int 9901), .con (.int 3)]),
    .ite (.and (.pr .eq [.var 5, .con (.int 2)]) (.pr .ne [.call 29 [.var 1], .lst []])) [.set 6 (.call 29 [.var 1]),
    .set 2 (.pr .add [.var 2, .tup [.tup [.con (.str [119, 105, 116, 104]), .pr .idx [.var 6, .pr .mod [.var 3, .pr .len [.var 6]]], .var 4]]])] [.set 2 (.pr .add [.var 2, .tup [.tup [.pr .idx [.tup [.con (.str [105, 115]), .con (.str [105, 110])], .pr .mod [.var 5, .con (.int 2)]], .var 4]]])]] s S) kc ((List.range' k m).map fun (i : Nat) => .int i) [some (.int c), some p, some (.tup (acc.map Nt.d)), o3, o4, o5, o6] S
      = .nx [some (.int c), some p, some (.tup ((acc ++ (List.range' k m).map (ntAt c p)).map Nt.d)), a, b, d, e] S
  | 0, k, acc, o3, o4, o5, o6, _, _ => ⟨o3, o4, o5, o6, by simp [forL]⟩
  | m + 1, k, acc, o3, o4, o5, o6, hk, ha => by
    have mu : pr .mul [.int 11, .int k] S = .ok (.int (11 * (k : Int))) S := p_mulI (.inl (by omega))
    have tr : run P n 9 [.int (c + 11 * (k : Int) + 3), .int 3, .bl true] S = .ok (lawTree 3 (c + 11 * (k : Int) + 3) true) S := r_tree h7 h8 h9 2 (n := n) (S := S) _ true (by omega)
    have mx : run P n 7 [.int (c + (k : Int)), .int 9901, .int 3] S = .ok (.int (lawMix (c + k) 9901 3)) S := r_mix h7 (by omega) _ 9901 3 (by decide) (by decide) (by decide)
    have mlo := mix_lo (c + k) 9901 (m := 3) (by decide)
    have mhi := mix_hi (c + k) 9901 (m := 3) (by decide)
    have ho := r_lholes (S := S) h29 (n := n) (l := 3) (by omega) hp (by omega)
    have nn := ne_nilS (S := S) (xs := lhl 3 p)
    have key : ∃ e6, exs (run P n) [.ite (.and (.pr .eq [.var 5, .con (.int 2)]) (.pr .ne [.call 29 [.var 1], .lst []])) [.set 6 (.call 29 [.var 1]),
    .set 2 (.pr .add [.var 2, .tup [.tup [.con (.str [119, 105, 116, 104]), .pr .idx [.var 6, .pr .mod [.var 3, .pr .len [.var 6]]], .var 4]]])] [.set 2 (.pr .add [.var 2, .tup [.tup [.pr .idx [.tup [.con (.str [105, 115]), .con (.str [105, 110])], .pr .mod [.var 5, .con (.int 2)]], .var 4]]])]] [some (.int c), some p, some (.tup (acc.map Nt.d)), some (.int k), some (lawTree 3 (c + 11 * (k : Int) + 3) true), some (.int (lawMix (c + k) 9901 3)), o6] S
        = .nx [some (.int c), some p, some (.tup ((acc ++ [ntAt c p k]).map Nt.d)), some (.int k), some (lawTree 3 (c + 11 * (k : Int) + 3) true), some (.int (lawMix (c + k) 9901 3)), e6] S := by
      have hnt : ntAt c p k = if lawMix (c + k) 9901 3 = 2 ∧ lhl 3 p ≠ [] then .wit ((lhl 3 p).getD (k % (lhl 3 p).length) []) (lawTree 3 (c + 11 * (k : Int) + 3) true)
        else if lawMix (c + k) 9901 3 % 2 = 0 then .is (lawTree 3 (c + 11 * (k : Int) + 3) true) else .inn (lawTree 3 (c + 11 * (k : Int) + 3) true) := rfl
      rw [hnt]
      generalize lawTree 3 (c + 11 * (k : Int) + 3) true = t
      generalize lawMix (c + k) 9901 3 = w at mlo mhi
      have addT : ∀ x : Nt, pr .add [.tup (acc.map Nt.d), .tup [x.d]] S = .ok (.tup ((acc ++ [x]).map Nt.d)) S := fun x => by
        rw [p_addT (by simp [szL]; omega)]; simp
      have other : lawMix (c + k) 9901 3 = lawMix (c + k) 9901 3 := rfl
      by_cases hw : w = 2
      · cases e : lhl 3 p with
        | nil =>
          rw [e] at ho nn
          simp only [List.map_nil, List.isEmpty_nil] at ho nn
          have a1 := addT (.is t)
          simp only [Nt.d] at a1
          refine ⟨o6, (xs_nx ((ex_itF (S1 := S) (by simp [getV, hw, ho, nn])).trans (xs_nx (s2 := [some (.int c), some p, some (.tup ((acc ++ [Nt.is t]).map Nt.d)), some (.int k), some t, some (.int w), o6]) (S2 := S) ?_))).trans ?_⟩
          · have g2 : pr .mod [.int w, .int 2] S = .ok (.int 0) S := by rw [p_mod (by decide), hw]; rfl
            simp [getV, g2, a1, -g_mod, -g_addT]
          · simp [hw]
        | cons x xs =>
          rw [e] at ho nn
          have hlen : (0 : Int) < ((x :: xs).length : Int) := by simp only [List.length_cons]; omega
          have g2 : pr .mod [.int k, .int ((x :: xs).length : Int)] S = .ok (.int ((k % (x :: xs).length : Nat) : Int)) S := by
            rw [p_mod hlen]; congr 2
          have ai : atI ((x :: xs).map D.str) ((k % (x :: xs).length : Nat) : Int) = some (.str ((x :: xs).getD (k % (x :: xs).length) [])) := by
            have hk := Nat.mod_lt k (show 0 < (x :: xs).length by simp)
            rw [atI_nat, List.getElem?_map, List.getD_eq_getElem?_getD, List.getElem?_eq_getElem hk]; rfl
          have a1 := addT (.wit ((x :: xs).getD (k % (x :: xs).length) []) t)
          simp only [Nt.d] at a1
          refine ⟨some (.lst ((x :: xs).map D.str)), (xs_nx ((ex_itT (S1 := S) ?_).trans ((xs_nx (s2 := [some (.int c), some p, some (.tup (acc.map Nt.d)), some (.int k), some t, some (.int w), some (.lst ((x :: xs).map D.str))]) (S2 := S) ?_).trans (xs_nx (s2 := [some (.int c), some p, some (.tup ((acc ++ [Nt.wit ((x :: xs).getD (k % (x :: xs).length) []) t]).map Nt.d)), some (.int k), some t, some (.int w), some (.lst ((x :: xs).map D.str))]) (S2 := S) ?_)))).trans ?_⟩
          · simp only [List.map_cons] at ho nn
            simp [getV, hw, ho, nn]
          · rw [ex_set, ev_call, evs_cons]
            simp only [ev_var, getV, List.getElem?_cons_succ, List.getElem?_cons_zero, bOk, evs_nil, ho, outE_ok]
            rfl
          · have e1 : ev (run P n) (.pr .idx [.var 6, .pr .mod [.var 3, .pr .len [.var 6]]]) [some (.int c), some p, some (.tup (acc.map Nt.d)), some (.int k), some t, some (.int w), some (.lst ((x :: xs).map D.str))] S = .ok (.str ((x :: xs).getD (k % (x :: xs).length) [])) S := by
              simp only [ev_pr, evs_cons, ev_var, getV, List.getElem?_cons_succ, List.getElem?_cons_zero, bOk, evs_nil, p_lenL, List.length_map, g2, p_idxL, ai, oS]
            have e2 : ev (run P n) (.tup [.tup [.con (.str [119, 105, 116, 104]), .pr .idx [.var 6, .pr .mod [.var 3, .pr .len [.var 6]]], .var 4]]) [some (.int c), some p, some (.tup (acc.map Nt.d)), some (.int k), some t, some (.int w), some (.lst ((x :: xs).map D.str))] S = .ok (.tup [.tup [.str [119, 105, 116, 104], .str ((x :: xs).getD (k % (x :: xs).length) []), t]]) S := by
              rw [ev_tup, evs_cons, ev_tup, evs_cons, ev_con]
              simp only [bOk]
              rw [evs_cons, e1]
              simp only [bOk, evs_cons, ev_var, getV, List.getElem?_cons_succ, List.getElem?_cons_zero, evs_nil]
            rw [ex_set, ev_pr, evs_cons, ev_var]
            simp only [getV, List.getElem?_cons_succ, List.getElem?_cons_zero, bOk]
            rw [evs_cons, e2]
            simp only [bOk, evs_nil, a1, outE_ok]
            rfl
          · simp [hw]
      · have b2 : (w == 2) = false := beq_eq_false_iff_ne.mpr hw
        have c1 : ¬ (w = 2 ∧ lhl 3 p ≠ []) := fun q => hw q.1
        have hw' : w = 0 ∨ w = 1 := by omega
        rcases hw' with rfl | rfl
        · have a1 := addT (.is t)
          simp only [Nt.d] at a1
          refine ⟨o6, (xs_nx ((ex_itF (S1 := S) (by simp [getV])).trans (xs_nx (s2 := [some (.int c), some p, some (.tup ((acc ++ [Nt.is t]).map Nt.d)), some (.int k), some t, some (.int 0), o6]) (S2 := S) ?_))).trans ?_⟩
          · have g2 : pr .mod [.int 0, .int 2] S = .ok (.int 0) S := p_mod (by decide)
            simp [getV, g2, a1, -g_mod, -g_addT]
          · simp
        · have a1 := addT (.inn t)
          simp only [Nt.d] at a1
          refine ⟨o6, (xs_nx ((ex_itF (S1 := S) (by simp [getV])).trans (xs_nx (s2 := [some (.int c), some p, some (.tup ((acc ++ [Nt.inn t]).map Nt.d)), some (.int k), some t, some (.int 1), o6]) (S2 := S) ?_))).trans ?_⟩
          · have g2 : pr .mod [.int 1, .int 2] S = .ok (.int 1) S := p_mod (by decide)
            simp [getV, g2, a1, -g_mod, -g_addT]
          · simp
    obtain ⟨e6, key⟩ := key
    rw [show List.range' k (m + 1) = k :: List.range' (k + 1) m from rfl, List.map_cons]
    obtain ⟨a, b, d, e, ih⟩ := nots_loop h7 h8 h9 h29 hn (c := c) hp hkc m (k + 1) (acc ++ [ntAt c p k]) (some (.int k)) (some (lawTree 3 (c + 11 * (k : Int) + 3) true)) (some (.int (lawMix (c + k) 9901 3))) e6 (by omega) (by simp; omega)
    refine ⟨a, b, d, e, forL_nx _ S rfl ?_ (hkc _) (ih.trans (by simp))⟩
    show exs (run P n) _ [some (.int c), some p, some (.tup (acc.map Nt.d)), some (.int k), o4, o5, o6] S = _
    refine (xs_nx (s2 := [some (.int c), some p, some (.tup (acc.map Nt.d)), some (.int k), some (lawTree 3 (c + 11 * (k : Int) + 3) true), o5, o6]) (S2 := S) (by simp [getV, mu, tr, -g_mulI])).trans ?_
    refine (xs_nx (s2 := [some (.int c), some p, some (.tup (acc.map Nt.d)), some (.int k), some (lawTree 3 (c + 11 * (k : Int) + 3) true), some (.int (lawMix (c + k) 9901 3)), o6]) (S2 := S) (by simp [getV, mx])).trans ?_
    exact key
theorem r_nots (h7 : P 7 = some F_law_mix) (h8 : P 8 = some F_law_leaf) (h9 : P 9 = some F_law_tree) (h29 : P 29 = some F_law_holes) (h : P 36 = some F_law_nots) (hn : 8 ≤ n) {c : Int} {p : D} (hp : tm 3 p = true) : run P n 36 [.int c, p] S = .ok (.tup ((lawNots c p).map Nt.d)) S := by
  obtain ⟨n, rfl⟩ : ∃ k, n = k + 1 := ⟨n - 1, by omega⟩
  have mx : run P n 7 [.int c, .int 9907, .int 3] S = .ok (.int (lawMix c 9907 3)) S := r_mix h7 (by omega) c 9907 3 (by decide) (by decide) (by decide)
  have mlo := mix_lo c 9907 (m := 3) (by decide)
  have mhi := mix_hi c 9907 (m := 3) (by decide)
  have ml := manyN_le c
  obtain ⟨a, b, d, e, lp⟩ := nots_loop (S := S) h7 h8 h9 h29 (n := n) (by omega) (c := c) hp (kc := fun _ => true) (fun _ => rfl) (manyN c) 0 [] none none none none (by omega) (by simpa using ml)
  have hi : items .rng [.int (lawMix c 9907 3)] S = some ((List.range' 0 (manyN c)).map fun (i : Nat) => .int i, none) := by
    rw [it_rng, if_pos (by omega), ← List.range_eq_range']; rfl
  rw [run_e h _ _ [some _, some _, none, none, none, none, none] rfl rfl]
  refine fx_nx [some (.int c), some p, some (.tup []), none, none, none, none] S (by simp) ?_
  refine fx_nx _ S (ex_forE (ds := [.int (lawMix c 9907 3)]) (by simp [getV, mx]) hi lp) ?_
  refine fx_rt _ S ?_ retD_self
  simp [getV, lawNots, List.range_eq_range']
/-! ### books -/
def nots1 (c : Int) (p : D) (free : Bool) : List Nt := if free = true ∨ lawMix c 9883 2 = 0 then [] else lawNots c p
def rulN (c : Int) (free : Bool) (k : Nat) : Rul := ⟨codeAt k, lawPat (c + 53 * (k : Int)) 3, lawMend (c + 53 * (k : Int) + 1) (lawPat (c + 53 * (k : Int)) 3), nots1 (c + 53 * (k : Int)) (lawPat (c + 53 * (k : Int)) 3) free⟩
def bookN (c : Int) (free : Bool) : List Rul := (List.range (manyR c)).map (rulN c free)
theorem nots1_ok (c : Int) {p : D} (hp : tm 3 p = true) (free : Bool) : (nots1 c p free).length ≤ 2 ∧ ∀ x ∈ nots1 c p free, x.Ok p := by
  unfold nots1
  split
  · simp
  · refine ⟨by simp [lawNots]; exact manyN_le c, fun x hx => ?_⟩
    obtain ⟨k, _, rfl⟩ := List.mem_map.mp hx
    exact ntAt_ok c hp k
theorem rulN_ok (c : Int) (free : Bool) (k : Nat) : (rulN c free k).Ok ∧ (rulN c free k).nots.length ≤ 2 ∧ ∀ x ∈ (rulN c free k).nots, x.Ok (rulN c free k).pat := by
  obtain ⟨h1, h2⟩ := pat_ok (c + 53 * (k : Int)) 1
  exact ⟨⟨h1, h2, mend_ok _ h1⟩, nots1_ok _ h1 free⟩
/-- a book as they are drawn -/
structure BkN (b : List Rul) : Prop where
  len : b.length ≤ 10
  ok : ∀ r ∈ b, r.Ok
  nots : ∀ r ∈ b, r.nots.length ≤ 2 ∧ ∀ x ∈ r.nots, x.Ok r.pat
  nd : (b.map Rul.code).Nodup
  codes : ∀ r ∈ b, r.code ≠ [78, 79, 78, 69]
theorem bookN_bk (c : Int) (free : Bool) : BkN (bookN c free) := by
  obtain ⟨h1, h2⟩ := manyR_le c
  refine ⟨by simp [bookN]; omega, fun r hr => ?_, fun r hr => ?_, ?_, fun r hr => ?_⟩
  · obtain ⟨k, _, rfl⟩ := List.mem_map.mp hr; exact (rulN_ok c free k).1
  · obtain ⟨k, _, rfl⟩ := List.mem_map.mp hr; exact (rulN_ok c free k).2
  · have : (bookN c free).map Rul.code = (List.range (manyR c)).map codeAt := by simp [bookN, rulN, Function.comp_def]
    rw [this]
    have : manyR c = 1 ∨ manyR c = 2 ∨ manyR c = 3 ∨ manyR c = 4 := by omega
    rcases this with e | e | e | e <;> rw [e] <;> decide
  · obtain ⟨k, _, rfl⟩ := List.mem_map.mp hr
    show codeAt k ≠ _
    unfold codeAt
    split
    · decide
    split
    · decide
    split <;> decide
theorem bookN_loop (h7 : P 7 = some F_law_mix) (h8 : P 8 = some F_law_leaf) (h9 : P 9 = some F_law_tree) (h28 : P 28 = some F_law_pattern) (h29 : P 29 = some F_law_holes) (h30 : P 30 = some F_law_fill) (h35 : P 35 = some F_law_mend) (h36 : P 36 = some F_law_nots) (hn : 8 ≤ n) {c : Int} {free : Bool} {kc : Sto → Bool} (hkc : ∀ S, kc S = true) :
    ∀ (m k : Nat) (acc : List Rul) (o3 o4 o5 o6 o7 : Option D), k + m ≤ 4 → acc.length + m ≤ 4 →
    ∃ a b d e f, forL (fun d s => bindT [3] false d s) (fun s S => exs (run P n) [.set 4 (.pr .add [.var 0, .pr .mul [.con (.int 53), .var 3]]),
    .set 5 (.call 28 [.var 4, .con (.int 3)]),
    .set 6 (.ite (.or (.var 1) (.pr .eq [.call 7 [.var 4, .con (.int 9883), .con (.int 2)], .con (.int 0)])) (.tup []) (.call 36 [.var 4, .var 5])),
    .set 7 (.pr .idx [.tup [.con (.str [65]), .con (.str [66]), .con (.str [85, 80]), .con (.str [76, 79, 78, 71])], .var 3]),
    .set 2 (.pr .add [.var 2, .tup [.tup [.var 7, .var 5, .call 35 [.pr .add [.var 4, .con (.int 1)], .var 5], .var 6]]])] s S) kc ((List.range' k m).map fun (i : Nat) => .int i) [some (.int c), some (.bl free), some (bookD acc), o3, o4, o5, o6, o7] S
      = .nx [some (.int c), some (.bl free), some (bookD (acc ++ (List.range' k m).map (rulN c free))), a, b, d, e, f] S
  | 0, k, acc, o3, o4, o5, o6, o7, _, _ => ⟨o3, o4, o5, o6, o7, by simp [forL]⟩
  | m + 1, k, acc, o3, o4, o5, o6, o7, hk, ha => by
    have pt := pat_ok (c + 53 * (k : Int)) 1
    have rp : run P n 28 [.int (c + 53 * (k : Int)), .int 3] S = .ok (lawPat (c + 53 * (k : Int)) 3) S := r_pat h7 h8 h9 h28 (l := 2) (by omega)
    have rm : run P n 35 [.int (c + 53 * (k : Int) + 1), lawPat (c + 53 * (k : Int)) 3] S = .ok (lawMend (c + 53 * (k : Int) + 1) (lawPat (c + 53 * (k : Int)) 3)) S := r_mend h7 h8 h9 h29 h30 h35 pt.1 (by omega)
    have rn : run P n 36 [.int (c + 53 * (k : Int)), lawPat (c + 53 * (k : Int)) 3] S = .ok (.tup ((lawNots (c + 53 * (k : Int)) (lawPat (c + 53 * (k : Int)) 3)).map Nt.d)) S := r_nots h7 h8 h9 h29 h36 (by omega) pt.1
    have mx : run P n 7 [.int (c + 53 * (k : Int)), .int 9883, .int 2] S = .ok (.int (lawMix (c + 53 * (k : Int)) 9883 2)) S := r_mix h7 (by omega) _ 9883 2 (by decide) (by decide) (by decide)
    have mu : pr .mul [.int 53, .int k] S = .ok (.int (53 * (k : Int))) S := p_mulI (.inl (by omega))
    have ac : atI [D.str [65], .str [66], .str [85, 80], .str [76, 79, 78, 71]] (k : Int) = some (.str (codeAt k)) := by
      have : k = 0 ∨ k = 1 ∨ k = 2 ∨ k = 3 := by omega
      rcases this with rfl | rfl | rfl | rfl <;> rfl
    rw [show List.range' k (m + 1) = k :: List.range' (k + 1) m from rfl, List.map_cons]
    obtain ⟨a, b, d, e, f, ih⟩ := bookN_loop h7 h8 h9 h28 h29 h30 h35 h36 hn (c := c) (free := free) hkc m (k + 1) (acc ++ [rulN c free k]) (some (.int k)) (some (.int (c + 53 * (k : Int)))) (some (lawPat (c + 53 * (k : Int)) 3)) (some (.tup ((rulN c free k).nots.map Nt.d))) (some (.str (codeAt k))) (by omega) (by simp; omega)
    refine ⟨a, b, d, e, f, forL_nx [some (.int c), some (.bl free), some (bookD (acc ++ [rulN c free k])), some (.int k), some (.int (c + 53 * (k : Int))), some (lawPat (c + 53 * (k : Int)) 3), some (.tup ((rulN c free k).nots.map Nt.d)), some (.str (codeAt k))] S rfl ?_ (hkc _) (ih.trans (by simp))⟩
    show exs (run P n) _ [some (.int c), some (.bl free), some (bookD acc), some (.int k), o4, o5, o6, o7] S = _
    refine (xs_nx (s2 := [some (.int c), some (.bl free), some (bookD acc), some (.int k), some (.int (c + 53 * (k : Int))), o5, o6, o7]) (S2 := S) (by simp [getV, mu, -g_mulI])).trans ?_
    refine (xs_nx (s2 := [some (.int c), some (.bl free), some (bookD acc), some (.int k), some (.int (c + 53 * (k : Int))), some (lawPat (c + 53 * (k : Int)) 3), o6, o7]) (S2 := S) (by simp [getV, rp])).trans ?_
    refine (xs_nx (s2 := [some (.int c), some (.bl free), some (bookD acc), some (.int k), some (.int (c + 53 * (k : Int))), some (lawPat (c + 53 * (k : Int)) 3), some (.tup ((rulN c free k).nots.map Nt.d)), o7]) (S2 := S) ?_).trans ?_
    · have hd : (rulN c free k).nots = nots1 (c + 53 * (k : Int)) (lawPat (c + 53 * (k : Int)) 3) free := rfl
      rw [hd]
      cases free with
      | true => simp [getV, nots1]
      | false =>
        by_cases hz : lawMix (c + 53 * (k : Int)) 9883 2 = 0
        · simp [getV, mx, hz, nots1]
        · have bz : (lawMix (c + 53 * (k : Int)) 9883 2 == 0) = false := beq_eq_false_iff_ne.mpr hz
          simp [getV, mx, bz, hz, rn, nots1]
    refine (xs_nx (s2 := [some (.int c), some (.bl free), some (bookD acc), some (.int k), some (.int (c + 53 * (k : Int))), some (lawPat (c + 53 * (k : Int)) 3), some (.tup ((rulN c free k).nots.map Nt.d)), some (.str (codeAt k))]) (S2 := S) (by simp [getV, ac])).trans ?_
    have pa : pr .add [bookD acc, .tup [.tup [.str (codeAt k), lawPat (c + 53 * (k : Int)) 3, lawMend (c + 53 * (k : Int) + 1) (lawPat (c + 53 * (k : Int)) 3), .tup ((rulN c free k).nots.map Nt.d)]]] S = .ok (bookD (acc ++ [rulN c free k])) S := by
      unfold bookD
      rw [p_addT (by simp [szL]; omega)]
      simp [rulN, Rul.d]
    refine (xs_nx (s2 := [some (.int c), some (.bl free), some (bookD (acc ++ [rulN c free k])), some (.int k), some (.int (c + 53 * (k : Int))), some (lawPat (c + 53 * (k : Int)) 3), some (.tup ((rulN c free k).nots.map Nt.d)), some (.str (codeAt k))]) (S2 := S) ?_).trans exs_nil
    generalize (rulN c free k).nots.map Nt.d = ns at pa
    simp [getV, rm, pa, -g_addT]
theorem r_bookN (h7 : P 7 = some F_law_mix) (h8 : P 8 = some F_law_leaf) (h9 : P 9 = some F_law_tree) (h28 : P 28 = some F_law_pattern) (h29 : P 29 = some F_law_holes) (h30 : P 30 = some F_law_fill) (h35 : P 35 = some F_law_mend) (h36 : P 36 = some F_law_nots) (h : P 37 = some F_law_book) (hn : 9 ≤ n) {c : Int} {free : Bool} : run P n 37 [.int c, .bl free] S = .ok (bookD (bookN c free)) S := by
  obtain ⟨n, rfl⟩ : ∃ k, n = k + 1 := ⟨n - 1, by omega⟩
  have mx : run P n 7 [.int c, .int 9887, .int 4] S = .ok (.int (lawMix c 9887 4)) S := r_mix h7 (by omega) c 9887 4 (by decide) (by decide) (by decide)
  have mlo := mix_lo c 9887 (m := 4) (by decide)
  have mhi := mix_hi c 9887 (m := 4) (by decide)
  obtain ⟨m1, m2⟩ := manyR_le c
  obtain ⟨a, b, d, e, f, lp⟩ := bookN_loop (S := S) h7 h8 h9 h28 h29 h30 h35 h36 (n := n) (by omega) (c := c) (free := free) (kc := fun _ => true) (fun _ => rfl) (manyR c) 0 [] none none none none none (by omega) (by simpa using m2)
  have hi : items .rng [.int (1 + lawMix c 9887 4)] S = some ((List.range' 0 (manyR c)).map fun (i : Nat) => .int i, none) := by
    rw [it_rng, if_pos (by omega), ← List.range_eq_range']; rfl
  rw [run_e h _ _ [some _, some _, none, none, none, none, none, none] rfl rfl]
  refine fx_nx [some (.int c), some (.bl free), some (.tup []), none, none, none, none, none] S (by simp) ?_
  refine fx_nx _ S (ex_forE (ds := [.int (1 + lawMix c 9887 4)]) (by simp [getV, mx]) hi lp) ?_
  refine fx_rt (bookD (bookN c free)) S ?_ retD_self
  simp [getV, bookN, List.range_eq_range']
/-! ### programs -/
structure Ln where
  t : D
  hush : List (List Nat)
  deriving DecidableEq
def Ln.d (x : Ln) : D := .tup [x.t, .tup (x.hush.map D.str)]
def prgD (p : List Ln) : D := .tup (p.map Ln.d)
def code4 (k : Nat) : List Nat := if k = 0 then [65] else if k = 1 then [66] else if k = 2 then [85, 80] else [90, 90]
def hushAt (c : Int) : List (List Nat) := (((List.range 4).filter fun j => decide (lawMix (c + (j : Nat)) 9859 5 = 0)).map code4).take 3
def lineAt (c : Int) (k : Nat) : Ln := ⟨lawTree 4 (c + 37 * (k : Int)) false, hushAt (c + 37 * (k : Int))⟩
def manyL (c : Int) : Nat := (lawMix c 9871 5).toNat
def lawProg (c : Int) : List Ln := (List.range (manyL c)).map (lineAt c)
theorem manyL_le (c : Int) : manyL c ≤ 4 := by
  have a := mix_lo c 9871 (m := 5) (by decide)
  have b := mix_hi c 9871 (m := 5) (by decide)
  unfold manyL; omega
theorem hush_sorted : ∀ a b c d : Bool, sortS (((List.range 4).filter fun j => [a, b, c, d].getD j false).map code4) = ((List.range 4).filter fun j => [a, b, c, d].getD j false).map code4 := by decide +kernel
/-- a line as they are drawn -/
structure Ln.Ok (x : Ln) : Prop where
  t : tm 4 x.t = true
  len : x.hush.length ≤ 3
theorem line_ok (c : Int) (k : Nat) : (lineAt c k).Ok := ⟨tree_tm 3 _ _, by simp only [lineAt, hushAt, List.length_take]; omega⟩
theorem prog_loop (h7 : P 7 = some F_law_mix) (h8 : P 8 = some F_law_leaf) (h9 : P 9 = some F_law_tree) (hn : 8 ≤ n) {c : Int} {kc : Sto → Bool} (hkc : ∀ S, kc S = true) :
    ∀ (m k : Nat) (acc : List Ln) (o2 o3 o4 : Option D), k + m ≤ 4 → acc.length + m ≤ 4 →
    ∃ a b d, forL (fun d s => bindT [2] false d s) (fun s S => exs (run P n) [.set 3 (.pr .add [.var 0, .pr .mul [.con (.int 37), .var 2]]),
    .set 4 (.comp [5, 6] [5, 6] true .enum [.tup [.con (.str [65]), .con (.str [66]), .con (.str [85, 80]), .con (.str [90, 90])]] [.pr .eq [.call 7 [.pr .add [.var 3, .var 5], .con (.int 9859), .con (.int 5)], .con (.int 0)]] (.var 6)),
    .set 1 (.pr .add [.var 1, .tup [.tup [.call 9 [.var 3, .con (.int 4), .con (.bl false)], .pr .tuple [.pr (.slc false true) [.pr .sorted [.var 4], .con (.int 3)]]]]])] s S) kc ((List.range' k m).map fun (i : Nat) => .int i) [some (.int c), some (prgD acc), o2, o3, o4, none, none] S
      = .nx [some (.int c), some (prgD (acc ++ (List.range' k m).map (lineAt c))), a, b, d, none, none] S
  | 0, k, acc, o2, o3, o4, _, _ => ⟨o2, o3, o4, by simp [forL]⟩
  | m + 1, k, acc, o2, o3, o4, hk, ha => by
    have mu : pr .mul [.int 37, .int k] S = .ok (.int (37 * (k : Int))) S := p_mulI (.inl (by omega))
    have tr : run P n 9 [.int (c + 37 * (k : Int)), .int 4, .bl false] S = .ok (lawTree 4 (c + 37 * (k : Int)) false) S := r_tree h7 h8 h9 3 (n := n) (S := S) _ false (by omega)
    have mx : ∀ j : Nat, run P n 7 [.int (c + 37 * (k : Int) + (j : Int)), .int 9859, .int 5] S = .ok (.int (lawMix (c + 37 * (k : Int) + j) 9859 5)) S := fun j => r_mix h7 (by omega) _ 9859 5 (by decide) (by decide) (by decide)
    rw [show List.range' k (m + 1) = k :: List.range' (k + 1) m from rfl, List.map_cons]
    have hln : (lineAt c k).d = .tup [lawTree 4 (c + 37 * (k : Int)) false, .tup ((hushAt (c + 37 * (k : Int))).map D.str)] := rfl
    obtain ⟨a, b, d, ih⟩ := prog_loop h7 h8 h9 hn (c := c) hkc m (k + 1) (acc ++ [lineAt c k]) (some (.int k)) (some (.int (c + 37 * (k : Int)))) (some (.lst ((((List.range 4).filter fun j => decide (lawMix (c + 37 * (k : Int) + (j : Nat)) 9859 5 = 0)).map code4).map D.str))) (by omega) (by simp; omega)
    refine ⟨a, b, d, forL_nx _ S rfl ?_ (hkc _) (ih.trans (by simp))⟩
    show exs (run P n) _ [some (.int c), some (prgD acc), some (.int k), o3, o4, none, none] S = _
    have hu : hushAt (c + 37 * (k : Int)) = (((List.range 4).filter fun j => decide (lawMix (c + 37 * (k : Int) + (j : Nat)) 9859 5 = 0)).map code4).take 3 := rfl
    have pa : pr .add [prgD acc, .tup [(lineAt c k).d]] S = .ok (prgD (acc ++ [lineAt c k])) S := by
      unfold prgD
      rw [p_addT (by simp [szL]; omega)]
      simp
    rw [hln, hu] at pa
    generalize hs : c + 37 * (k : Int) = s at *
    refine (xs_nx (s2 := [some (.int c), some (prgD acc), some (.int k), some (.int s), o4, none, none]) (S2 := S) (by simp [getV, mu, hs, -g_mulI])).trans ?_
    have be : ∀ x : Int, (x == 0) = decide (x = 0) := fun x => by rw [Bool.eq_iff_iff]; simp
    have fl : ((List.range 4).filter fun j => decide (lawMix (s + (j : Nat)) 9859 5 = 0)) = (List.range 4).filter fun j => [decide (lawMix (s + (0 : Nat)) 9859 5 = 0), decide (lawMix (s + (1 : Nat)) 9859 5 = 0), decide (lawMix (s + (2 : Nat)) 9859 5 = 0), decide (lawMix (s + (3 : Nat)) 9859 5 = 0)].getD j false := by
      refine List.filter_congr fun j hj => ?_
      have hj := List.mem_range.mp hj
      have : j = 0 ∨ j = 1 ∨ j = 2 ∨ j = 3 := by omega
      rcases this with rfl | rfl | rfl | rfl <;> rfl
    have cm : ∀ b0 b1 b2 b3 : Bool, (([D.tup [.int 0, .str [65]], .tup [.int 1, .str [66]], .tup [.int 2, .str [85, 80]], .tup [.int 3, .str [90, 90]]].filter fun d => match d with | .tup [.int j, _] => [b0, b1, b2, b3].getD j.toNat false | _ => false).map fun d => match d with | .tup [_, x] => x | _ => .non) = (((List.range 4).filter fun j => [b0, b1, b2, b3].getD j false).map code4).map D.str := by decide +kernel
    have srt := hush_sorted (decide (lawMix (s + (0 : Nat)) 9859 5 = 0)) (decide (lawMix (s + (1 : Nat)) 9859 5 = 0)) (decide (lawMix (s + (2 : Nat)) 9859 5 = 0)) (decide (lawMix (s + (3 : Nat)) 9859 5 = 0))
    have hc : ev (run P n) (.comp [5, 6] [5, 6] true .enum [.tup [.con (.str [65]), .con (.str [66]), .con (.str [85, 80]), .con (.str [90, 90])]] [.pr .eq [.call 7 [.pr .add [.var 3, .var 5], .con (.int 9859), .con (.int 5)], .con (.int 0)]] (.var 6)) [some (.int c), some (prgD acc), some (.int k), some (.int s), o4, none, none] S
        = .ok (.lst ((((List.range 4).filter fun j => decide (lawMix (s + (j : Nat)) 9859 5 = 0)).map code4).map D.str)) S := by
      rw [fl, ← cm]
      refine ev_fm (ds := [.tup [.str [65], .str [66], .str [85, 80], .str [90, 90]]]) (xs := [D.tup [.int 0, .str [65]], .tup [.int 1, .str [66]], .tup [.int 2, .str [85, 80]], .tup [.int 3, .str [90, 90]]]) (by simp) rfl (by simp [szL]) rfl fun d hd => ?_
      have m0 := mx 0
      have m1 := mx 1
      have m2 := mx 2
      have m3 := mx 3
      simp only [List.mem_cons, List.not_mem_nil, or_false] at hd
      rcases hd with rfl | rfl | rfl | rfl
      · exact ⟨[some (.int c), some (prgD acc), some (.int k), some (.int s), o4, some (.int ((0 : Nat) : Int)), some (.str [65])], rfl, by simp only [tst, ev_pr, evs_cons, ev_call, ev_var, getV, List.getElem?_cons_succ, List.getElem?_cons_zero, bOk, ev_con, evs_nil, p_addI, m0, p_eqI, be, tr_bl, oS]; rfl, fun _ => by simp [getV]⟩
      · exact ⟨[some (.int c), some (prgD acc), some (.int k), some (.int s), o4, some (.int ((1 : Nat) : Int)), some (.str [66])], rfl, by simp only [tst, ev_pr, evs_cons, ev_call, ev_var, getV, List.getElem?_cons_succ, List.getElem?_cons_zero, bOk, ev_con, evs_nil, p_addI, m1, p_eqI, be, tr_bl, oS]; rfl, fun _ => by simp [getV]⟩
      · exact ⟨[some (.int c), some (prgD acc), some (.int k), some (.int s), o4, some (.int ((2 : Nat) : Int)), some (.str [85, 80])], rfl, by simp only [tst, ev_pr, evs_cons, ev_call, ev_var, getV, List.getElem?_cons_succ, List.getElem?_cons_zero, bOk, ev_con, evs_nil, p_addI, m2, p_eqI, be, tr_bl, oS]; rfl, fun _ => by simp [getV]⟩
      · exact ⟨[some (.int c), some (prgD acc), some (.int k), some (.int s), o4, some (.int ((3 : Nat) : Int)), some (.str [90, 90])], rfl, by simp only [tst, ev_pr, evs_cons, ev_call, ev_var, getV, List.getElem?_cons_succ, List.getElem?_cons_zero, bOk, ev_con, evs_nil, p_addI, m3, p_eqI, be, tr_bl, oS]; rfl, fun _ => by simp [getV]⟩
    rw [← fl] at srt
    have lf : (((List.range 4).filter fun j => decide (lawMix (s + (j : Nat)) 9859 5 = 0)).map code4).length ≤ 4 := by
      rw [List.length_map]; exact Nat.le_trans (List.length_filter_le _ _) (by simp)
    generalize ((List.range 4).filter fun j => decide (lawMix (s + (j : Nat)) 9859 5 = 0)).map code4 = L at hc srt lf pa
    refine (xs_nx (s2 := [some (.int c), some (prgD acc), some (.int k), some (.int s), some (.lst (L.map D.str)), none, none]) (S2 := S) (by rw [ex_set, hc]; rfl)).trans ?_
    refine (xs_nx (s2 := [some (.int c), some (prgD (acc ++ [lineAt c k])), some (.int k), some (.int s), some (.lst (L.map D.str)), none, none]) (S2 := S) ?_).trans exs_nil
    have st : strsD (L.map D.str) = some L := by
      clear srt lf hc pa
      induction L with
      | nil => rfl
      | cons x L ih => simp [strsD, ih]
    have so : pr .sorted [.lst (L.map D.str)] S = .ok (.lst (L.map D.str)) S := by
      simp only [pr, rs_lst, st]
      rw [gd_y (by omega), srt]
    have ct : cut (L.map D.str) none (some 3) = (L.take 3).map D.str := by
      have := cut_to (L.map D.str) 3
      rw [show ((3 : Nat) : Int) = 3 from rfl] at this
      rw [this, List.map_take]
    rw [List.map_take] at pa ct
    simp [getV, tr, so, ct, pa, -g_addT]
theorem r_prog (h7 : P 7 = some F_law_mix) (h8 : P 8 = some F_law_leaf) (h9 : P 9 = some F_law_tree) (h : P 54 = some F_law_program) (hn : 9 ≤ n) {c : Int} : run P n 54 [.int c] S = .ok (prgD (lawProg c)) S := by
  obtain ⟨n, rfl⟩ : ∃ k, n = k + 1 := ⟨n - 1, by omega⟩
  have mx : run P n 7 [.int c, .int 9871, .int 5] S = .ok (.int (lawMix c 9871 5)) S := r_mix h7 (by omega) c 9871 5 (by decide) (by decide) (by decide)
  have mlo := mix_lo c 9871 (m := 5) (by decide)
  have mhi := mix_hi c 9871 (m := 5) (by decide)
  have ml := manyL_le c
  obtain ⟨a, b, d, lp⟩ := prog_loop (S := S) h7 h8 h9 (n := n) (by omega) (c := c) (kc := fun _ => true) (fun _ => rfl) (manyL c) 0 [] none none none (by omega) (by simpa using ml)
  have hi : items .rng [.int (lawMix c 9871 5)] S = some ((List.range' 0 (manyL c)).map fun (i : Nat) => .int i, none) := by
    rw [it_rng, if_pos (by omega), ← List.range_eq_range']; rfl
  rw [run_e h _ _ [some _, none, none, none, none, none, none] rfl rfl]
  refine fx_nx [some (.int c), some (.tup []), none, none, none, none, none] S (by simp) ?_
  refine fx_nx _ S (ex_forE (ds := [.int (lawMix c 9871 5)]) (by simp [getV, mx]) hi lp) ?_
  refine fx_rt (prgD (lawProg c)) S ?_ retD_self
  simp [getV, lawProg, List.range_eq_range']
end Eng

/-! B12 -/
set_option linter.all false
set_option maxRecDepth 100000
set_option maxHeartbeats 1000000
/-! Findings. -/
namespace Eng
variable {P : Nat → Option Fn} {S : Sto} {n : Nat}

/-! ### comprehensions over what is known of its items -/
section
variable {G : Nat → List D → Sto → Res D} {s : Env}
theorem compL_A {a : Type} {b : D → Option Env} {c : Env → Sto → Res Bool} {e : Env → Sto → Res D} {k : Sto → Bool} {f g : a → D} {t : a → Bool} : ∀ {xs : List a}, (∀ x ∈ xs, ∃ s1, b (f x) = some s1 ∧ c s1 S = .ok (t x) S ∧ (t x = true → e s1 S = .ok (g x) S)) → k S = true → compL b c e k (xs.map f) S = .ok ((xs.filter t).map g) S
  | [], _, _ => rfl
  | d :: ds, h, hk => by
    obtain ⟨s1, h1, h2, h3⟩ := h d List.mem_cons_self
    have ih := compL_A (fun d hd => h d (List.mem_cons_of_mem _ hd)) hk
    rw [List.map_cons]
    cases ht : t d with
    | true => simp only [compL, h1, h2, ht, h3 ht, cOk, bOk, hk, if_true, ih, List.filter_cons_of_pos ht, List.map_cons]
    | false =>
      have hn : ¬ t d = true := by rw [ht]; decide
      simp only [compL, h1, h2, ht, cOk, bOk, hk, if_true, ih, List.filter_cons_of_neg hn]
theorem ev_mapA {a : Type} {own tg : List Nat} {un : Bool} {k : SK} {srcs : List E} {elt : E} {ds : List D} {l : Option Nat} {f g : a → D} {xs : List a} (hs : evs G srcs s S = .ok ds S) (hi : items k ds S = some (xs.map f, l)) (hl : xs.length ≤ szL) (hk : chk (xs.map f) l S = true)
    (h : ∀ x ∈ xs, ∃ s1, bindT tg un (f x) (wipe s own) = some s1 ∧ ev G elt s1 S = .ok (g x) S) : ev G (.comp own tg un k srcs [] elt) s S = .ok (.lst (xs.map g)) S := by
  simp only [ev, hs, bOk, hi, if_pos (show (xs.map f).length ≤ szL by rw [List.length_map]; exact hl)]
  have := compL_A (S := S) (b := fun d => bindT tg un d (wipe s own)) (c := fun s S => evT G [] s S) (e := fun s S => ev G elt s S) (k := chk (xs.map f) l) (f := f) (g := g) (t := fun _ => true) (xs := xs) (fun x hx => by
    obtain ⟨s1, h1, h2⟩ := h x hx
    exact ⟨s1, h1, by simp only [evT], fun _ => h2⟩) hk
  rw [List.filter_eq_self.mpr (fun _ _ => rfl)] at this
  rw [this]; rfl
theorem ev_fmA {a : Type} {own tg : List Nat} {un : Bool} {k : SK} {srcs : List E} {elt c : E} {ds : List D} {l : Option Nat} {f g : a → D} {t : a → Bool} {xs : List a} (hs : evs G srcs s S = .ok ds S) (hi : items k ds S = some (xs.map f, l)) (hl : xs.length ≤ szL) (hk : chk (xs.map f) l S = true)
    (h : ∀ x ∈ xs, ∃ s1, bindT tg un (f x) (wipe s own) = some s1 ∧ tst (ev G c s1 S) = .ok (t x) S ∧ (t x = true → ev G elt s1 S = .ok (g x) S)) : ev G (.comp own tg un k srcs [c] elt) s S = .ok (.lst ((xs.filter t).map g)) S := by
  simp only [ev, hs, bOk, hi, if_pos (show (xs.map f).length ≤ szL by rw [List.length_map]; exact hl)]
  have := compL_A (S := S) (b := fun d => bindT tg un d (wipe s own)) (c := fun s S => evT G [c] s S) (e := fun s S => ev G elt s S) (k := chk (xs.map f) l) (f := f) (g := g) (t := t) (xs := xs) (fun x hx => by
    obtain ⟨s1, h1, h2, h3⟩ := h x hx
    exact ⟨s1, h1, by simp only [evT]; exact h2, h3⟩) hk
  rw [this]; rfl
end
/-! ### nots hold -/
def holdsN (x : Nt) (t : D) (w : List Nat) (T : Tab) : Bool := match x with
  | .is p => (mI 3 p (partOf t w) []).1
  | .wit h p => (mI 3 p ((lookD h T).getD .non) []).1
  | .inn p => (List.range w.length).any fun k => (mI 3 p (partOf t (w.take k)) []).1
theorem prt_take : ∀ {w : List Nat} {d e : D} (k : Nat), prt d w = some e → ∃ f, prt d (w.take k) = some f
  | [], d, e, k, h => ⟨d, by simp [prt]⟩
  | a :: w, d, e, 0, h => ⟨d, by simp [prt]⟩
  | a :: w, d, e, k + 1, h => by
    obtain ⟨p, h1, h2⟩ := prt_cons h
    obtain ⟨f, hf⟩ := prt_take k h2
    exact ⟨f, by simp only [List.take_succ_cons, prt, h1]; exact hf⟩
theorem part_take {d : D} {w : List Nat} (h : prt d w = some (partOf d w)) (k : Nat) : prt d (w.take k) = some (partOf d (w.take k)) := by
  obtain ⟨f, hf⟩ := prt_take k h
  unfold partOf; rw [hf]; rfl
theorem cut_way {w : List Nat} {k : Nat} : pr (.slc false true) [wayD w, .int k] S = .ok (wayD (w.take k)) S := by
  unfold wayD
  rw [p_slT1, cut_to, List.map_take]
theorem isnt_mtch {p e : D} : pr (.isntc .non) [mtch 3 p e] S = .ok (.bl (mI 3 p e []).1) S := by
  rw [p_isntN]
  unfold mtch
  cases (mI 3 p e []).1 <;> simp
theorem boolsD_bl : ∀ bs : List Bool, boolsD (bs.map D.bl) = some bs
  | [] => rfl
  | b :: bs => by simp [boolsD, boolsD_bl bs]
theorem r_holds (L : LibF P) (h : P 43 = some F_holds) (hn : 12 ≤ n) {x : Nt} (hx : tm 3 x.pat = true) {l : Nat} (hl : l ≤ 50) {t : D} (ht : tm l t = true) {w : List Nat} (hw : prt t w = some (partOf t w)) {T : Tab} (hT : TOk l T) (hs : T.length ≤ 100) (hh : ∀ h p, x = .wit h p → (lookD h T).isSome = true) : run P n 43 [x.d, t, wayD w, .tup (prsD T)] S = .ok (.bl (holdsN x t w T)) S := by
  obtain ⟨n, rfl⟩ : ∃ k, n = k + 1 := ⟨n - 1, by omega⟩
  have rm : ∀ {S : Sto} {e : D}, tm l e = true → run P n 21 [x.pat, e] S = .ok (mtch 3 x.pat e) S := fun {S e} he => r_match L.h1 L.h2 L.h20 L.h21 (n := n) (l := 3) (m := l) (by omega) (by omega) hx he (by omega)
  have pa := fun S : Sto => r_part (S := S) L.h13 L.h15 (n := n) (by omega) ht hw
  have lw := (tm_prt ht hw).1
  rw [run_e h _ _ [some _, some _, some _, some _, none] rfl rfl]
  cases x with
  | is p =>
    have r1 := rm (S := S) (tm1 ht hw)
    simp only [Nt.pat] at r1
    have i1 := isnt_mtch (S := S) (p := p) (e := partOf t w)
    refine fx_rt _ S ((ex_itT (S1 := S) (by simp [getV, Nt.d])).trans (xs_rt ?_)) retD_self
    simp only [Nt.d]
    simp [getV, pa, r1, i1, -p_isntN, holdsN]
  | wit h0 p =>
    obtain ⟨v, hv⟩ := Option.isSome_iff_exists.mp (hh h0 p rfl)
    have tv := (hT _ (look_mem hv)).1
    have r1 := rm (S := S ++ [.dct (back T)]) tv
    simp only [Nt.pat] at r1
    have i1 := isnt_mtch (S := S ++ [.dct (back T)]) (p := p) (e := v)
    have dp : pr .dictp [.tup (prsD T)] S = .ok (.loc S.length) (S ++ [.dct (back T)]) := by
      simp only [pr, rs_tup, prsD, prs_pairs]
      exact gd_y (by rw [List.length_map, keyS, sort_len2, List.length_map]; unfold szL; omega)
    have ix : pr .idx [.loc S.length, .str h0] (S ++ [.dct (back T)]) = .ok v (S ++ [.dct (back T)]) := by simp [pr, rs, look_back, hv]
    refine fx_nx [some (Nt.wit h0 p).d, some t, some (wayD w), some (.tup (prsD T)), none] S ((ex_itF (S1 := S) (by simp [getV, Nt.d])).trans exs_nil) ?_
    refine fx_rt (.bl (mI 3 p v []).1) (S ++ [.dct (back T)]) ((ex_itT (S1 := S) (by simp [getV, Nt.d])).trans (xs_rt ?_)) ((ret_pure rfl _).trans ?_)
    · simp only [Nt.d]
      simp [getV, dp, ix, r1, i1, -p_isntN]
    · simp [holdsN, hv]
  | inn p =>
    refine fx_nx [some (Nt.inn p).d, some t, some (wayD w), some (.tup (prsD T)), none] S ((ex_itF (S1 := S) (by simp [getV, Nt.d])).trans exs_nil) ?_
    refine fx_nx [some (Nt.inn p).d, some t, some (wayD w), some (.tup (prsD T)), none] S ((ex_itF (S1 := S) (by simp [getV, Nt.d])).trans exs_nil) ?_
    have hc : ev (run P n) (.comp [4] [4] false .rng [.pr .len [.var 2]] [] (.pr (.isntc (.non)) [.call 21 [.pr .idx [.var 0, .con (.int 1)], .call 15 [.var 1, .pr (.slc false true) [.var 2, .var 4]]]])) [some (Nt.inn p).d, some t, some (wayD w), some (.tup (prsD T)), none] S = .ok (.lst (((List.range w.length).map fun k => (mI 3 p (partOf t (w.take k)) []).1).map D.bl)) S := by
      refine (ev_map (g := fun d => match d with | .int k => .bl (mI 3 p (partOf t (w.take k.toNat)) []).1 | _ => .non) (ds := [.int (w.length : Int)]) (by simp [getV, wayD]) (xs := (List.range w.length).map fun (i : Nat) => .int i) (l := none) ?_ (by simp [szL]; omega) rfl fun d hd => ?_).trans ?_
      · rw [it_rng, if_pos (by omega), Int.toNat_natCast]
      · obtain ⟨k, _, rfl⟩ := List.mem_map.mp hd
        have hk := part_take hw k
        have r1 := rm (S := S) (tm1 ht hk)
        simp only [Nt.pat] at r1
        have p1 := r_part (S := S) L.h13 L.h15 (n := n) (by omega) ht hk
        have i1 := isnt_mtch (S := S) (p := p) (e := partOf t (w.take k))
        have cw := cut_way (S := S) (w := w) (k := k)
        refine ⟨[some (Nt.inn p).d, some t, some (wayD w), some (.tup (prsD T)), some (.int k)], rfl, ?_⟩
        simp only [Nt.d]
        simp [getV, cw, p1, r1, i1, -p_isntN, -p_slT1]
      · rw [List.map_map, List.map_map]
        simp [Function.comp_def]
    refine fx_rt _ S ?_ retD_self
    rw [ex_ret, ev_pr, evs_cons, hc]
    simp only [bOk, evs_nil]
    rw [p_any (boolsD_bl _)]
    simp [holdsN, List.any_map, Function.comp_def]
/-! ### is_found -/
def fnd (r : Rul) (t : D) (w : List Nat) : Bool := hit r (partOf t w) && !(r.nots.any fun x => holdsN x t w (tab r (partOf t w)))
theorem r_isfound (L : LibF P) (h43 : P 43 = some F_holds) (h : P 44 = some F_is_found) (hn : 13 ≤ n) {r : Rul} (hr : r.Ok) (hN : r.nots.length ≤ 2 ∧ ∀ x ∈ r.nots, x.Ok r.pat) {l : Nat} (hl : l ≤ 50) {t : D} (ht : tm l t = true) {w : List Nat} (hw : prt t w = some (partOf t w)) : run P n 44 [r.d, t, wayD w] S = .ok (.bl (fnd r t w)) S := by
  obtain ⟨n, rfl⟩ : ∃ k, n = k + 1 := ⟨n - 1, by omega⟩
  have te := tm1 ht hw
  have rm := r_match (S := S) L.h1 L.h2 L.h20 L.h21 (n := n) (l := 3) (m := l) (by omega) (by omega) hr.pat te (by omega)
  have pa := r_part (S := S) L.h13 L.h15 (n := n) (by omega) ht hw
  rw [run_e h _ _ [some _, some _, some _, none, none] rfl rfl]
  refine fx_nx [some r.d, some t, some (wayD w), some (mtch 3 r.pat (partOf t w)), none] S (by simp only [Rul.d]; simp [getV, pa, rm]) ?_
  cases hh : hit r (partOf t w) with
  | false =>
    have hm : mtch 3 r.pat (partOf t w) = .non := by
      unfold mtch; rw [if_neg (by rw [show (mI 3 r.pat (partOf t w) []).1 = false from hh]; decide)]
    rw [hm]
    exact fx_rt (.bl false) S (by simp [getV]) (by rw [retD_self]; simp [fnd, hh])
  | true =>
    have hm : mtch 3 r.pat (partOf t w) = .tup (prsD (tab r (partOf t w))) := by
      unfold mtch; rw [if_pos (show (mI 3 r.pat (partOf t w) []).1 = true from hh)]; rfl
    rw [hm]
    have t0 : TOk l [] := fun kv hk => by simp at hk
    obtain ⟨q1, q2⟩ := mI_ok (l := 3) hr.pat te t0
    refine fx_nx [some r.d, some t, some (wayD w), some (.tup (prsD (tab r (partOf t w)))), none] S (by simp [getV]) ?_
    have hc : ev (run P n) (.comp [4] [4] false .seq [.pr .idx [.var 0, .con (.int 3)]] [] (.call 43 [.var 4, .var 1, .var 2, .var 3])) [some r.d, some t, some (wayD w), some (.tup (prsD (tab r (partOf t w)))), none] S = .ok (.lst ((r.nots.map fun x => holdsN x t w (tab r (partOf t w))).map D.bl)) S := by
      rw [List.map_map]
      refine ev_mapA (f := Nt.d) (ds := [.tup (r.nots.map Nt.d)]) (by simp only [Rul.d]; simp [getV]) it_tup (by have := hN.1; unfold szL; omega) rfl fun x hx => ⟨[some r.d, some t, some (wayD w), some (.tup (prsD (tab r (partOf t w)))), some x.d], rfl, ?_⟩
      have ok := hN.2 x hx
      have rh := r_holds (S := S) L h43 (n := n) (by omega) ok.1 hl ht hw q1 (by have : nW 3 = 13 := rfl; simp at q2; omega) (fun h p e => mI_holes hr.pat hh h (ok.2 h p e).1 (ok.2 h p e).2)
      simp [getV]
      exact rh
    refine fx_rt _ S ?_ retD_self
    have ha : ev (run P n) (.pr .any [.comp [4] [4] false .seq [.pr .idx [.var 0, .con (.int 3)]] [] (.call 43 [.var 4, .var 1, .var 2, .var 3])]) [some r.d, some t, some (wayD w), some (.tup (prsD (tab r (partOf t w)))), none] S = .ok (.bl (r.nots.any fun x => holdsN x t w (tab r (partOf t w)))) S := by
      rw [ev_pr, evs_cons, hc]
      simp only [bOk, evs_nil]
      rw [p_any (boolsD_bl _)]
      simp [List.any_map, Function.comp_def]
    rw [ex_ret, ev_pr, evs_cons, ha]
    simp [fnd, hh]
/-! ### all_found -/
structure Fd where
  k : Nat
  w : List Nat
  r : Rul
def Fd.d (x : Fd) : D := .tup [.int x.k, wayD x.w, .str x.r.code]
def afW (b : List Rul) (t : D) (k : Nat) (w : List Nat) : List Fd := (b.filter fun r => fnd r t w).map fun r => ⟨k, w, r⟩
def afL (b : List Rul) (t : D) (k : Nat) : List Fd := (wys 40 t).flatMap fun w => afW b t k w
def afP (b : List Rul) : Nat → List Ln → List Fd
  | _, [] => []
  | k, x :: xs => afL b x.t k ++ afP b (k + 1) xs
/-- programs whose terms are not too great -/
def szP : List Ln → Nat
  | [] => 0
  | x :: p => (wys 40 x.t).length + szP p
theorem szP_mem : ∀ {p : List Ln} {x : Ln}, x ∈ p → (wys 40 x.t).length ≤ szP p
  | [], x, h => by simp at h
  | y :: p, x, h => by
    simp only [szP]
    rcases List.mem_cons.mp h with rfl | h
    · omega
    · have := szP_mem h; omega
structure PrOk (p : List Ln) : Prop where
  len : p.length ≤ 64
  tt : ∀ x ∈ p, tm 40 x.t = true
  sz : szP p ≤ 1600000
  hush : ∀ x ∈ p, x.hush.length ≤ 1000
theorem afW_len (b : List Rul) (t : D) (k : Nat) (w : List Nat) : (afW b t k w).length ≤ b.length := by
  unfold afW; rw [List.length_map]; exact List.length_filter_le _ _
theorem PrOk.t {p : List Ln} (h : PrOk p) : ∀ x ∈ p, tm 40 x.t = true ∧ (wys 40 x.t).length ≤ 1600000 := fun x hx => ⟨h.tt x hx, Nat.le_trans (szP_mem hx) h.sz⟩
theorem afL_len {b : List Rul} (hb : b.length ≤ 10) {t : D} {k : Nat} : (afL b t k).length ≤ (wys 40 t).length * 10 := by
  have := flat_len (f := fun w => afW b t k w) (k := 10) (l := wys 40 t) fun w _ => Nat.le_trans (afW_len b t k w) hb
  unfold afL; omega
theorem afP_len {b : List Rul} (hb : b.length ≤ 10) : ∀ {p : List Ln} {k : Nat}, (afP b k p).length ≤ szP p * 10
  | [], k => by simp [afP]
  | x :: p, k => by
    have h1 := afL_len hb (t := x.t) (k := k)
    have h2 := afP_len hb (p := p) (k := k + 1)
    simp only [afP, List.length_append, szP]; omega
theorem Fd_pure (x : Fd) : x.d.pure = true := by simp [Fd.d, wayD_pure]
theorem Fds_pure (xs : List Fd) : D.pures (xs.map Fd.d) = true := pures_of fun x hx => by obtain ⟨y, _, rfl⟩ := List.mem_map.mp hx; exact Fd_pure y
theorem af_ways (L : LibF P) (h43 : P 43 = some F_holds) (h44 : P 44 = some F_is_found) (hn : 50 ≤ n) {b : List Rul} (hb : BkN b) {x : Ln} (ht : tm 40 x.t = true) {k : Nat} {o0 : Option D} {kc : Sto → Bool} (hkc : ∀ S, kc S = true) : ∀ (ws : List (List Nat)) (acc : List Fd) (a : Option D), (∀ w ∈ ws, w ∈ wys 40 x.t) → acc.length + ws.length * 10 ≤ szL →
    ∃ a', forL (fun d s => bindT [5] false d s) (fun s S => exs (run P n) [.expr (.mth .ext (.var 2) [.comp [6] [6] false .seq [.var 1] [.call 44 [.var 6, .pr .idx [.var 4, .con (.int 0)], .var 5]] (.tup [.var 3, .var 5, .pr .idx [.var 6, .con (.int 0)]])])] s S) kc (ws.map wayD) [o0, some (bookD b), some (.loc S.length), some (.int k), some x.d, a, none] (S ++ [.lst (acc.map Fd.d)])
      = .nx [o0, some (bookD b), some (.loc S.length), some (.int k), some x.d, a', none] (S ++ [.lst ((acc ++ ws.flatMap fun w => afW b x.t k w).map Fd.d)])
  | [], acc, a, _, _ => ⟨a, by simp [forL]⟩
  | w :: ws, acc, a, h, hs => by
    have hw := part_of (h w List.mem_cons_self)
    rw [List.length_cons] at hs
    have la := afW_len b x.t k w
    have lb := hb.len
    obtain ⟨a', ih⟩ := af_ways L h43 h44 hn hb ht (k := k) (o0 := o0) hkc ws (acc ++ afW b x.t k w) (some (wayD w)) (fun v hv => h v (List.mem_cons_of_mem _ hv)) (by simp; omega)
    have hc : ev (run P n) (.comp [6] [6] false .seq [.var 1] [.call 44 [.var 6, .pr .idx [.var 4, .con (.int 0)], .var 5]] (.tup [.var 3, .var 5, .pr .idx [.var 6, .con (.int 0)]])) [o0, some (bookD b), some (.loc S.length), some (.int k), some x.d, some (wayD w), none] (S ++ [.lst (acc.map Fd.d)]) = .ok (.lst ((afW b x.t k w).map Fd.d)) (S ++ [.lst (acc.map Fd.d)]) := by
      unfold afW
      rw [List.map_map]
      refine ev_fmA (f := Rul.d) (t := fun r => fnd r x.t w) (ds := [bookD b]) (by simp [getV]) (xs := b) rfl (by unfold szL; omega) rfl fun r hr => ⟨[o0, some (bookD b), some (.loc S.length), some (.int k), some x.d, some (wayD w), some r.d], rfl, ?_, fun _ => ?_⟩
      · have ri := r_isfound (S := S ++ [.lst (acc.map Fd.d)]) L h43 h44 (n := n) (by omega) (hb.ok r hr) (hb.nots r hr) (l := 40) (by omega) ht hw
        simp only [Ln.d]
        simp [getV, ri]
      · simp only [Rul.d]
        simp [getV, Fd.d]
    rw [List.map_cons]
    refine ⟨a', forL_nx [o0, some (bookD b), some (.loc S.length), some (.int k), some x.d, some (wayD w), none] (S ++ [.lst ((acc ++ afW b x.t k w).map Fd.d)]) rfl ?_ (hkc _) (ih.trans (by simp))⟩
    have pex := ext_at (S := S) (xs := acc.map Fd.d) (ys := (afW b x.t k w).map Fd.d) (by simp only [List.length_map]; omega)
    rw [← List.map_append] at pex
    refine xs_nx ?_
    show ex (run P n) _ [o0, some (bookD b), some (.loc S.length), some (.int k), some x.d, some (wayD w), none] _ = _
    rw [ex_expr, ev_mth, ev_var]
    simp only [getV, List.getElem?_cons_succ, List.getElem?_cons_zero, bOk, okE, if_true]
    rw [evs_cons, hc]
    simp only [bOk, evs_nil, pex, outE_ok]
theorem af_lines (L : LibF P) (h43 : P 43 = some F_holds) (h44 : P 44 = some F_is_found) (hn : 50 ≤ n) {b : List Rul} (hb : BkN b) {o0 : Option D} {kc : Sto → Bool} (hkc : ∀ S, kc S = true) : ∀ (p : List Ln) (k : Nat) (acc : List Fd) (a c e : Option D), (∀ x ∈ p, tm 40 x.t = true ∧ (wys 40 x.t).length ≤ 1600000) → acc.length + szP p * 10 ≤ szL →
    ∃ a' c' e', forL (fun d s => bindT [3, 4] true d s) (fun s S => exs (run P n) [.for [5] false .seq [.call 14 [.pr .idx [.var 4, .con (.int 0)]]] [.expr (.mth .ext (.var 2) [.comp [6] [6] false .seq [.var 1] [.call 44 [.var 6, .pr .idx [.var 4, .con (.int 0)], .var 5]] (.tup [.var 3, .var 5, .pr .idx [.var 6, .con (.int 0)]])])]] s S) kc (((p.map Ln.d).zipIdx k).map fun p => .tup [.int p.2, p.1]) [o0, some (bookD b), some (.loc S.length), a, c, e, none] (S ++ [.lst (acc.map Fd.d)])
      = .nx [o0, some (bookD b), some (.loc S.length), a', c', e', none] (S ++ [.lst ((acc ++ afP b k p).map Fd.d)])
  | [], k, acc, a, c, e, _, _ => ⟨a, c, e, by simp [forL, afP]⟩
  | x :: p, k, acc, a, c, e, h, hs => by
    obtain ⟨t1, t2⟩ := h x List.mem_cons_self
    simp only [szP] at hs
    have la := afL_len hb.len (t := x.t) (k := k)
    have rw_ := r_ways (S := S ++ [.lst (acc.map Fd.d)]) L.h13 L.h14 (n := n) (l := 40) (by omega) (by unfold szL; omega) t1 (by omega)
    obtain ⟨e1, lp⟩ := af_ways (S := S) L h43 h44 hn hb t1 (k := k) (o0 := o0) (kc := chk ((wys 40 x.t).map wayD) none) (fun _ => rfl) (wys 40 x.t) acc e (fun w h => h) (by omega)
    obtain ⟨a', c', e', ih⟩ := af_lines L h43 h44 hn hb (o0 := o0) hkc p (k + 1) (acc ++ afL b x.t k) (some (.int k)) (some x.d) e1 (fun y hy => h y (List.mem_cons_of_mem _ hy)) (by simp; omega)
    rw [List.map_cons, List.zipIdx_cons, List.map_cons]
    refine ⟨a', c', e', forL_nx [o0, some (bookD b), some (.loc S.length), some (.int k), some x.d, e1, none] (S ++ [.lst ((acc ++ afL b x.t k).map Fd.d)]) rfl ?_ (hkc _) (ih.trans (by simp [afP]))⟩
    refine (xs_nx ?_).trans exs_nil
    show ex (run P n) _ [o0, some (bookD b), some (.loc S.length), some (.int k), some x.d, e, none] _ = _
    refine ex_forE (ds := [.tup ((wys 40 x.t).map wayD)]) (S1 := S ++ [.lst (acc.map Fd.d)]) (xs := (wys 40 x.t).map wayD) (l := none) ?_ rfl lp
    simp only [Ln.d]
    simp [getV, rw_]
theorem r_all (L : LibF P) (h43 : P 43 = some F_holds) (h44 : P 44 = some F_is_found) (h : P 45 = some F_all_found) (hn : 51 ≤ n) {b : List Rul} (hb : BkN b) {p : List Ln} (hp : PrOk p) : run P n 45 [prgD p, bookD b] S = .ok (.lst ((afP b 0 p).map Fd.d)) S := by
  obtain ⟨n, rfl⟩ : ∃ k, n = k + 1 := ⟨n - 1, by omega⟩
  obtain ⟨a', c', e', lp⟩ := af_lines (S := S) L h43 h44 (n := n) (by omega) hb (o0 := some (prgD p)) (kc := chk (((p.map Ln.d).zipIdx 0).map fun p => .tup [.int p.2, p.1]) none) (fun _ => rfl) p 0 [] none none none hp.t (by have := hp.sz; simp [szL]; omega)
  rw [run_e h _ _ [some _, some _, none, none, none, none, none] rfl rfl]
  refine fx_nx [some (prgD p), some (bookD b), some (.loc S.length), none, none, none, none] (S ++ [.lst []]) (by simp) ?_
  refine fx_nx [some (prgD p), some (bookD b), some (.loc S.length), a', c', e', none] (S ++ [.lst (([] ++ afP b 0 p).map Fd.d)]) (ex_forE (ds := [prgD p]) (S1 := S ++ [.lst []]) (xs := ((p.map Ln.d).zipIdx 0).map fun p => .tup [.int p.2, p.1]) (l := none) (by simp [getV]) rfl lp) ?_
  refine fx_rt (.loc S.length) (S ++ [.lst (([] ++ afP b 0 p).map Fd.d)]) (by simp [getV]) ?_
  exact ret_lst0 (by simpa using Fds_pure _)
/-! ### found -/
def hushed (p : List Ln) (x : Fd) : Bool := decide (x.r.code ∈ ((p[x.k]?).map Ln.hush).getD [])
def fdP (b : List Rul) (p : List Ln) : List Fd := (afP b 0 p).filter fun x => !hushed p x
theorem afP_mem {b : List Rul} : ∀ {p : List Ln} {k : Nat} {x : Fd}, x ∈ afP b k p → ∃ y, k ≤ x.k ∧ p[x.k - k]? = some y ∧ x.w ∈ wys 40 y.t ∧ x.r ∈ b ∧ fnd x.r y.t x.w = true
  | [], k, x, h => by simp [afP] at h
  | y :: p, k, x, h => by
    simp only [afP, List.mem_append] at h
    rcases h with h | h
    · obtain ⟨w, hw, hx⟩ := List.mem_flatMap.mp h
      obtain ⟨r, hr, rfl⟩ := List.mem_map.mp hx
      obtain ⟨q1, q2⟩ := List.mem_filter.mp hr
      exact ⟨y, Nat.le_refl _, by simp, hw, q1, q2⟩
    · obtain ⟨z, q1, q2, q3⟩ := afP_mem h
      refine ⟨z, by omega, ?_, q3⟩
      rw [show x.k - k = (x.k - (k + 1)) + 1 from by omega, List.getElem?_cons_succ]
      exact q2
theorem prg_at {p : List Ln} {k : Nat} {y : Ln} (h : p[k]? = some y) : pr .idx [prgD p, .int k] S = .ok y.d S := by
  unfold prgD
  rw [p_idxT, atI_nat, List.getElem?_map, h]; rfl
theorem notin_str {c : List Nat} {hs : List (List Nat)} : pr .notin [.str c, .tup (hs.map D.str)] S = .ok (.bl (!decide (c ∈ hs))) S := by
  have e : pr .notin [.str c, .tup (hs.map D.str)] S = gd ((D.str c).dp ≤ dpL ∧ (D.tup (hs.map D.str)).dp ≤ dpL) (.bl (!(hs.map D.str).any (fun y => y.eqv (.str c)))) S := by
    simp only [pr, rs_tup, pr.isIn]
    cases c with
    | nil => rfl
    | cons a r => cases r <;> rfl
  rw [e, eqvS_any]
  exact gd_y (by simp [strs_dps, dpL])
theorem hush_ev {G : Nat → List D → Sto → Res D} {b : List Rul} {p : List Ln} {x : Fd} (hx : x ∈ afP b 0 p) {bk : D} : tst (ev G (.pr .notin [.pr .idx [.var 2, .con (.int 2)], .pr .idx [.pr .idx [.var 0, .pr .idx [.var 2, .con (.int 0)]], .con (.int 1)]]) [some (prgD p), some bk, some x.d] S) = .ok (!hushed p x) S := by
  obtain ⟨y, _, h2, _⟩ := afP_mem hx
  have pa := prg_at (S := S) h2
  rw [Nat.sub_zero] at h2 pa
  have hh : hushed p x = decide (x.r.code ∈ y.hush) := by simp [hushed, h2]
  have ni := notin_str (S := S) (c := x.r.code) (hs := y.hush)
  simp only [Fd.d]
  simp only [Ln.d] at pa
  simp [getV, pa, ni, hh]
theorem r_found (L : LibF P) (h43 : P 43 = some F_holds) (h44 : P 44 = some F_is_found) (h45 : P 45 = some F_all_found) (h : P 46 = some F_found) (hn : 52 ≤ n) {b : List Rul} (hb : BkN b) {p : List Ln} (hp : PrOk p) : run P n 46 [prgD p, bookD b] S = .ok (.tup ((fdP b p).map Fd.d)) S := by
  obtain ⟨n, rfl⟩ : ∃ k, n = k + 1 := ⟨n - 1, by omega⟩
  have ra := r_all (S := S) L h43 h44 h45 (n := n) (by omega) hb hp
  have la := afP_len hb.len (p := p) (k := 0)
  have lp := hp.sz
  have hc : ev (run P n) (.comp [2] [2] false .seq [.call 45 [.var 0, .var 1]] [.pr .notin [.pr .idx [.var 2, .con (.int 2)], .pr .idx [.pr .idx [.var 0, .pr .idx [.var 2, .con (.int 0)]], .con (.int 1)]]] (.var 2)) [some (prgD p), some (bookD b), none] S = .ok (.lst ((fdP b p).map Fd.d)) S :=
    ev_fmA (f := Fd.d) (g := Fd.d) (t := fun x => !hushed p x) (ds := [.lst ((afP b 0 p).map Fd.d)]) (by simp [getV, ra]) it_lst (by unfold szL; omega) rfl fun x hx => ⟨[some (prgD p), some (bookD b), some x.d], rfl, hush_ev hx, fun _ => by simp [getV]⟩
  rw [run_e h _ _ [some _, some _, none] rfl rfl]
  refine fx_rt _ S ?_ retD_self
  rw [ex_ret, ev_pr, evs_cons, hc]
  simp
end Eng

/-! B13 -/
set_option linter.all false
set_option maxRecDepth 100000
set_option maxHeartbeats 1000000
/-! The law's own findings. -/
namespace Eng
variable {P : Nat → Option Fn} {S : Sto} {n : Nat}

theorem compL_W {a : Type} {b : D → Option Env} {c : Env → Sto → Res Bool} {e : Env → Sto → Res D} {k : Sto → Bool} {f g : a → D} {t : a → Bool} (hk : ∀ S, k S = true) : ∀ {xs : List a} (M : Sto), (∀ x ∈ xs, ∃ s1, b (f x) = some s1 ∧ ∀ M, ∃ M', c s1 (S ++ M) = .ok (t x) (S ++ M') ∧ (t x = true → e s1 (S ++ M') = .ok (g x) (S ++ M'))) → ∃ M', compL b c e k (xs.map f) (S ++ M) = .ok ((xs.filter t).map g) (S ++ M')
  | [], M, _ => ⟨M, rfl⟩
  | d :: ds, M, h => by
    obtain ⟨s1, h1, h2⟩ := h d List.mem_cons_self
    obtain ⟨M1, h3, h4⟩ := h2 M
    obtain ⟨M', ih⟩ := compL_W hk M1 (fun d hd => h d (List.mem_cons_of_mem _ hd))
    rw [List.map_cons]
    cases ht : t d with
    | true => exact ⟨M', by simp only [compL, h1, h3, ht, h4 ht, cOk, bOk, hk, if_true, ih, List.filter_cons_of_pos ht, List.map_cons]⟩
    | false =>
      have hn : ¬ t d = true := by rw [ht]; decide
      exact ⟨M', by simp only [compL, h1, h3, ht, cOk, bOk, hk, if_true, ih, List.filter_cons_of_neg hn]⟩
theorem ev_fmW {G : Nat → List D → Sto → Res D} {s : Env} {a : Type} {own tg : List Nat} {un : Bool} {k : SK} {srcs : List E} {elt c : E} {ds : List D} {f g : a → D} {t : a → Bool} {xs : List a} (hs : evs G srcs s S = .ok ds S) (hi : items k ds S = some (xs.map f, none)) (hl : xs.length ≤ szL)
    (h : ∀ x ∈ xs, ∃ s1, bindT tg un (f x) (wipe s own) = some s1 ∧ ∀ M, ∃ M', tst (ev G c s1 (S ++ M)) = .ok (t x) (S ++ M') ∧ (t x = true → ev G elt s1 (S ++ M') = .ok (g x) (S ++ M'))) : ∃ M', ev G (.comp own tg un k srcs [c] elt) s S = .ok (.lst ((xs.filter t).map g)) (S ++ M') := by
  simp only [ev, hs, bOk, hi, if_pos (show (xs.map f).length ≤ szL by rw [List.length_map]; exact hl)]
  obtain ⟨M', h'⟩ := compL_W (S := S) (b := fun d => bindT tg un d (wipe s own)) (c := fun s S => evT G [c] s S) (e := fun s S => ev G elt s S) (k := chk (xs.map f) none) (f := f) (g := g) (t := t) (xs := xs) (fun _ => rfl) [] (fun x hx => by
    obtain ⟨s1, h1, h2⟩ := h x hx
    exact ⟨s1, h1, fun M => by obtain ⟨M', h3, h4⟩ := h2 M; exact ⟨M', by simp only [evT]; exact h3, h4⟩⟩)
  rw [List.append_nil] at h'
  exact ⟨M', by rw [h']; rfl⟩
theorem p_neNil {xs : List D} (h : D.dps xs ≤ 100) : pr .ne [.lst xs, .lst []] S = .ok (.bl (!xs.isEmpty)) S := by
  rw [p_ne (by simp [dpL]; omega) (by simp [dpL])]
  cases xs <;> simp [D.eqv, D.eqvs]
theorem lm1 (h31 : P 31 = some F_law_match) (hn : 5 ≤ n) {p e : D} {l : Nat} (hp : tm 3 p = true) (he : tm l e = true) (hl : l ≤ 50) : run P n 31 [p, e, .loc S.length] (S ++ [.dct []]) = .ok (.bl (mI 3 p e []).1) (S ++ [.dct (lI 3 p e []).2]) := by
  have t0 : TOk l [] := fun kv hk => by simp at hk
  have lm := r_lmatch h31 (S := S ++ [.dct []]) (n := n) (k := S.length) (T := []) (l := 3) (m := l) (by omega) hp he t0 sto_at (by decide) (by omega)
  rw [sto_set, (lI_mI 3 p e []).1] at lm
  exact lm
theorem filter_emp {a : Type} {t : a → Bool} : ∀ xs : List a, (xs.filter t).isEmpty = !xs.any t
  | [] => rfl
  | x :: xs => by
    cases h : t x with
    | true => simp [List.filter_cons_of_pos h, h]
    | false => rw [List.filter_cons_of_neg (by rw [h]; decide), filter_emp xs]; simp [h]
/-! ### holds -/
theorem r_lholds (L : LawM P) (h : P 55 = some F_law_holds) (hn : 12 ≤ n) {x : Nt} (hx : tm 3 x.pat = true) {l : Nat} (hl : l ≤ 50) {t : D} (ht : tm l t = true) {w : List Nat} (hw : prt t w = some (partOf t w)) {T : Tab} (hT : TOk l T) {k : Nat} (hk : S[k]? = some (.dct T)) (hh : ∀ h p, x = .wit h p → (lookD h T).isSome = true) : run P n 55 [x.d, t, wayD w, .loc k] S = .ok (.bl (holdsN x t w T)) S := by
  obtain ⟨n, rfl⟩ : ∃ k, n = k + 1 := ⟨n - 1, by omega⟩
  have pa := fun S : Sto => r_lpart (S := S) L.h33 (n := n) (by omega) ht hw
  have lw := (tm_prt ht hw).1
  rw [run_e h _ _ [some _, some _, some _, some _, none] rfl rfl]
  cases x with
  | is p =>
    have r1 := lm1 (S := S) L.h31 (n := n) (by omega) hx (tm1 ht hw) hl
    simp only [Nt.pat] at r1
    have dn : pr .dnew [] S = .ok (.loc S.length) (S ++ [.dct []]) := rfl
    refine fx_rt (.bl (mI 3 p (partOf t w) []).1) (S ++ [.dct (lI 3 p (partOf t w) []).2]) ((ex_itT (S1 := S) (by simp [getV, Nt.d])).trans (xs_rt ?_)) ((ret_pure rfl _).trans (by simp [holdsN]))
    simp only [Nt.d]
    simp [getV, pa, dn, r1]
  | wit h0 p =>
    obtain ⟨v, hv⟩ := Option.isSome_iff_exists.mp (hh h0 p rfl)
    have tv := (hT _ (look_mem hv)).1
    have r1 := lm1 (S := S) L.h31 (n := n) (by omega) hx tv hl
    simp only [Nt.pat] at r1
    have dn : pr .dnew [] S = .ok (.loc S.length) (S ++ [.dct []]) := rfl
    have ix : pr .idx [.loc k, .str h0] S = .ok v S := by simp [pr, rs, hk, hv]
    refine fx_nx [some (Nt.wit h0 p).d, some t, some (wayD w), some (.loc k), none] S ((ex_itF (S1 := S) (by simp [getV, Nt.d])).trans exs_nil) ?_
    refine fx_rt (.bl (mI 3 p v []).1) (S ++ [.dct (lI 3 p v []).2]) ((ex_itT (S1 := S) (by simp [getV, Nt.d])).trans (xs_rt ?_)) ((ret_pure rfl _).trans (by simp [holdsN, hv]))
    simp only [Nt.d]
    simp [getV, dn, ix, r1]
  | inn p =>
    refine fx_nx [some (Nt.inn p).d, some t, some (wayD w), some (.loc k), none] S ((ex_itF (S1 := S) (by simp [getV, Nt.d])).trans exs_nil) ?_
    refine fx_nx [some (Nt.inn p).d, some t, some (wayD w), some (.loc k), none] S ((ex_itF (S1 := S) (by simp [getV, Nt.d])).trans exs_nil) ?_
    have hc : ∃ M, ev (run P n) (.comp [4] [4] false .rng [.pr .len [.var 2]] [.call 31 [.pr .idx [.var 0, .con (.int 1)], .call 33 [.var 1, .pr (.slc false true) [.var 2, .var 4]], .pr .dnew []]] (.var 4)) [some (Nt.inn p).d, some t, some (wayD w), some (.loc k), none] S = .ok (.lst (((List.range w.length).filter fun k => (mI 3 p (partOf t (w.take k)) []).1).map fun (i : Nat) => D.int i)) (S ++ M) := by
      refine ev_fmW (f := fun (i : Nat) => D.int i) (g := fun (i : Nat) => D.int i) (t := fun k => (mI 3 p (partOf t (w.take k)) []).1) (ds := [.int (w.length : Int)]) (by simp [getV, wayD]) (xs := List.range w.length) ?_ (by simp [szL]; omega) fun j hj => ⟨[some (Nt.inn p).d, some t, some (wayD w), some (.loc k), some (.int j)], rfl, fun M => ?_⟩
      · rw [it_rng, if_pos (by omega), Int.toNat_natCast]
      · have hk := part_take hw j
        have r1 := lm1 (S := S ++ M) L.h31 (n := n) (by omega) hx (tm1 ht hk) hl
        simp only [Nt.pat] at r1
        have dn : pr .dnew [] (S ++ M) = .ok (.loc (S ++ M).length) ((S ++ M) ++ [.dct []]) := rfl
        have p1 := r_lpart (S := S ++ M) L.h33 (n := n) (by omega) ht hk
        have cw := cut_way (S := S ++ M) (w := w) (k := j)
        refine ⟨M ++ [.dct (lI 3 p (partOf t (w.take j)) []).2], ?_, fun _ => by simp [getV]⟩
        rw [← List.append_assoc]
        generalize hK : (S ++ M).length = K at *
        simp only [Nt.d]
        simp [getV, cw, p1, dn, r1, -p_slT1, -List.append_assoc]
    obtain ⟨M, hc⟩ := hc
    have pn := p_neNil (S := S ++ M) (xs := ((List.range w.length).filter fun k => (mI 3 p (partOf t (w.take k)) []).1).map fun (i : Nat) => D.int i) (by rw [dps_le]; intro x hx; obtain ⟨j, _, rfl⟩ := List.mem_map.mp hx; simp)
    refine fx_rt (.bl (holdsN (.inn p) t w T)) (S ++ M) ?_ (ret_pure rfl _)
    rw [ex_ret, ev_pr, evs_cons, hc]
    simp only [bOk, evs_cons, ev_lst, evs_nil, pn, outE_ok]
    simp only [List.isEmpty_map, filter_emp, Bool.not_not, holdsN]
/-! ### all -/
theorem lall_rules (L : LawM P) (h55 : P 55 = some F_law_holds) (hn : 50 ≤ n) {x : Ln} (ht : tm 40 x.t = true) {k : Nat} {w : List Nat} (hw : prt x.t w = some (partOf x.t w)) {o0 o1 : Option D} {kc : Sto → Bool} (hkc : ∀ S, kc S = true) : ∀ (b : List Rul) (acc : List Fd) (M : Sto) (a6 a7 a8 a9 a10 : Option D), (∀ r ∈ b, r.Ok) → (∀ r ∈ b, r.nots.length ≤ 2 ∧ ∀ x ∈ r.nots, x.Ok r.pat) → acc.length + b.length ≤ szL →
    ∃ a6' a7' a8' a9' a10' M', forL (fun d s => bindT [6, 7, 8, 9] true d s) (fun s S => exs (run P n) [.set 10 (.pr .dnew []),
    .ite (.call 31 [.var 7, .call 33 [.pr .idx [.var 4, .con (.int 0)], .var 5], .var 10]) [.ite (.pr .eq [.comp [11] [11] false .seq [.var 9] [.call 55 [.var 11, .pr .idx [.var 4, .con (.int 0)], .var 5, .var 10]] (.var 11), .lst []]) [.expr (.mth .app (.var 2) [.tup [.var 3, .var 5, .var 6]])] []] []] s S) kc (b.map Rul.d) [o0, o1, some (.loc S.length), some (.int k), some x.d, some (wayD w), a6, a7, a8, a9, a10, none] (S ++ (.lst (acc.map Fd.d) :: M))
      = .nx [o0, o1, some (.loc S.length), some (.int k), some x.d, some (wayD w), a6', a7', a8', a9', a10', none] (S ++ (.lst ((acc ++ afW b x.t k w).map Fd.d) :: M'))
  | [], acc, M, a6, a7, a8, a9, a10, _, _, _ => ⟨a6, a7, a8, a9, a10, M, by simp [forL, afW]⟩
  | r :: b, acc, M, a6, a7, a8, a9, a10, ho, hN, hs => by
    rw [List.length_cons] at hs
    have ok := ho r List.mem_cons_self
    have nt := hN r List.mem_cons_self
    have te := tm1 ht hw
    have ho' : ∀ q ∈ b, q.Ok := fun q hq => ho q (List.mem_cons_of_mem _ hq)
    have hN' : ∀ q ∈ b, q.nots.length ≤ 2 ∧ ∀ x ∈ q.nots, x.Ok q.pat := fun q hq => hN q (List.mem_cons_of_mem _ hq)
    rw [List.map_cons]
    have rp := r_lpart (S := (S ++ (.lst (acc.map Fd.d) :: M)) ++ [.dct []]) L.h33 (n := n) (by omega) ht hw
    have dn : pr .dnew [] (S ++ (.lst (acc.map Fd.d) :: M)) = .ok (.loc (S ++ (.lst (acc.map Fd.d) :: M)).length) ((S ++ (.lst (acc.map Fd.d) :: M)) ++ [.dct []]) := rfl
    have lm := lm1 (S := S ++ (.lst (acc.map Fd.d) :: M)) L.h31 (n := n) (by omega) ok.pat te (by omega)
    have q2 := (lI_mI 3 r.pat (partOf x.t w) []).2
    have bnd : bindT [6, 7, 8, 9] true r.d [o0, o1, some (.loc S.length), some (.int k), some x.d, some (wayD w), a6, a7, a8, a9, a10, none] = some [o0, o1, some (.loc S.length), some (.int k), some x.d, some (wayD w), some (.str r.code), some r.pat, some r.mend, some (.tup (r.nots.map Nt.d)), a10, none] := rfl
    have s1 : ex (run P n) (.set 10 (.pr .dnew [])) [o0, o1, some (.loc S.length), some (.int k), some x.d, some (wayD w), some (.str r.code), some r.pat, some r.mend, some (.tup (r.nots.map Nt.d)), a10, none] (S ++ (.lst (acc.map Fd.d) :: M)) = .nx [o0, o1, some (.loc S.length), some (.int k), some x.d, some (wayD w), some (.str r.code), some r.pat, some r.mend, some (.tup (r.nots.map Nt.d)), some (.loc (S ++ (.lst (acc.map Fd.d) :: M)).length), none] ((S ++ (.lst (acc.map Fd.d) :: M)) ++ [.dct []]) := by
      simp only [ex_set, ev_pr, evs_nil, bOk, dn, outE_ok]; rfl
    have c1 : ev (run P n) (.call 31 [.var 7, .call 33 [.pr .idx [.var 4, .con (.int 0)], .var 5], .var 10]) [o0, o1, some (.loc S.length), some (.int k), some x.d, some (wayD w), some (.str r.code), some r.pat, some r.mend, some (.tup (r.nots.map Nt.d)), some (.loc (S ++ (.lst (acc.map Fd.d) :: M)).length), none] ((S ++ (.lst (acc.map Fd.d) :: M)) ++ [.dct []]) = .ok (.bl (hit r (partOf x.t w))) ((S ++ (.lst (acc.map Fd.d) :: M)) ++ [.dct (lI 3 r.pat (partOf x.t w) []).2]) := by
      generalize hK : (S ++ (.lst (acc.map Fd.d) :: M)).length = K at *
      simp only [List.append_assoc, List.cons_append] at rp lm
      simp [getV, Ln.d, rp, lm, hit]
    generalize hK : (S ++ (.lst (acc.map Fd.d) :: M)).length = K at *
    have es : ∀ T : Tab, (S ++ (.lst (acc.map Fd.d) :: M)) ++ [.dct T] = S ++ (.lst (acc.map Fd.d) :: (M ++ [.dct T])) := fun T => by simp
    cases hh : hit r (partOf x.t w) with
    | false =>
      rw [hh] at c1
      obtain ⟨a6', a7', a8', a9', a10', M', ih⟩ := lall_rules L h55 hn ht (k := k) hw (o0 := o0) (o1 := o1) hkc b acc (M ++ [.dct (lI 3 r.pat (partOf x.t w) []).2]) (some (.str r.code)) (some r.pat) (some r.mend) (some (.tup (r.nots.map Nt.d))) (some (.loc K)) ho' hN' (by omega)
      refine ⟨a6', a7', a8', a9', a10', M', forL_nx _ _ bnd ((xs_nx s1).trans ((xs_nx ((ex_itF (by rw [c1]; rfl)).trans exs_nil)).trans exs_nil)) (hkc _) ?_⟩
      rw [es, ih]
      congr 3
      unfold afW
      rw [List.filter_cons_of_neg (by simp [fnd, hh])]
    | true =>
      have q3 := q2 hh
      rw [hh, q3] at c1
      have t0 : TOk 40 [] := fun kv hk => by simp at hk
      obtain ⟨m1, m2⟩ := mI_ok (l := 3) ok.pat te t0
      have hc : ev (run P n) (.comp [11] [11] false .seq [.var 9] [.call 55 [.var 11, .pr .idx [.var 4, .con (.int 0)], .var 5, .var 10]] (.var 11)) [o0, o1, some (.loc S.length), some (.int k), some x.d, some (wayD w), some (.str r.code), some r.pat, some r.mend, some (.tup (r.nots.map Nt.d)), some (.loc K), none] ((S ++ (.lst (acc.map Fd.d) :: M)) ++ [.dct (mI 3 r.pat (partOf x.t w) []).2]) = .ok (.lst ((r.nots.filter fun y => holdsN y x.t w (tab r (partOf x.t w))).map Nt.d)) ((S ++ (.lst (acc.map Fd.d) :: M)) ++ [.dct (mI 3 r.pat (partOf x.t w) []).2]) := by
        refine ev_fmA (f := Nt.d) (g := Nt.d) (t := fun y => holdsN y x.t w (tab r (partOf x.t w))) (ds := [.tup (r.nots.map Nt.d)]) (by simp [getV]) it_tup (by have := nt.1; unfold szL; omega) rfl fun y hy => ⟨[o0, o1, some (.loc S.length), some (.int k), some x.d, some (wayD w), some (.str r.code), some r.pat, some r.mend, some (.tup (r.nots.map Nt.d)), some (.loc K), some y.d], rfl, ?_, fun _ => by simp [getV]⟩
        have yk := nt.2 y hy
        have rh := r_lholds (S := (S ++ (.lst (acc.map Fd.d) :: M)) ++ [.dct (mI 3 r.pat (partOf x.t w) []).2]) L h55 (n := n) (by omega) yk.1 (l := 40) (by omega) ht hw m1 (k := K) (by rw [← hK]; exact sto_at) (fun h p e => mI_holes ok.pat hh h (yk.2 h p e).1 (yk.2 h p e).2)
        simp only [Ln.d, ev_call, evs_cons, ev_var, getV, List.getElem?_cons_succ, List.getElem?_cons_zero, bOk, ev_pr, ev_con, evs_nil, p_idxT, at0, oS, rh, tst_ok, tr_bl, tab]
      have pq := p_eqNil (S := (S ++ (.lst (acc.map Fd.d) :: M)) ++ [.dct (mI 3 r.pat (partOf x.t w) []).2]) (xs := (r.nots.filter fun y => holdsN y x.t w (tab r (partOf x.t w))).map Nt.d) (by
        rw [dps_le]
        intro y hy
        obtain ⟨z, hz, rfl⟩ := List.mem_map.mp hy
        have := tm_dp (nt.2 z (List.mem_filter.mp hz).1).1
        cases z <;> simp only [Nt.d, Nt.pat, dp_tup, dps_cons, dp_str, dps_nil] at this ⊢ <;> omega)
      rw [List.isEmpty_map, filter_emp] at pq
      have c2 : ev (run P n) (.pr .eq [.comp [11] [11] false .seq [.var 9] [.call 55 [.var 11, .pr .idx [.var 4, .con (.int 0)], .var 5, .var 10]] (.var 11), .lst []]) [o0, o1, some (.loc S.length), some (.int k), some x.d, some (wayD w), some (.str r.code), some r.pat, some r.mend, some (.tup (r.nots.map Nt.d)), some (.loc K), none] ((S ++ (.lst (acc.map Fd.d) :: M)) ++ [.dct (mI 3 r.pat (partOf x.t w) []).2]) = .ok (.bl (fnd r x.t w)) ((S ++ (.lst (acc.map Fd.d) :: M)) ++ [.dct (mI 3 r.pat (partOf x.t w) []).2]) := by
        rw [ev_pr, evs_cons, hc]
        simp only [bOk, evs_cons, ev_lst, evs_nil, pq, fnd, hh, Bool.true_and]
      cases hf : fnd r x.t w with
      | false =>
        rw [hf] at c2
        obtain ⟨a6', a7', a8', a9', a10', M', ih⟩ := lall_rules L h55 hn ht (k := k) hw (o0 := o0) (o1 := o1) hkc b acc (M ++ [.dct (mI 3 r.pat (partOf x.t w) []).2]) (some (.str r.code)) (some r.pat) (some r.mend) (some (.tup (r.nots.map Nt.d))) (some (.loc K)) ho' hN' (by omega)
        refine ⟨a6', a7', a8', a9', a10', M', forL_nx _ _ bnd ((xs_nx s1).trans ((xs_nx ((ex_itT (by rw [c1]; rfl)).trans ((xs_nx ((ex_itF (by rw [c2]; rfl)).trans exs_nil)).trans exs_nil))).trans exs_nil)) (hkc _) ?_⟩
        rw [es, ih]
        congr 3
        unfold afW
        rw [List.filter_cons_of_neg (by simp [hf])]
      | true =>
        rw [hf] at c2
        have ap := mid_app (S := S) (acc := acc.map Fd.d) (M := M ++ [.dct (mI 3 r.pat (partOf x.t w) []).2]) (x := Fd.d (⟨k, w, r⟩ : Fd)) (by rw [List.length_map]; omega)
        have oa := okA2 (S := S) (acc := acc.map Fd.d) (M := M ++ [.dct (mI 3 r.pat (partOf x.t w) []).2])
        have s3 : ex (run P n) (.expr (.mth .app (.var 2) [.tup [.var 3, .var 5, .var 6]])) [o0, o1, some (.loc S.length), some (.int k), some x.d, some (wayD w), some (.str r.code), some r.pat, some r.mend, some (.tup (r.nots.map Nt.d)), some (.loc K), none] ((S ++ (.lst (acc.map Fd.d) :: M)) ++ [.dct (mI 3 r.pat (partOf x.t w) []).2]) = .nx [o0, o1, some (.loc S.length), some (.int k), some x.d, some (wayD w), some (.str r.code), some r.pat, some r.mend, some (.tup (r.nots.map Nt.d)), some (.loc K), none] (S ++ (.lst ((acc ++ [(⟨k, w, r⟩ : Fd)]).map Fd.d) :: (M ++ [.dct (mI 3 r.pat (partOf x.t w) []).2]))) := by
          rw [es]
          simp only [Fd.d] at ap
          simp only [ex_expr, ev_mth, ev_var, getV, List.getElem?_cons_succ, List.getElem?_cons_zero, bOk, oa, if_true, evs_cons, evs_nil, ev_tup, ap, outE_ok, List.map_append, List.map_cons, List.map_nil, Fd.d]
        obtain ⟨a6', a7', a8', a9', a10', M', ih⟩ := lall_rules L h55 hn ht (k := k) hw (o0 := o0) (o1 := o1) hkc b (acc ++ [(⟨k, w, r⟩ : Fd)]) (M ++ [.dct (mI 3 r.pat (partOf x.t w) []).2]) (some (.str r.code)) (some r.pat) (some r.mend) (some (.tup (r.nots.map Nt.d))) (some (.loc K)) ho' hN' (by simp; omega)
        refine ⟨a6', a7', a8', a9', a10', M', forL_nx _ _ bnd ((xs_nx s1).trans ((xs_nx ((ex_itT (by rw [c1]; rfl)).trans ((xs_nx ((ex_itT (by rw [c2]; rfl)).trans ((xs_nx s3).trans exs_nil))).trans exs_nil))).trans exs_nil)) (hkc _) ?_⟩
        rw [ih]
        congr 3
        unfold afW
        rw [List.filter_cons_of_pos (by simp [hf])]
        simp
end Eng

/-! B14 -/
set_option linter.all false
set_option maxRecDepth 100000
set_option maxHeartbeats 1000000
/-! The law's own findings, all; what a finding makes. -/
namespace Eng
variable {P : Nat → Option Fn} {S : Sto} {n : Nat}

theorem lall_ways (L : LawM P) (h55 : P 55 = some F_law_holds) (hn : 50 ≤ n) {b : List Rul} (hb : BkN b) {x : Ln} (ht : tm 40 x.t = true) {k : Nat} {o0 : Option D} {kc : Sto → Bool} (hkc : ∀ S, kc S = true) : ∀ (ws : List (List Nat)) (acc : List Fd) (M : Sto) (a5 a6 a7 a8 a9 a10 : Option D), (∀ w ∈ ws, w ∈ wys 40 x.t) → acc.length + ws.length * 10 ≤ szL →
    ∃ a5' a6' a7' a8' a9' a10' M', forL (fun d s => bindT [5] false d s) (fun s S => exs (run P n) [.for [6, 7, 8, 9] true .seq [.var 1] [.set 10 (.pr .dnew []),
    .ite (.call 31 [.var 7, .call 33 [.pr .idx [.var 4, .con (.int 0)], .var 5], .var 10]) [.ite (.pr .eq [.comp [11] [11] false .seq [.var 9] [.call 55 [.var 11, .pr .idx [.var 4, .con (.int 0)], .var 5, .var 10]] (.var 11), .lst []]) [.expr (.mth .app (.var 2) [.tup [.var 3, .var 5, .var 6]])] []] []]] s S) kc (ws.map wayD) [o0, some (bookD b), some (.loc S.length), some (.int k), some x.d, a5, a6, a7, a8, a9, a10, none] (S ++ (.lst (acc.map Fd.d) :: M))
      = .nx [o0, some (bookD b), some (.loc S.length), some (.int k), some x.d, a5', a6', a7', a8', a9', a10', none] (S ++ (.lst ((acc ++ ws.flatMap fun w => afW b x.t k w).map Fd.d) :: M'))
  | [], acc, M, a5, a6, a7, a8, a9, a10, _, _ => ⟨a5, a6, a7, a8, a9, a10, M, by simp [forL]⟩
  | w :: ws, acc, M, a5, a6, a7, a8, a9, a10, h, hs => by
    have hw := part_of (h w List.mem_cons_self)
    rw [List.length_cons] at hs
    have la := afW_len b x.t k w
    have lb := hb.len
    obtain ⟨b6, b7, b8, b9, b10, M1, lp⟩ := lall_rules (S := S) L h55 hn ht (k := k) hw (o0 := o0) (o1 := some (bookD b)) (kc := chk (b.map Rul.d) none) (fun _ => rfl) b acc M a6 a7 a8 a9 a10 hb.ok hb.nots (by omega)
    obtain ⟨c5, c6, c7, c8, c9, c10, M2, ih⟩ := lall_ways L h55 hn hb ht (k := k) (o0 := o0) hkc ws (acc ++ afW b x.t k w) M1 (some (wayD w)) b6 b7 b8 b9 b10 (fun v hv => h v (List.mem_cons_of_mem _ hv)) (by simp; omega)
    rw [List.map_cons]
    refine ⟨c5, c6, c7, c8, c9, c10, M2, forL_nx [o0, some (bookD b), some (.loc S.length), some (.int k), some x.d, some (wayD w), b6, b7, b8, b9, b10, none] (S ++ (.lst ((acc ++ afW b x.t k w).map Fd.d) :: M1)) rfl ?_ (hkc _) (ih.trans (by simp))⟩
    refine (xs_nx ?_).trans exs_nil
    exact ex_forE (ds := [bookD b]) (S1 := S ++ (.lst (acc.map Fd.d) :: M)) (xs := b.map Rul.d) (l := none) (by simp [getV]) rfl lp
theorem lall_lines (L : LawM P) (h55 : P 55 = some F_law_holds) (hn : 50 ≤ n) {b : List Rul} (hb : BkN b) {o0 : Option D} {kc : Sto → Bool} (hkc : ∀ S, kc S = true) : ∀ (p : List Ln) (k : Nat) (acc : List Fd) (M : Sto) (a3 a4 a5 a6 a7 a8 a9 a10 : Option D), (∀ x ∈ p, tm 40 x.t = true ∧ (wys 40 x.t).length ≤ 1600000) → acc.length + szP p * 10 ≤ szL →
    ∃ a3' a4' a5' a6' a7' a8' a9' a10' M', forL (fun d s => bindT [3, 4] true d s) (fun s S => exs (run P n) [.for [5] false .seq [.call 32 [.pr .idx [.var 4, .con (.int 0)]]] [.for [6, 7, 8, 9] true .seq [.var 1] [.set 10 (.pr .dnew []),
    .ite (.call 31 [.var 7, .call 33 [.pr .idx [.var 4, .con (.int 0)], .var 5], .var 10]) [.ite (.pr .eq [.comp [11] [11] false .seq [.var 9] [.call 55 [.var 11, .pr .idx [.var 4, .con (.int 0)], .var 5, .var 10]] (.var 11), .lst []]) [.expr (.mth .app (.var 2) [.tup [.var 3, .var 5, .var 6]])] []] []]]] s S) kc (((p.map Ln.d).zipIdx k).map fun p => .tup [.int p.2, p.1]) [o0, some (bookD b), some (.loc S.length), a3, a4, a5, a6, a7, a8, a9, a10, none] (S ++ (.lst (acc.map Fd.d) :: M))
      = .nx [o0, some (bookD b), some (.loc S.length), a3', a4', a5', a6', a7', a8', a9', a10', none] (S ++ (.lst ((acc ++ afP b k p).map Fd.d) :: M'))
  | [], k, acc, M, a3, a4, a5, a6, a7, a8, a9, a10, _, _ => ⟨a3, a4, a5, a6, a7, a8, a9, a10, M, by simp [forL, afP]⟩
  | x :: p, k, acc, M, a3, a4, a5, a6, a7, a8, a9, a10, h, hs => by
    obtain ⟨t1, t2⟩ := h x List.mem_cons_self
    simp only [szP] at hs
    have la := afL_len hb.len (t := x.t) (k := k)
    have rw_ := r_lways (S := S ++ (.lst (acc.map Fd.d) :: M)) L.h32 (n := n) (l := 40) (by omega) (by unfold szL; omega) t1 (by omega)
    obtain ⟨e5, e6, e7, e8, e9, e10, M1, lp⟩ := lall_ways (S := S) L h55 hn hb t1 (k := k) (o0 := o0) (kc := chk ((wys 40 x.t).map wayD) none) (fun _ => rfl) (wys 40 x.t) acc M a5 a6 a7 a8 a9 a10 (fun w h => h) (by omega)
    obtain ⟨c3, c4, c5, c6, c7, c8, c9, c10, M2, ih⟩ := lall_lines L h55 hn hb (o0 := o0) hkc p (k + 1) (acc ++ afL b x.t k) M1 (some (.int k)) (some x.d) e5 e6 e7 e8 e9 e10 (fun y hy => h y (List.mem_cons_of_mem _ hy)) (by simp; omega)
    rw [List.map_cons, List.zipIdx_cons, List.map_cons]
    refine ⟨c3, c4, c5, c6, c7, c8, c9, c10, M2, forL_nx [o0, some (bookD b), some (.loc S.length), some (.int k), some x.d, e5, e6, e7, e8, e9, e10, none] (S ++ (.lst ((acc ++ afL b x.t k).map Fd.d) :: M1)) rfl ?_ (hkc _) (ih.trans (by simp [afP]))⟩
    refine (xs_nx ?_).trans exs_nil
    refine ex_forE (ds := [.lst ((wys 40 x.t).map wayD)]) (S1 := S ++ (.lst (acc.map Fd.d) :: M)) (xs := (wys 40 x.t).map wayD) (l := none) ?_ rfl lp
    show evs (run P n) _ [o0, some (bookD b), some (.loc S.length), some (.int k), some x.d, a5, a6, a7, a8, a9, a10, none] _ = _
    simp only [Ln.d]
    simp [getV, rw_]
theorem r_lall (L : LawM P) (h55 : P 55 = some F_law_holds) (h : P 56 = some F_law_all) (hn : 51 ≤ n) {b : List Rul} (hb : BkN b) {p : List Ln} (hp : PrOk p) : run P n 56 [prgD p, bookD b] S = .ok (.lst ((afP b 0 p).map Fd.d)) S := by
  obtain ⟨n, rfl⟩ : ∃ k, n = k + 1 := ⟨n - 1, by omega⟩
  obtain ⟨c3, c4, c5, c6, c7, c8, c9, c10, M, lp⟩ := lall_lines (S := S) L h55 (n := n) (by omega) hb (o0 := some (prgD p)) (kc := chk (((p.map Ln.d).zipIdx 0).map fun p => .tup [.int p.2, p.1]) none) (fun _ => rfl) p 0 [] [] none none none none none none none none hp.t (by have := hp.sz; simp [szL]; omega)
  rw [run_e h _ _ [some _, some _, none, none, none, none, none, none, none, none, none, none] rfl rfl]
  refine fx_nx [some (prgD p), some (bookD b), some (.loc S.length), none, none, none, none, none, none, none, none, none] (S ++ [.lst []]) (by simp) ?_
  refine fx_nx [some (prgD p), some (bookD b), some (.loc S.length), c3, c4, c5, c6, c7, c8, c9, c10, none] (S ++ (.lst (([] ++ afP b 0 p).map Fd.d) :: M)) (ex_forE (ds := [prgD p]) (S1 := S ++ [.lst []]) (xs := ((p.map Ln.d).zipIdx 0).map fun p => .tup [.int p.2, p.1]) (l := none) (by simp [getV]) rfl lp) ?_
  refine fx_rt (.loc S.length) (S ++ (.lst (([] ++ afP b 0 p).map Fd.d) :: M)) (by simp [getV]) ?_
  rw [List.nil_append]
  exact ret_lst (j := 0) rfl (Fds_pure _)
theorem r_lfound (L : LawM P) (h55 : P 55 = some F_law_holds) (h56 : P 56 = some F_law_all) (h : P 57 = some F_law_found) (hn : 52 ≤ n) {b : List Rul} (hb : BkN b) {p : List Ln} (hp : PrOk p) : run P n 57 [prgD p, bookD b] S = .ok (.lst ((fdP b p).map Fd.d)) S := by
  obtain ⟨n, rfl⟩ : ∃ k, n = k + 1 := ⟨n - 1, by omega⟩
  have ra := r_lall (S := S) L h55 h56 (n := n) (by omega) hb hp
  have la := afP_len hb.len (p := p) (k := 0)
  have lp := hp.sz
  have hc : ev (run P n) (.comp [2] [2] false .seq [.call 56 [.var 0, .var 1]] [.pr .notin [.pr .idx [.var 2, .con (.int 2)], .pr .idx [.pr .idx [.var 0, .pr .idx [.var 2, .con (.int 0)]], .con (.int 1)]]] (.var 2)) [some (prgD p), some (bookD b), none] S = .ok (.lst ((fdP b p).map Fd.d)) S :=
    ev_fmA (f := Fd.d) (g := Fd.d) (t := fun x => !hushed p x) (ds := [.lst ((afP b 0 p).map Fd.d)]) (by simp [getV, ra]) it_lst (by unfold szL; omega) rfl fun x hx => ⟨[some (prgD p), some (bookD b), some x.d], rfl, hush_ev hx, fun _ => by simp [getV]⟩
  rw [run_e h _ _ [some _, some _, none] rfl rfl]
  refine fx_rt _ S ?_ retD_self
  rw [ex_ret, hc]
  simp
end Eng

/-! BS -/
set_option linter.all false
set_option maxRecDepth 100000
set_option maxHeartbeats 1000000
/-! The same. -/
namespace Eng
variable {P : Nat → Option Fn} {S : Sto} {n : Nat}

/-! ### _law_same of a thing and itself -/
def smD : Nat → D → Prop
  | 0, _ => False
  | l + 1, d => (∃ s, d = .str s) ∨ (∃ i, d = .int i) ∨ d = .non ∨ ∃ xs, d = .tup xs ∧ xs.length ≤ szL ∧ ∀ x ∈ xs, smD l x
theorem smD_up : ∀ {l : Nat} {d : D}, smD l d → smD (l + 1) d
  | 0, d, h => h.elim
  | l + 1, d, h => by
    rcases h with h | h | h | ⟨xs, h1, h2, h3⟩
    · exact .inl h
    · exact .inr (.inl h)
    · exact .inr (.inr (.inl h))
    · exact .inr (.inr (.inr ⟨xs, h1, h2, fun x hx => smD_up (h3 x hx)⟩))
theorem smD_le {l m : Nat} (hm : l ≤ m) {d : D} (h : smD l d) : smD m d := by
  induction hm with
  | refl => exact h
  | step _ ih => exact smD_up ih
theorem zip_self {a : Type} : ∀ xs : List a, xs.zip xs = xs.map fun x => (x, x)
  | [] => rfl
  | x :: xs => by simp [zip_self xs]
theorem r_same (h : P 27 = some F_law_same) : ∀ {l n : Nat} {S : Sto} {d : D}, smD l d → l ≤ n → run P n 27 [d, d] S = .ok (.bl true) S
  | 0, n, S, d, hd, _ => hd.elim
  | l + 1, n, S, d, hd, hn => by
    obtain ⟨n, rfl⟩ : ∃ k, n = k + 1 := ⟨n - 1, by omega⟩
    rcases hd with ⟨s, rfl⟩ | ⟨i, rfl⟩ | rfl | ⟨xs, rfl, h2, h3⟩
    · rw [run_at h _ _ _ rfl]; simp [F_law_same, getV, start]
    · rw [run_at h _ _ _ rfl]; simp [F_law_same, getV, start]
    · rw [run_at h _ _ _ rfl]; simp [F_law_same, getV, start]
    · have hc : ev (run P n) (.comp [2, 3] [2, 3] true .zip [.var 0, .var 1] [] (.call 27 [.var 2, .var 3])) [some (.tup xs), some (.tup xs), none, none] S = .ok (.lst (xs.map fun _ => D.bl true)) S := by
        refine (ev_map (g := fun _ => .bl true) (ds := [.tup xs, .tup xs]) (by simp [getV]) (xs := (xs.zip xs).map fun p => .tup [p.1, p.2]) rfl (by simpa using h2) rfl fun x hx => ?_).trans (by simp [zip_self, Function.comp_def])
        obtain ⟨⟨y, z⟩, hp, rfl⟩ := List.mem_map.mp hx
        rw [zip_self] at hp
        obtain ⟨u, hu, e⟩ := List.mem_map.mp hp
        cases e
        exact ⟨[some (.tup xs), some (.tup xs), some y, some y], rfl, by simp [getV, r_same h (h3 y hu) (show l ≤ n by omega)]⟩
      have al : pr .all [.lst (xs.map fun _ => D.bl true)] S = .ok (.bl true) S := by
        rw [p_all (boolsD_map (fun _ => true) xs)]
        simp
      rw [run_e h _ _ [some _, some _, none, none] rfl rfl]
      refine fx_rt (.bl true) S ((ex_itT (S1 := S) (by simp [getV])).trans ((xs_nx ((ex_itF (S1 := S) (by simp [getV])).trans exs_nil)).trans (xs_rt ?_))) retD_self
      rw [ex_ret, ev_pr, evs_cons, hc]
      simp [al]
theorem tm_sm : ∀ {l : Nat} {d : D}, tm l d = true → smD (l + 1) d
  | 0, d, h => by simp [tm] at h
  | l + 1, d, h => by
    rcases tm_cases h with ⟨s, rfl, hs⟩ | ⟨f, ps, rfl, h1, h2, h3, h4⟩
    · exact .inl ⟨s, rfl⟩
    · refine .inr (.inr (.inr ⟨_, rfl, by simp [szL]; omega, fun x hx => ?_⟩))
      rcases List.mem_cons.mp hx with rfl | hx
      · exact .inl ⟨f, rfl⟩
      · exact tm_sm (h4 x hx)
theorem stD_sm {p : List Nat × Rul} (h : p.1.length ≤ 1000) : smD 3 (stD p) := by
  refine .inr (.inr (.inr ⟨_, rfl, by simp [szL], fun x hx => ?_⟩))
  simp only [List.mem_cons, List.not_mem_nil, or_false] at hx
  rcases hx with rfl | rfl
  · refine .inr (.inr (.inr ⟨_, rfl, by rw [List.length_map]; unfold szL; omega, fun x hx => ?_⟩))
    obtain ⟨k, _, rfl⟩ := List.mem_map.mp hx
    exact .inr (.inl ⟨_, rfl⟩)
  · exact .inl ⟨_, rfl⟩
end Eng

/-! B15 -/
set_option linter.all false
set_option maxRecDepth 100000
set_option maxHeartbeats 1000000
/-! What a finding makes, and where it is laid. -/
namespace Eng
variable {P : Nat → Option Fn} {S : Sto} {n : Nat}

/-! ### in, of plain things -/
theorem any_mem {x : D} (hx : x.neat = true) {ds : List D} (hd : ∀ d ∈ ds, d.neat = true) : ds.any (fun y => y.eqv x) = decide (x ∈ ds) := by
  rw [Bool.eq_iff_iff, List.any_eq_true, decide_eq_true_eq]
  constructor
  · rintro ⟨y, hy, he⟩
    rw [(eqv_iff (hd y hy) hx).mp he] at hy
    exact hy
  · intro h
    exact ⟨x, h, (eqv_iff hx hx).mpr rfl⟩
theorem notin_T {x : D} {ds : List D} (hx : x.neat = true) (hp : x.dp ≤ 100) (hs : ∀ s, x ≠ .str s) (hd : ∀ d ∈ ds, d.neat = true ∧ d.dp ≤ 100) : pr .notin [x, .tup ds] S = .ok (.bl (!decide (x ∈ ds))) S := by
  have e : pr .notin [x, .tup ds] S = gd (x.dp ≤ dpL ∧ (D.tup ds).dp ≤ dpL) (.bl (!ds.any (fun y => y.eqv x))) S := by
    simp only [pr, rs_tup, pr.isIn]
    cases x with
    | str s => exact absurd rfl (hs s)
    | _ => rfl
  have dq : D.dps ds ≤ 100 := dps_le.mpr fun y hy => (hd y hy).2
  rw [e, gd_y (by simp [dpL]; omega), any_mem hx fun d h => (hd d h).1]
theorem notin_L {x : D} {ds : List D} (hx : x.neat = true) (hp : x.dp ≤ 100) (hs : ∀ s, x ≠ .str s) (hd : ∀ d ∈ ds, d.neat = true ∧ d.dp ≤ 100) : pr .notin [x, .lst ds] S = .ok (.bl (!decide (x ∈ ds))) S := by
  have e : pr .notin [x, .lst ds] S = gd (x.dp ≤ dpL ∧ (D.lst ds).dp ≤ dpL) (.bl (!ds.any (fun y => y.eqv x))) S := by
    simp only [pr, rs_lst, pr.isIn]
    cases x with
    | str s => exact absurd rfl (hs s)
    | _ => rfl
  have dq : D.dps ds ≤ 100 := dps_le.mpr fun y hy => (hd y hy).2
  rw [e, gd_y (by simp [dpL]; omega), any_mem hx fun d h => (hd d h).1]
theorem isin_L {x : D} {ds : List D} (hx : x.neat = true) (hp : x.dp ≤ 100) (hs : ∀ s, x ≠ .str s) (hd : ∀ d ∈ ds, d.neat = true ∧ d.dp ≤ 100) : pr .isin [x, .lst ds] S = .ok (.bl (decide (x ∈ ds))) S := by
  have e : pr .isin [x, .lst ds] S = gd (x.dp ≤ dpL ∧ (D.lst ds).dp ≤ dpL) (.bl (ds.any (fun y => y.eqv x))) S := by
    simp only [pr, rs_lst, pr.isIn]
    cases x with
    | str s => exact absurd rfl (hs s)
    | _ => rfl
  have dq : D.dps ds ≤ 100 := dps_le.mpr fun y hy => (hd y hy).2
  rw [e, gd_y (by simp [dpL]; omega), any_mem hx fun d h => (hd d h).1]
theorem Fd_neat (x : Fd) : x.d.neat = true ∧ x.d.dp ≤ 100 := by
  have := dp_way x.w
  exact ⟨by simp [Fd.d, D.neat, D.neats, neat_way], by simp [Fd.d]; omega⟩
theorem Fd_nstr (x : Fd) : ∀ s, x.d ≠ .str s := fun s e => by simp [Fd.d] at e
theorem Fds_neat (xs : List Fd) : ∀ d ∈ xs.map Fd.d, d.neat = true ∧ d.dp ≤ 100 := fun d hd => by
  obtain ⟨x, _, rfl⟩ := List.mem_map.mp hd
  exact Fd_neat x
/-! ### rule_of -/
theorem rule_loop {G : Nat → List D → Sto → Res D} {o0 : Option D} {kc : Sto → Bool} (hkc : ∀ S, kc S = true) {r : Rul} : ∀ (b : List Rul) (a : Option D), (b.map Rul.code).Nodup → r ∈ b →
    forL (fun d s => bindT [2] false d s) (fun s S => exs G [.ite (.pr .eq [.pr .idx [.var 2, .con (.int 0)], .var 1]) [.ret (.var 2)] []] s S) kc (b.map Rul.d) [o0, some (.str r.code), a] S = .rt r.d S
  | [], a, _, h => by simp at h
  | q :: b, a, hn, h => by
    rw [List.map_cons] at hn ⊢
    simp only [List.nodup_cons] at hn
    by_cases e : q.code = r.code
    · have : r = q := by
        rcases List.mem_cons.mp h with h | h
        · exact h
        · exact absurd (by rw [e]; exact List.mem_map_of_mem h) hn.1
      subst this
      refine forL_rt (s1 := [o0, some (.str r.code), some r.d]) rfl (xs_rt ((ex_itT (S1 := S) ?_).trans (xs_rt ?_)))
      · simp only [Rul.d]
        simp [getV]
      · simp [getV]
    · have hr : r ∈ b := by
        rcases List.mem_cons.mp h with h | h
        · exact absurd (by rw [h]) e
        · exact h
      refine forL_nx [o0, some (.str r.code), some q.d] S rfl ((xs_nx ((ex_itF (S1 := S) ?_).trans exs_nil)).trans exs_nil) (hkc _) (rule_loop hkc b _ hn.2 hr)
      show tst (ev G _ [o0, some (.str r.code), some q.d] S) = _
      have : (q.code == r.code) = false := by simpa using e
      simp only [Rul.d]
      simp [getV, this]
theorem r_ruleof (h : P 41 = some F_rule_of) (hn : 1 ≤ n) {b : List Rul} (hd : (b.map Rul.code).Nodup) {r : Rul} (hr : r ∈ b) : run P n 41 [bookD b, .str r.code] S = .ok r.d S := by
  obtain ⟨n, rfl⟩ : ∃ k, n = k + 1 := ⟨n - 1, by omega⟩
  rw [run_e h _ _ [some _, some _, none] rfl rfl]
  refine fx_rt r.d S ?_ retD_self
  exact ex_forE (ds := [bookD b]) (S1 := S) (xs := b.map Rul.d) (l := none) (by simp [getV]) rfl (rule_loop (fun _ => rfl) b _ hd hr)
/-! ### what a finding makes -/
def trm (p : List Ln) (k : Nat) : D := ((p[k]?).map Ln.t).getD .non
def hsh (p : List Ln) (k : Nat) : List (List Nat) := ((p[k]?).map Ln.hush).getD []
def mkF (p : List Ln) (x : Fd) : D := if mends x.r = true then fl 3 x.r.mend (tab x.r (partOf (trm p x.k) x.w)) else .non
def layF (p : List Ln) (x : Fd) (d : D) : List Ln := p.set x.k ⟨ptt (trm p x.k) x.w d, hsh p x.k⟩
/-- a finding of a program, not hushed or hushed -/
structure FOk (b : List Rul) (p : List Ln) (x : Fd) : Prop where
  k : x.k < p.length
  w : prt (trm p x.k) x.w = some (partOf (trm p x.k) x.w)
  r : x.r ∈ b
  hit : hit x.r (partOf (trm p x.k) x.w) = true
theorem trm_of {p : List Ln} {k : Nat} {y : Ln} (h : p[k]? = some y) : trm p k = y.t ∧ hsh p k = y.hush := by simp [trm, hsh, h]
theorem line_of {p : List Ln} {k : Nat} (h : k < p.length) : p[k]? = some ⟨trm p k, hsh p k⟩ := by
  have e := List.getElem?_eq_getElem h
  obtain ⟨q1, q2⟩ := trm_of e
  rw [q1, q2, e]
theorem trm_mem {p : List Ln} {k : Nat} (h : k < p.length) : (⟨trm p k, hsh p k⟩ : Ln) ∈ p := List.mem_of_getElem? (line_of h)
theorem af_ok {b : List Rul} {p : List Ln} {x : Fd} (h : x ∈ afP b 0 p) : FOk b p x := by
  obtain ⟨y, _, h2, h3, h4, h5⟩ := afP_mem h
  rw [Nat.sub_zero] at h2
  obtain ⟨q1, q2⟩ := trm_of h2
  have hk : x.k < p.length := (List.getElem?_eq_some_iff.mp h2).1
  refine ⟨hk, ?_, h4, ?_⟩
  · rw [q1]; exact part_of h3
  · rw [q1]
    simp only [fnd, Bool.and_eq_true] at h5
    exact h5.1
theorem fd_ok {b : List Rul} {p : List Ln} {x : Fd} (h : x ∈ fdP b p) : FOk b p x := af_ok (List.mem_filter.mp h).1
theorem mk_tm {b : List Rul} (hb : BkN b) {p : List Ln} {l : Nat} (hp : ∀ x ∈ p, tm l x.t = true) {x : Fd} (hx : FOk b p x) (hm : mends x.r = true) : tm (l + 2 - x.w.length) (mkF p x) = true ∧ x.w.length < l := by
  have ok := hb.ok _ hx.r
  obtain ⟨q1, q2⟩ := tm_prt (hp _ (trm_mem hx.k)) hx.w
  have t0 : TOk (l - x.w.length) [] := fun kv hk => by simp at hk
  have q := (mI_ok (l := 3) ok.pat q2 t0).1
  have t := tm_fl (l := 3) (j := l - x.w.length) (d := x.r.mend) (T := tab x.r (partOf (trm p x.k) x.w)) (mend_tm ok hm).1 (fun kv hk => (q kv hk).1) (by omega)
  unfold mkF
  rw [if_pos hm]
  exact ⟨tm_le (by omega) t, q1⟩
theorem mends_non {r : Rul} (h : mends r = false) : r.mend = .non := by simpa [mends] using h
theorem r_made (L : Lib P) (h41 : P 41 = some F_rule_of) (h : P 47 = some F_made) (hn : 60 ≤ n) {b : List Rul} (hb : BkN b) {p : List Ln} (hp : PrOk p) {x : Fd} (hx : FOk b p x) : run P n 47 [prgD p, bookD b, x.d] S = .ok (mkF p x) S := by
  obtain ⟨n, rfl⟩ : ∃ k, n = k + 1 := ⟨n - 1, by omega⟩
  have ro := r_ruleof (S := S) h41 (n := n) (by omega) hb.nd hx.r
  have ok := hb.ok _ hx.r
  have td := (hp.t _ (trm_mem hx.k)).1
  have te := tm1 td hx.w
  have pa := r_part (S := S) L.h13 L.h15 (n := n) (by omega) td hx.w
  have pi := prg_at (S := S) (line_of hx.k)
  have ma := r_match (S := S) L.h1 L.h2 L.h20 L.h21 (n := n) (l := 3) (m := 40) (by omega) (by omega) ok.pat te (by omega)
  have em : mtch 3 x.r.pat (partOf (trm p x.k) x.w) = .tup (prsD (tab x.r (partOf (trm p x.k) x.w))) := by unfold mtch; rw [if_pos (show (mI 3 x.r.pat (partOf (trm p x.k) x.w) []).1 = true from hx.hit)]; rfl
  rw [em] at ma
  have t0 : TOk 40 [] := fun kv hk => by simp at hk
  obtain ⟨q1, q2⟩ := mI_ok (l := 3) ok.pat te t0
  rw [run_e h _ _ [some _, some _, some _, none, none, none, none] rfl rfl]
  refine fx_nx [some (prgD p), some (bookD b), some x.d, some (.int x.k), some (wayD x.w), some (.str x.r.code), none] S (by simp only [Fd.d]; simp [getV]; rfl) ?_
  refine fx_nx [some (prgD p), some (bookD b), some x.d, some (.int x.k), some (wayD x.w), some (.str x.r.code), some x.r.d] S (by simp [getV, ro]) ?_
  cases hm : mends x.r with
  | false =>
    have e := mends_non hm
    refine fx_rt .non S ((ex_itT (S1 := S) (by simp only [Rul.d]; simp [getV, e])).trans (xs_rt (by simp))) ?_
    rw [retD_self]; simp [mkF, hm]
  | true =>
    have hm' : decide (x.r.mend = .non) = false := by simpa [mends] using hm
    have fi := r_filled (S := S) L.h1 L.h2 L.h13 L.h17 L.h18 L.h22 L.h23 (n := n) (l := 3) (m := 40) (d := x.r.mend) (T := tab x.r (partOf (trm p x.k) x.w)) (by omega) (mend_tm ok hm).1 q1 (by omega) (by have : nW 3 = 13 := rfl; simp at q2; unfold tab; omega)
      (fun s hs hh => mI_holes ok.pat hx.hit s ((mend_tm ok hm).2 s hs hh) hh) (by omega)
    refine fx_nx [some (prgD p), some (bookD b), some x.d, some (.int x.k), some (wayD x.w), some (.str x.r.code), some x.r.d] S ((ex_itF (S1 := S) (by simp only [Rul.d]; simp [getV, hm'])).trans exs_nil) ?_
    refine fx_rt (mkF p x) S ?_ retD_self
    simp only [Rul.d]
    simp only [Ln.d] at pi
    simp [getV, pi, pa, ma, fi, mkF, hm]
theorem r_lmakes (L : LawL P) (h : P 58 = some F_law_makes) (hn : 60 ≤ n) {b : List Rul} (hb : BkN b) {p : List Ln} (hp : PrOk p) {x : Fd} (hx : FOk b p x) : run P n 58 [prgD p, bookD b, x.d] S = .ok (mkF p x) S := by
  obtain ⟨n, rfl⟩ : ∃ k, n = k + 1 := ⟨n - 1, by omega⟩
  have ok := hb.ok _ hx.r
  have td := (hp.t _ (trm_mem hx.k)).1
  have te := tm1 td hx.w
  have hc : ev (run P n) (.comp [3] [3] false .seq [.var 1] [.pr .eq [.pr .idx [.var 3, .con (.int 0)], .pr .idx [.var 2, .con (.int 2)]]] (.var 3)) [some (prgD p), some (bookD b), some x.d, none, none] S = .ok (.lst [x.r.d]) S := by
    have := ev_fmA (G := run P n) (s := [some (prgD p), some (bookD b), some x.d, none, none]) (S := S) (own := [3]) (tg := [3]) (un := false) (k := .seq) (srcs := [.var 1]) (c := .pr .eq [.pr .idx [.var 3, .con (.int 0)], .pr .idx [.var 2, .con (.int 2)]]) (elt := .var 3) (f := Rul.d) (g := Rul.d) (t := fun q => q.code == x.r.code) (ds := [bookD b]) (xs := b) (l := none) (by simp [getV]) rfl (by have := hb.len; unfold szL; omega) rfl fun q hq => ⟨[some (prgD p), some (bookD b), some x.d, some q.d, none], rfl, by simp only [Rul.d, Fd.d]; simp [getV], fun _ => by simp [getV]⟩
    rw [find_code hb.nd hx.r] at this
    exact this
  have pi := prg_at (S := S ++ [.dct []]) (line_of hx.k)
  have pa := r_lpart (S := S ++ [.dct []]) L.h33 (n := n) (by omega) td hx.w
  have lm := lm1 (S := S) L.h31 (n := n) (by omega) ok.pat te (by omega)
  rw [(lI_mI 3 x.r.pat (partOf (trm p x.k) x.w) []).2 hx.hit] at lm
  have dn : pr .dnew [] S = .ok (.loc S.length) (S ++ [.dct []]) := rfl
  rw [run_e h _ _ [some _, some _, some _, none, none] rfl rfl]
  refine fx_nx [some (prgD p), some (bookD b), some x.d, some x.r.d, none] S (by rw [ex_set, ev_pr, evs_cons, hc]; simp) ?_
  refine fx_nx [some (prgD p), some (bookD b), some x.d, some x.r.d, some (.loc S.length)] (S ++ [.dct []]) (by simp [dn]) ?_
  refine fx_nx [some (prgD p), some (bookD b), some x.d, some x.r.d, some (.loc S.length)] (S ++ [.dct (tab x.r (partOf (trm p x.k) x.w))]) ?_ ?_
  · simp only [Fd.d, Rul.d]
    simp only [Ln.d] at pi
    simp [getV, pi, pa, lm, tab]
  cases hm : mends x.r with
  | false =>
    have e := mends_non hm
    refine fx_rt .non (S ++ [.dct (tab x.r (partOf (trm p x.k) x.w))]) (by simp only [Rul.d]; simp [getV, e]) ?_
    rw [ret_pure rfl]; simp [mkF, hm]
  | true =>
    have hm' : decide (x.r.mend = .non) = false := by simpa [mends] using hm
    have rf := r_lfill (S := S ++ [.dct (tab x.r (partOf (trm p x.k) x.w))]) L.h30 (n := n) (k := S.length) (T := tab x.r (partOf (trm p x.k) x.w)) (mend_tm ok hm).1 sto_at (by omega)
    have tk := (mk_tm hb (fun y hy => (hp.t y hy).1) hx hm).1
    refine fx_rt (mkF p x) (S ++ [.dct (tab x.r (partOf (trm p x.k) x.w))]) ?_ (ret_pure (tm_pure tk) _)
    simp only [Rul.d]
    simp [getV, hm', rf, mkF, hm]
/-! ### laid -/
/-- there is a part at a finding's way -/
structure AtOk (l : Nat) (p : List Ln) (x : Fd) : Prop where
  k : x.k < p.length
  t : tm l (trm p x.k) = true
  w : prt (trm p x.k) x.w = some (partOf (trm p x.k) x.w)
theorem set_eq {p : List Ln} {k : Nat} (h : k < p.length) {y : Ln} : (p.map Ln.d).take k ++ [y.d] ++ (p.map Ln.d).drop (k + 1) = (p.set k y).map Ln.d := by
  rw [set_cut (by simpa using h), List.map_set]
theorem r_withterm (h : P 42 = some F_with_term) (hn : 1 ≤ n) {p : List Ln} (hp : p.length ≤ 64) {k : Nat} (hk : k < p.length) {t : D} : run P n 42 [prgD p, .int k, t] S = .ok (prgD (p.set k ⟨t, hsh p k⟩)) S := by
  obtain ⟨n, rfl⟩ : ∃ k, n = k + 1 := ⟨n - 1, by omega⟩
  have pi := prg_at (S := S) (line_of hk)
  have c1 : pr (.slc false true) [prgD p, .int k] S = .ok (.tup ((p.map Ln.d).take k)) S := by unfold prgD; rw [p_slT1, cut_to]
  have c2 : pr (.slc true false) [prgD p, .int ((k : Int) + 1)] S = .ok (.tup ((p.map Ln.d).drop (k + 1))) S := by
    unfold prgD
    rw [p_slT0, show ((k : Int) + 1) = ((k + 1 : Nat) : Int) from rfl, cut_from]
  have a1 : pr .add [.tup ((p.map Ln.d).take k), .tup [(⟨t, hsh p k⟩ : Ln).d]] S = .ok (.tup ((p.map Ln.d).take k ++ [(⟨t, hsh p k⟩ : Ln).d])) S := p_addT (by simp [szL]; omega)
  have a2 : pr .add [.tup ((p.map Ln.d).take k ++ [(⟨t, hsh p k⟩ : Ln).d]), .tup ((p.map Ln.d).drop (k + 1))] S = .ok (prgD (p.set k ⟨t, hsh p k⟩)) S := by
    rw [p_addT (by simp [szL]; omega), set_eq hk]; rfl
  rw [run_e h _ _ [some _, some _, some _] rfl rfl]
  refine fx_rt _ S ?_ retD_self
  simp only [Ln.d] at pi a1 a2
  simp only [ex_ret, ev_pr, evs_cons, ev_var, getV, List.getElem?_cons_succ, List.getElem?_cons_zero, bOk, evs_nil, c1, ev_tup, pi, ev_con, p_idxT, at1, oS, a1, p_addI, c2, a2, outE_ok]
theorem r_laid (L : Lib P) (h42 : P 42 = some F_with_term) (h : P 49 = some F_laid) (hn : 60 ≤ n) {p : List Ln} (hp : p.length ≤ 64) {x : Fd} (hx : AtOk 50 p x) {d : D} : run P n 49 [prgD p, x.d, d] S = .ok (prgD (layF p x d)) S := by
  obtain ⟨n, rfl⟩ : ∃ k, n = k + 1 := ⟨n - 1, by omega⟩
  have lw := (tm_prt hx.t hx.w).1
  have pi := prg_at (S := S) (line_of hx.k)
  have pu := r_put (S := S) L.h13 L.h15 L.h16 (n := n) (x := d) hx.t hx.w (by omega)
  have wt := r_withterm (S := S) h42 (n := n) (by omega) hp hx.k (t := ptt (trm p x.k) x.w d)
  rw [run_e h _ _ [some _, some _, some _, none, none, none] rfl rfl]
  refine fx_nx [some (prgD p), some x.d, some d, some (.int x.k), some (wayD x.w), some (.str x.r.code)] S (by simp only [Fd.d]; simp [getV]; rfl) ?_
  refine fx_rt _ S ?_ retD_self
  simp only [Ln.d] at pi
  simp [getV, pi, pu, wt, layF]
theorem r_llay (L : LawL P) (h : P 59 = some F_law_lay) (hn : 60 ≤ n) {p : List Ln} (hp : p.length ≤ 64) {x : Fd} (hx : AtOk 50 p x) {d : D} : run P n 59 [prgD p, x.d, d] S = .ok (prgD (layF p x d)) S := by
  obtain ⟨n, rfl⟩ : ∃ k, n = k + 1 := ⟨n - 1, by omega⟩
  have lw := (tm_prt hx.t hx.w).1
  have hk := hx.k
  have pi := prg_at (S := S) (line_of hx.k)
  have pu := r_lput (S := S) L.h34 (n := n) (x := d) hx.t hx.w (by omega)
  have c0 : pr (.slc false true) [x.d, .int 2] S = .ok (.tup [.int x.k, wayD x.w]) S := rfl
  have c1 : pr (.slc false true) [prgD p, .int x.k] S = .ok (.tup ((p.map Ln.d).take x.k)) S := by unfold prgD; rw [p_slT1, cut_to]
  have c2 : pr (.slc true false) [prgD p, .int ((x.k : Int) + 1)] S = .ok (.tup ((p.map Ln.d).drop (x.k + 1))) S := by
    unfold prgD
    rw [p_slT0, show ((x.k : Int) + 1) = ((x.k + 1 : Nat) : Int) from rfl, cut_from]
  have a1 : pr .add [.tup ((p.map Ln.d).take x.k), .tup [(⟨ptt (trm p x.k) x.w d, hsh p x.k⟩ : Ln).d]] S = .ok (.tup ((p.map Ln.d).take x.k ++ [(⟨ptt (trm p x.k) x.w d, hsh p x.k⟩ : Ln).d])) S := p_addT (by simp [szL]; omega)
  have a2 : pr .add [.tup ((p.map Ln.d).take x.k ++ [(⟨ptt (trm p x.k) x.w d, hsh p x.k⟩ : Ln).d]), .tup ((p.map Ln.d).drop (x.k + 1))] S = .ok (prgD (layF p x d)) S := by
    rw [p_addT (by simp [szL]; omega), set_eq hk]; rfl
  rw [run_e h _ _ [some _, some _, some _, none, none, none] rfl rfl]
  refine fx_nx [some (prgD p), some x.d, some d, some (.int x.k), some (wayD x.w), none] S (by simp [getV, c0]; rfl) ?_
  refine fx_nx [some (prgD p), some x.d, some d, some (.int x.k), some (wayD x.w), some (⟨ptt (trm p x.k) x.w d, hsh p x.k⟩ : Ln).d] S ?_ ?_
  · simp only [Ln.d] at pi ⊢
    simp [getV, pi, pu]
  · refine fx_rt _ S ?_ retD_self
    simp only [ex_ret, ev_pr, evs_cons, ev_var, getV, List.getElem?_cons_succ, List.getElem?_cons_zero, bOk, evs_nil, c1, ev_tup, ev_con, a1, p_addI, c2, a2, outE_ok]
end Eng

/-! B16 -/
set_option linter.all false
set_option maxRecDepth 100000
set_option maxHeartbeats 1000000
/-! Findings apart, chosen ones. -/
namespace Eng
variable {P : Nat → Option Fn} {S : Sto} {n : Nat}

theorem fd_d {b : List Rul} {p : List Ln} {x : Fd} (h : x ∈ fdP b p) : decide (x.d ∈ (fdP b p).map Fd.d) = true := decide_eq_true (List.mem_map_of_mem h)
structure Lib2 (P : Nat → Option Fn) : Prop extends Lib P where
  h41 : P 41 = some F_rule_of
  h42 : P 42 = some F_with_term
  h43 : P 43 = some F_holds
  h44 : P 44 = some F_is_found
  h45 : P 45 = some F_all_found
  h46 : P 46 = some F_found
  h47 : P 47 = some F_made
structure Law2 (P : Nat → Option Fn) : Prop extends LawL P where
  h55 : P 55 = some F_law_holds
  h56 : P 56 = some F_law_all
  h57 : P 57 = some F_law_found
  h58 : P 58 = some F_law_makes
  h59 : P 59 = some F_law_lay
/-! ### apart -/
def apt (x y : Fd) : Bool := if x.k = y.k then !decide (x.w.take (min x.w.length y.w.length) = y.w.take (min x.w.length y.w.length)) else true
theorem way_len {w : List Nat} : pr .len [wayD w] S = .ok (.int w.length) S := by unfold wayD; rw [p_lenT, List.length_map]
theorem min_nat {a b : Nat} : pr .min2 [.int a, .int b] S = .ok (.int (min a b : Nat)) S := by
  have e : pr .min2 [.int a, .int b] S = .ok (.int (if (b : Int) < a then (b : Int) else a)) S := rfl
  rw [e]
  congr 2
  by_cases h : b < a
  · rw [if_pos (by omega), Nat.min_eq_right (by omega)]
  · rw [if_neg (by omega), Nat.min_eq_left (by omega)]
theorem way_eqv {v w : List Nat} : (wayD v).eqv (wayD w) = decide (v = w) := by
  rw [Bool.eq_iff_iff, eqv_iff (neat_way v) (neat_way w), decide_eq_true_eq]
  exact ⟨way_inj, fun e => by rw [e]⟩
theorem way_rs {w : List Nat} : rs S (wayD w) = wayD w := rfl
theorem way_ne {v w : List Nat} : pr .ne [wayD v, wayD w] S = .ok (.bl (!decide (v = w))) S := by
  have a := dp_way v
  have b := dp_way w
  rw [p_ne (by rw [way_rs]; unfold dpL; omega) (by rw [way_rs]; unfold dpL; omega), way_rs, way_rs, way_eqv]
theorem way_eq {v w : List Nat} : pr .eq [wayD v, wayD w] S = .ok (.bl (decide (v = w))) S := by
  have a := dp_way v
  have b := dp_way w
  rw [p_eq (by rw [way_rs]; unfold dpL; omega) (by rw [way_rs]; unfold dpL; omega), way_rs, way_rs, way_eqv]
theorem r_apart (h : P 51 = some F_are_apart) (hn : 1 ≤ n) {x y : Fd} : run P n 51 [x.d, y.d] S = .ok (.bl (apt x y)) S := by
  obtain ⟨n, rfl⟩ : ∃ k, n = k + 1 := ⟨n - 1, by omega⟩
  rw [run_e h _ _ [some _, some _, none] rfl rfl]
  by_cases e : x.k = y.k
  · have c1 : ((x.k : Int) == (y.k : Int)) = true := by simp [e]
    have l1 := way_len (S := S) (w := x.w)
    have l2 := way_len (S := S) (w := y.w)
    have m := min_nat (S := S) (a := x.w.length) (b := y.w.length)
    have k1 := cut_way (S := S) (w := x.w) (k := min x.w.length y.w.length)
    have k2 := cut_way (S := S) (w := y.w) (k := min x.w.length y.w.length)
    have wn := way_ne (S := S) (v := x.w.take (min x.w.length y.w.length)) (w := y.w.take (min x.w.length y.w.length))
    refine fx_nx [some x.d, some y.d, none] S ((ex_itF (S1 := S) (by simp only [Fd.d]; simp [getV, c1])).trans exs_nil) ?_
    refine fx_nx [some x.d, some y.d, some (.int (min x.w.length y.w.length : Nat))] S (by simp only [Fd.d]; simp [getV, l1, l2, m]) ?_
    refine fx_rt _ S ?_ retD_self
    simp only [Fd.d, ex_ret, ev_pr, evs_cons, ev_var, getV, List.getElem?_cons_succ, List.getElem?_cons_zero, bOk, ev_con, evs_nil, p_idxT, at1, oS, k1, k2, wn, outE_ok, apt, if_pos e]
  · have c1 : ((x.k : Int) == (y.k : Int)) = false := beq_eq_false_iff_ne.mpr (by omega)
    simp only [Fd.d]
    exact fx_rt (.bl true) S ((ex_itT (S1 := S) (by simp [getV, c1])).trans (xs_rt (by simp))) (by rw [retD_self]; simp [apt, e])
/-! ### chosen -/
def oth (p : List Ln) (x : Fd) : Bool := mends x.r && !(mkF p x).eqv (partOf (trm p x.k) x.w)
def chs (p : List Ln) : List Fd → List Fd → List Fd
  | [], acc => acc
  | x :: xs, acc => chs p xs (if oth p x && acc.all (apt x) then acc ++ [x] else acc)
def chF (b : List Rul) (p : List Ln) : List Fd := chs p (fdP b p) []
theorem chs_len {p : List Ln} : ∀ {xs acc : List Fd}, (chs p xs acc).length ≤ acc.length + xs.length
  | [], acc => by simp [chs]
  | x :: xs, acc => by
    simp only [chs, List.length_cons]
    cases h : oth p x && acc.all (apt x) with
    | true =>
      have := chs_len (p := p) (xs := xs) (acc := acc ++ [x])
      rw [List.length_append, List.length_singleton] at this
      simp only [if_true]; omega
    | false =>
      have := chs_len (p := p) (xs := xs) (acc := acc)
      simp only [Bool.false_eq_true, if_false]; omega
theorem ne_mk {b : List Rul} (hb : BkN b) {p : List Ln} (hp : PrOk p) {x : Fd} (hx : FOk b p x) (hm : mends x.r = true) : pr .ne [mkF p x, partOf (trm p x.k) x.w] S = .ok (.bl (!(mkF p x).eqv (partOf (trm p x.k) x.w))) S := by
  have t1 := (mk_tm hb (fun y hy => (hp.t y hy).1) hx hm).1
  have t2 := tm1 (hp.t _ (trm_mem hx.k)).1 hx.w
  have e1 := fine_rs (S := S) (tm_fine t1)
  have e2 := fine_rs (S := S) (tm_fine t2)
  have d1 := tm_dp t1
  have d2 := tm_dp t2
  rw [p_ne (by rw [e1]; unfold dpL; omega) (by rw [e2]; unfold dpL; omega), e1, e2]
theorem mk_non {b : List Rul} (hb : BkN b) {p : List Ln} (hp : PrOk p) {x : Fd} (hx : FOk b p x) : decide (mkF p x = .non) = !mends x.r := by
  cases hm : mends x.r with
  | false => simp [mkF, hm]
  | true =>
    have t1 := (mk_tm hb (fun y hy => (hp.t y hy).1) hx hm).1
    have : mkF p x ≠ .non := fun e => by
      rw [e] at t1
      revert t1
      generalize 40 + 2 - x.w.length = j
      cases j <;> simp [tm]
    simpa using this
theorem apt_all {G : Nat → List D → Sto → Res D} (hg : ∀ (S : Sto) (x y : Fd), G 51 [x.d, y.d] S = .ok (.bl (apt x y)) S) {x : Fd} {acc : List Fd} (ha : acc.length ≤ szL) {o0 o1 o4 o5 : Option D} :
    ev G (.pr .all [.comp [6] [6] false .seq [.var 2] [] (.call 51 [.var 3, .var 6])]) [o0, o1, some (.loc S.length), some x.d, o4, o5, none] (S ++ [.lst (acc.map Fd.d)]) = .ok (.bl (acc.all (apt x))) (S ++ [.lst (acc.map Fd.d)]) := by
  have hc : ev G (.comp [6] [6] false .seq [.var 2] [] (.call 51 [.var 3, .var 6])) [o0, o1, some (.loc S.length), some x.d, o4, o5, none] (S ++ [.lst (acc.map Fd.d)]) = .ok (.lst (acc.map fun y => D.bl (apt x y))) (S ++ [.lst (acc.map Fd.d)]) :=
    ev_mapA (f := Fd.d) (ds := [.loc S.length]) (l := some S.length) (by simp [getV]) (it_loc sto_at) ha (by simp [chk]) fun y hy => ⟨[o0, o1, some (.loc S.length), some x.d, o4, o5, some y.d], rfl, by simp [getV, hg]⟩
  rw [ev_pr, evs_cons, hc]
  simp only [bOk, evs_nil]
  rw [p_all (boolsD_map (apt x) acc)]
  simp
theorem ch_loop (L : Lib2 P) (h51 : P 51 = some F_are_apart) (hn : 60 ≤ n) {b : List Rul} (hb : BkN b) {p : List Ln} (hp : PrOk p) {kc : Sto → Bool} (hkc : ∀ S, kc S = true) : ∀ (xs acc : List Fd) (a3 a4 a5 : Option D), (∀ x ∈ xs, FOk b p x) → acc.length + xs.length ≤ szL →
    ∃ a3' a4' a5', forL (fun d s => bindT [3] false d s) (fun s S => exs (run P n) [.set 4 (.call 47 [.var 0, .var 1, .var 3]),
    .set 5 (.and (.pr (.isntc (.non)) [.var 4]) (.pr .ne [.var 4, .call 15 [.pr .idx [.pr .idx [.var 0, .pr .idx [.var 3, .con (.int 0)]], .con (.int 0)], .pr .idx [.var 3, .con (.int 1)]]])),
    .ite (.and (.var 5) (.pr .all [.comp [6] [6] false .seq [.var 2] [] (.call 51 [.var 3, .var 6])])) [.expr (.mth .app (.var 2) [.var 3])] []] s S) kc (xs.map Fd.d) [some (prgD p), some (bookD b), some (.loc S.length), a3, a4, a5, none] (S ++ [.lst (acc.map Fd.d)])
      = .nx [some (prgD p), some (bookD b), some (.loc S.length), a3', a4', a5', none] (S ++ [.lst ((chs p xs acc).map Fd.d)])
  | [], acc, a3, a4, a5, _, _ => ⟨a3, a4, a5, by simp [forL, chs]⟩
  | x :: xs, acc, a3, a4, a5, h, hs => by
    rw [List.length_cons] at hs
    have hx := h x List.mem_cons_self
    have rm := r_made (S := S ++ [.lst (acc.map Fd.d)]) L.toLib L.h41 L.h47 hn hb hp hx
    have pi := prg_at (S := S ++ [.lst (acc.map Fd.d)]) (line_of hx.k)
    have pa := r_part (S := S ++ [.lst (acc.map Fd.d)]) L.h13 L.h15 (n := n) (by omega) (hp.t _ (trm_mem hx.k)).1 hx.w
    have mn := mk_non hb hp hx
    have s1 : ex (run P n) (.set 4 (.call 47 [.var 0, .var 1, .var 3])) [some (prgD p), some (bookD b), some (.loc S.length), some x.d, a4, a5, none] (S ++ [.lst (acc.map Fd.d)]) = .nx [some (prgD p), some (bookD b), some (.loc S.length), some x.d, some (mkF p x), a5, none] (S ++ [.lst (acc.map Fd.d)]) := by simp [getV, rm]
    have s2 : ex (run P n) (.set 5 (.and (.pr (.isntc (.non)) [.var 4]) (.pr .ne [.var 4, .call 15 [.pr .idx [.pr .idx [.var 0, .pr .idx [.var 3, .con (.int 0)]], .con (.int 0)], .pr .idx [.var 3, .con (.int 1)]]]))) [some (prgD p), some (bookD b), some (.loc S.length), some x.d, some (mkF p x), a5, none] (S ++ [.lst (acc.map Fd.d)]) = .nx [some (prgD p), some (bookD b), some (.loc S.length), some x.d, some (mkF p x), some (.bl (oth p x)), none] (S ++ [.lst (acc.map Fd.d)]) := by
      cases hm : mends x.r with
      | false =>
        rw [hm] at mn
        simp [getV, mn, oth, hm]
      | true =>
        rw [hm] at mn
        have nm := ne_mk (S := S ++ [.lst (acc.map Fd.d)]) hb hp hx hm
        simp only [Ln.d] at pi
        simp only [Fd.d]
        simp [getV, mn, pi, pa, nm, oth, hm]
    have aa := apt_all (G := run P n) (S := S) (fun S x y => r_apart h51 (by omega)) (x := x) (acc := acc) (by omega) (o0 := some (prgD p)) (o1 := some (bookD b)) (o4 := some (mkF p x)) (o5 := some (.bl (oth p x)))
    have c3 : tst (ev (run P n) (.and (.var 5) (.pr .all [.comp [6] [6] false .seq [.var 2] [] (.call 51 [.var 3, .var 6])])) [some (prgD p), some (bookD b), some (.loc S.length), some x.d, some (mkF p x), some (.bl (oth p x)), none] (S ++ [.lst (acc.map Fd.d)])) = .ok (oth p x && acc.all (apt x)) (S ++ [.lst (acc.map Fd.d)]) := by
      cases ho : oth p x with
      | false => simp [getV]
      | true =>
        rw [ho] at aa
        simp only [ev_and, ev_var, getV, List.getElem?_cons_succ, List.getElem?_cons_zero, bOk, tr_bl, aa, tst_ok, Bool.true_and, oS]
    rw [List.map_cons]
    cases hc : oth p x && acc.all (apt x) with
    | false =>
      rw [hc] at c3
      obtain ⟨a3', a4', a5', ih⟩ := ch_loop L h51 hn hb hp hkc xs acc (some x.d) (some (mkF p x)) (some (.bl (oth p x))) (fun y hy => h y (List.mem_cons_of_mem _ hy)) (by omega)
      refine ⟨a3', a4', a5', forL_nx [some (prgD p), some (bookD b), some (.loc S.length), some x.d, some (mkF p x), some (.bl (oth p x)), none] _ rfl ((xs_nx s1).trans ((xs_nx s2).trans ((xs_nx ((ex_itF c3).trans exs_nil)).trans exs_nil))) (hkc _) ?_⟩
      rw [ih]; simp [chs, hc]
    | true =>
      rw [hc] at c3
      obtain ⟨a3', a4', a5', ih⟩ := ch_loop L h51 hn hb hp hkc xs (acc ++ [x]) (some x.d) (some (mkF p x)) (some (.bl (oth p x))) (fun y hy => h y (List.mem_cons_of_mem _ hy)) (by simp; omega)
      have ap := mid_app (S := S) (acc := acc.map Fd.d) (M := []) (x := x.d) (by rw [List.length_map]; omega)
      have oa := okA2 (S := S) (acc := acc.map Fd.d) (M := [])
      have s3 : ex (run P n) (.expr (.mth .app (.var 2) [.var 3])) [some (prgD p), some (bookD b), some (.loc S.length), some x.d, some (mkF p x), some (.bl (oth p x)), none] (S ++ [.lst (acc.map Fd.d)]) = .nx [some (prgD p), some (bookD b), some (.loc S.length), some x.d, some (mkF p x), some (.bl (oth p x)), none] (S ++ [.lst ((acc ++ [x]).map Fd.d)]) := by
        simp only [ex_expr, ev_mth, ev_var, getV, List.getElem?_cons_succ, List.getElem?_cons_zero, bOk, oa, if_true, evs_cons, evs_nil, ap, outE_ok, List.map_append, List.map_cons, List.map_nil]
      refine ⟨a3', a4', a5', forL_nx [some (prgD p), some (bookD b), some (.loc S.length), some x.d, some (mkF p x), some (.bl (oth p x)), none] _ rfl ((xs_nx s1).trans ((xs_nx s2).trans ((xs_nx ((ex_itT c3).trans ((xs_nx s3).trans exs_nil))).trans exs_nil))) (hkc _) ?_⟩
      rw [ih]; simp [chs, hc]
theorem fd_len {b : List Rul} (hb : BkN b) {p : List Ln} (hp : PrOk p) : (fdP b p).length ≤ 16000000 := by
  have la := afP_len hb.len (p := p) (k := 0)
  have lp := hp.sz
  have : (fdP b p).length ≤ (afP b 0 p).length := List.length_filter_le _ _
  omega
theorem r_chosen (L : Lib2 P) (h51 : P 51 = some F_are_apart) (h : P 52 = some F_chosen) (hn : 61 ≤ n) {b : List Rul} (hb : BkN b) {p : List Ln} (hp : PrOk p) : run P n 52 [prgD p, bookD b] S = .ok (.tup ((chF b p).map Fd.d)) S := by
  obtain ⟨n, rfl⟩ : ∃ k, n = k + 1 := ⟨n - 1, by omega⟩
  have fl_ := fd_len hb hp
  have rf := r_found (S := S ++ [.lst []]) L.toLibF L.h43 L.h44 L.h45 L.h46 (n := n) (by omega) hb hp
  obtain ⟨a3', a4', a5', lp⟩ := ch_loop (S := S) L h51 (n := n) (by omega) hb hp (kc := chk ((fdP b p).map Fd.d) none) (fun _ => rfl) (fdP b p) [] none none none (fun x hx => fd_ok hx) (by simp [szL]; omega)
  rw [run_e h _ _ [some _, some _, none, none, none, none, none] rfl rfl]
  refine fx_nx [some (prgD p), some (bookD b), some (.loc S.length), none, none, none, none] (S ++ [.lst []]) (by simp) ?_
  refine fx_nx [some (prgD p), some (bookD b), some (.loc S.length), a3', a4', a5', none] (S ++ [.lst ((chs p (fdP b p) []).map Fd.d)]) (ex_forE (ds := [.tup ((fdP b p).map Fd.d)]) (S1 := S ++ [.lst []]) (xs := (fdP b p).map Fd.d) (l := none) (by simp [getV, rf]) rfl lp) ?_
  refine fx_rt (.tup ((chF b p).map Fd.d)) (S ++ [.lst ((chs p (fdP b p) []).map Fd.d)]) (by simp [getV, pr, rs, chF]) ?_
  exact ret_pure (by simp only [pure_tup]; exact Fds_pure _) _
/-! ### the law's chosen -/
theorem near_loop {G : Nat → List D → Sto → Res D} {K : Sto} {x : Fd} {o0 o1 o2 o4 : Option D} {kc : Sto → Bool} (hkc : ∀ M, kc (K ++ M) = true) : ∀ (ys near : List Fd) (a6 a7 : Option D), near.length + ys.length ≤ szL →
    ∃ a6' a7', forL (fun d s => bindT [6] false d s) (fun s S => exs G [.set 7 (.pr .min2 [.pr .len [.pr .idx [.var 3, .con (.int 1)]], .pr .len [.pr .idx [.var 6, .con (.int 1)]]]),
    .ite (.and (.pr .eq [.pr .idx [.var 3, .con (.int 0)], .pr .idx [.var 6, .con (.int 0)]]) (.pr .eq [.pr (.slc false true) [.pr .idx [.var 3, .con (.int 1)], .var 7], .pr (.slc false true) [.pr .idx [.var 6, .con (.int 1)], .var 7]])) [.expr (.mth .app (.var 5) [.var 6])] []] s S) kc (ys.map Fd.d) [o0, o1, o2, some x.d, o4, some (.loc K.length), a6, a7] (K ++ [.lst (near.map Fd.d)])
      = .nx [o0, o1, o2, some x.d, o4, some (.loc K.length), a6', a7'] (K ++ [.lst ((near ++ ys.filter fun y => !apt x y).map Fd.d)])
  | [], near, a6, a7, _ => ⟨a6, a7, by simp [forL]⟩
  | y :: ys, near, a6, a7, hs => by
    rw [List.length_cons] at hs
    have l1 := way_len (S := K ++ [.lst (near.map Fd.d)]) (w := x.w)
    have l2 := way_len (S := K ++ [.lst (near.map Fd.d)]) (w := y.w)
    have m := min_nat (S := K ++ [.lst (near.map Fd.d)]) (a := x.w.length) (b := y.w.length)
    have s1 : ex G (.set 7 (.pr .min2 [.pr .len [.pr .idx [.var 3, .con (.int 1)]], .pr .len [.pr .idx [.var 6, .con (.int 1)]]])) [o0, o1, o2, some x.d, o4, some (.loc K.length), some y.d, a7] (K ++ [.lst (near.map Fd.d)]) = .nx [o0, o1, o2, some x.d, o4, some (.loc K.length), some y.d, some (.int (min x.w.length y.w.length : Nat))] (K ++ [.lst (near.map Fd.d)]) := by
      simp only [Fd.d]
      simp only [ex_set, ev_pr, evs_cons, ev_var, getV, List.getElem?_cons_succ, List.getElem?_cons_zero, bOk, ev_con, evs_nil, p_idxT, at1, oS, l1, l2, m, outE_ok]
      rfl
    have c2 : tst (ev G (.and (.pr .eq [.pr .idx [.var 3, .con (.int 0)], .pr .idx [.var 6, .con (.int 0)]]) (.pr .eq [.pr (.slc false true) [.pr .idx [.var 3, .con (.int 1)], .var 7], .pr (.slc false true) [.pr .idx [.var 6, .con (.int 1)], .var 7]])) [o0, o1, o2, some x.d, o4, some (.loc K.length), some y.d, some (.int (min x.w.length y.w.length : Nat))] (K ++ [.lst (near.map Fd.d)])) = .ok (!apt x y) (K ++ [.lst (near.map Fd.d)]) := by
      have k1 := cut_way (S := K ++ [.lst (near.map Fd.d)]) (w := x.w) (k := min x.w.length y.w.length)
      have k2 := cut_way (S := K ++ [.lst (near.map Fd.d)]) (w := y.w) (k := min x.w.length y.w.length)
      have we := way_eq (S := K ++ [.lst (near.map Fd.d)]) (v := x.w.take (min x.w.length y.w.length)) (w := y.w.take (min x.w.length y.w.length))
      simp only [Fd.d]
      by_cases e : x.k = y.k
      · have c1 : ((x.k : Int) == (y.k : Int)) = true := by simp [e]
        simp only [ev_and, ev_pr, evs_cons, ev_var, getV, List.getElem?_cons_succ, List.getElem?_cons_zero, bOk, ev_con, evs_nil, p_idxT, at0, at1, oS, p_eqI, c1, tr_bl, k1, k2, we, tst_ok, apt, if_pos e, Bool.not_not]
      · have c1 : ((x.k : Int) == (y.k : Int)) = false := beq_eq_false_iff_ne.mpr (by omega)
        simp only [ev_and, ev_pr, evs_cons, ev_var, getV, List.getElem?_cons_succ, List.getElem?_cons_zero, bOk, ev_con, evs_nil, p_idxT, at0, at1, oS, p_eqI, c1, tr_bl, tst_ok, apt, if_neg e, Bool.not_true]
    rw [List.map_cons]
    cases ha : apt x y with
    | true =>
      rw [ha] at c2
      obtain ⟨a6', a7', ih⟩ := near_loop hkc (G := G) (x := x) (o0 := o0) (o1 := o1) (o2 := o2) (o4 := o4) ys near (some y.d) (some (.int (min x.w.length y.w.length : Nat))) (by omega)
      refine ⟨a6', a7', forL_nx [o0, o1, o2, some x.d, o4, some (.loc K.length), some y.d, some (.int (min x.w.length y.w.length : Nat))] _ rfl ((xs_nx s1).trans ((xs_nx ((ex_itF c2).trans exs_nil)).trans exs_nil)) (hkc _) ?_⟩
      rw [ih, List.filter_cons_of_neg (by simp [ha])]
    | false =>
      rw [ha] at c2
      obtain ⟨a6', a7', ih⟩ := near_loop hkc (G := G) (x := x) (o0 := o0) (o1 := o1) (o2 := o2) (o4 := o4) ys (near ++ [y]) (some y.d) (some (.int (min x.w.length y.w.length : Nat))) (by simp; omega)
      have ap := mid_app (S := K) (acc := near.map Fd.d) (M := []) (x := y.d) (by rw [List.length_map]; omega)
      have oa := okA2 (S := K) (acc := near.map Fd.d) (M := [])
      have s3 : ex G (.expr (.mth .app (.var 5) [.var 6])) [o0, o1, o2, some x.d, o4, some (.loc K.length), some y.d, some (.int (min x.w.length y.w.length : Nat))] (K ++ [.lst (near.map Fd.d)]) = .nx [o0, o1, o2, some x.d, o4, some (.loc K.length), some y.d, some (.int (min x.w.length y.w.length : Nat))] (K ++ [.lst ((near ++ [y]).map Fd.d)]) := by
        simp only [ex_expr, ev_mth, ev_var, getV, List.getElem?_cons_succ, List.getElem?_cons_zero, bOk, oa, if_true, evs_cons, evs_nil, ap, outE_ok, List.map_append, List.map_cons, List.map_nil]
      refine ⟨a6', a7', forL_nx [o0, o1, o2, some x.d, o4, some (.loc K.length), some y.d, some (.int (min x.w.length y.w.length : Nat))] _ rfl ((xs_nx s1).trans ((xs_nx ((ex_itT c2).trans ((xs_nx s3).trans exs_nil))).trans exs_nil)) (hkc _) ?_⟩
      rw [ih, List.filter_cons_of_pos (by simp [ha])]
      simp
theorem all_emp {x : Fd} (acc : List Fd) : (acc.filter fun y => !apt x y).isEmpty = acc.all (apt x) := by
  rw [filter_emp]
  induction acc with
  | nil => rfl
  | cons y ys ih => simp only [List.any_cons, List.all_cons, Bool.not_or, ih, Bool.not_not]
theorem lch_loop (L : Law2 P) (hn : 60 ≤ n) {b : List Rul} (hb : BkN b) {p : List Ln} (hp : PrOk p) {kc : Sto → Bool} (hkc : ∀ S, kc S = true) : ∀ (xs acc : List Fd) (M : Sto) (a3 a4 a5 a6 a7 : Option D), (∀ x ∈ xs, FOk b p x) → acc.length + xs.length ≤ szL →
    ∃ a3' a4' a5' a6' a7' M', forL (fun d s => bindT [3] false d s) (fun s S => exs (run P n) [.set 4 (.call 58 [.var 0, .var 1, .var 3]),
    .setM 5 (.lst []),
    .for [6] false .seq [.var 2] [.set 7 (.pr .min2 [.pr .len [.pr .idx [.var 3, .con (.int 1)]], .pr .len [.pr .idx [.var 6, .con (.int 1)]]]),
    .ite (.and (.pr .eq [.pr .idx [.var 3, .con (.int 0)], .pr .idx [.var 6, .con (.int 0)]]) (.pr .eq [.pr (.slc false true) [.pr .idx [.var 3, .con (.int 1)], .var 7], .pr (.slc false true) [.pr .idx [.var 6, .con (.int 1)], .var 7]])) [.expr (.mth .app (.var 5) [.var 6])] []],
    .ite (.and (.pr (.isntc (.non)) [.var 4]) (.and (.pr .ne [.var 4, .call 33 [.pr .idx [.pr .idx [.var 0, .pr .idx [.var 3, .con (.int 0)]], .con (.int 0)], .pr .idx [.var 3, .con (.int 1)]]]) (.pr .eq [.var 5, .lst []]))) [.expr (.mth .app (.var 2) [.var 3])] []] s S) kc (xs.map Fd.d) [some (prgD p), some (bookD b), some (.loc S.length), a3, a4, a5, a6, a7] (S ++ (.lst (acc.map Fd.d) :: M))
      = .nx [some (prgD p), some (bookD b), some (.loc S.length), a3', a4', a5', a6', a7'] (S ++ (.lst ((chs p xs acc).map Fd.d) :: M'))
  | [], acc, M, a3, a4, a5, a6, a7, _, _ => ⟨a3, a4, a5, a6, a7, M, by simp [forL, chs]⟩
  | x :: xs, acc, M, a3, a4, a5, a6, a7, h, hs => by
    rw [List.length_cons] at hs
    have hx := h x List.mem_cons_self
    have rm := r_lmakes (S := S ++ (.lst (acc.map Fd.d) :: M)) L.toLawL L.h58 hn hb hp hx
    have mn := mk_non hb hp hx
    have s1 : ex (run P n) (.set 4 (.call 58 [.var 0, .var 1, .var 3])) [some (prgD p), some (bookD b), some (.loc S.length), some x.d, a4, a5, a6, a7] (S ++ (.lst (acc.map Fd.d) :: M)) = .nx [some (prgD p), some (bookD b), some (.loc S.length), some x.d, some (mkF p x), a5, a6, a7] (S ++ (.lst (acc.map Fd.d) :: M)) := by simp [getV, rm]
    have s2 : ex (run P n) (.setM 5 (.lst [])) [some (prgD p), some (bookD b), some (.loc S.length), some x.d, some (mkF p x), a5, a6, a7] (S ++ (.lst (acc.map Fd.d) :: M)) = .nx [some (prgD p), some (bookD b), some (.loc S.length), some x.d, some (mkF p x), some (.loc (S ++ (.lst (acc.map Fd.d) :: M)).length), a6, a7] ((S ++ (.lst (acc.map Fd.d) :: M)) ++ [.lst []]) := by
      rw [ex_setM, ev_lst]; rfl
    have at2_ : ∀ M2, ((S ++ (.lst (acc.map Fd.d) :: M)) ++ M2)[S.length]? = some (.lst (acc.map Fd.d)) := fun M2 => by simp
    obtain ⟨b6, b7, lp⟩ := near_loop (G := run P n) (K := S ++ (.lst (acc.map Fd.d) :: M)) (x := x) (o0 := some (prgD p)) (o1 := some (bookD b)) (o2 := some (.loc S.length)) (o4 := some (mkF p x)) (kc := chk (acc.map Fd.d) (some S.length)) (fun M2 => by simp only [chk, at2_ M2]; simp) acc [] a6 a7 (by simp; omega)
    generalize hK : (S ++ (.lst (acc.map Fd.d) :: M)).length = K at *
    have s3 := ex_forE (G := run P n) (tg := [6]) (un := false) (k := .seq) (srcs := [.var 2]) (s := [some (prgD p), some (bookD b), some (.loc S.length), some x.d, some (mkF p x), some (.loc K), a6, a7]) (S := (S ++ (.lst (acc.map Fd.d) :: M)) ++ [.lst []]) (ds := [.loc S.length]) (S1 := (S ++ (.lst (acc.map Fd.d) :: M)) ++ [.lst []]) (xs := acc.map Fd.d) (l := some S.length) (by simp [getV]) (it_loc (at2_ _)) lp
    rw [List.nil_append] at s3
    have es : (S ++ (.lst (acc.map Fd.d) :: M)) ++ [.lst ((acc.filter fun y => !apt x y).map Fd.d)] = S ++ (.lst (acc.map Fd.d) :: (M ++ [.lst ((acc.filter fun y => !apt x y).map Fd.d)])) := by simp
    have atK : ((S ++ (.lst (acc.map Fd.d) :: M)) ++ [.lst ((acc.filter fun y => !apt x y).map Fd.d)])[K]? = some (.lst ((acc.filter fun y => !apt x y).map Fd.d)) := by rw [← hK]; exact sto_at
    have pi := prg_at (S := (S ++ (.lst (acc.map Fd.d) :: M)) ++ [.lst ((acc.filter fun y => !apt x y).map Fd.d)]) (line_of hx.k)
    have pa := r_lpart (S := (S ++ (.lst (acc.map Fd.d) :: M)) ++ [.lst ((acc.filter fun y => !apt x y).map Fd.d)]) L.h33 (n := n) (by omega) (hp.t _ (trm_mem hx.k)).1 hx.w
    have pe : pr .eq [.loc K, .lst []] ((S ++ (.lst (acc.map Fd.d) :: M)) ++ [.lst ((acc.filter fun y => !apt x y).map Fd.d)]) = .ok (.bl (acc.all (apt x))) ((S ++ (.lst (acc.map Fd.d) :: M)) ++ [.lst ((acc.filter fun y => !apt x y).map Fd.d)]) := by
      have dq : D.dps ((acc.filter fun y => !apt x y).map Fd.d) ≤ 100 := dps_le.mpr fun d hd => (Fds_neat _ d hd).2
      rw [p_eq (by rw [rs_loc atK]; simp [dpL]; omega) (by simp [dpL]), rs_loc atK, rs_lst, ← all_emp]
      cases (acc.filter fun y => !apt x y) <;> simp [D.eqv, D.eqvs]
    have c4 : tst (ev (run P n) (.and (.pr (.isntc (.non)) [.var 4]) (.and (.pr .ne [.var 4, .call 33 [.pr .idx [.pr .idx [.var 0, .pr .idx [.var 3, .con (.int 0)]], .con (.int 0)], .pr .idx [.var 3, .con (.int 1)]]]) (.pr .eq [.var 5, .lst []]))) [some (prgD p), some (bookD b), some (.loc S.length), some x.d, some (mkF p x), some (.loc K), b6, b7] ((S ++ (.lst (acc.map Fd.d) :: M)) ++ [.lst ((acc.filter fun y => !apt x y).map Fd.d)])) = .ok (oth p x && acc.all (apt x)) ((S ++ (.lst (acc.map Fd.d) :: M)) ++ [.lst ((acc.filter fun y => !apt x y).map Fd.d)]) := by
      generalize ((S ++ (.lst (acc.map Fd.d) :: M)) ++ [.lst ((acc.filter fun y => !apt x y).map Fd.d)]) = SS at pi pa pe ⊢
      cases hm : mends x.r with
      | false =>
        rw [hm] at mn
        simp [getV, mn, oth, hm]
      | true =>
        rw [hm] at mn
        have nm := ne_mk (S := SS) hb hp hx hm
        simp only [Ln.d] at pi
        simp only [Fd.d]
        cases ho : (mkF p x).eqv (partOf (trm p x.k) x.w) <;> rw [ho] at nm <;> simp [getV, mn, pi, pa, nm, oth, hm, ho, pe]
    rw [List.map_cons]
    cases hc : oth p x && acc.all (apt x) with
    | false =>
      rw [hc, es] at c4
      rw [es] at s3
      obtain ⟨a3', a4', a5', a6', a7', M', ih⟩ := lch_loop L hn hb hp hkc xs acc (M ++ [.lst ((acc.filter fun y => !apt x y).map Fd.d)]) (some x.d) (some (mkF p x)) (some (.loc K)) b6 b7 (fun y hy => h y (List.mem_cons_of_mem _ hy)) (by omega)
      refine ⟨a3', a4', a5', a6', a7', M', forL_nx [some (prgD p), some (bookD b), some (.loc S.length), some x.d, some (mkF p x), some (.loc K), b6, b7] _ rfl ((xs_nx s1).trans ((xs_nx s2).trans ((xs_nx s3).trans ((xs_nx ((ex_itF c4).trans exs_nil)).trans exs_nil)))) (hkc _) ?_⟩
      rw [ih]; simp [chs, hc]
    | true =>
      rw [hc, es] at c4
      rw [es] at s3
      obtain ⟨a3', a4', a5', a6', a7', M', ih⟩ := lch_loop L hn hb hp hkc xs (acc ++ [x]) (M ++ [.lst ((acc.filter fun y => !apt x y).map Fd.d)]) (some x.d) (some (mkF p x)) (some (.loc K)) b6 b7 (fun y hy => h y (List.mem_cons_of_mem _ hy)) (by simp; omega)
      have ap := mid_app (S := S) (acc := acc.map Fd.d) (M := M ++ [.lst ((acc.filter fun y => !apt x y).map Fd.d)]) (x := x.d) (by rw [List.length_map]; omega)
      have oa := okA2 (S := S) (acc := acc.map Fd.d) (M := M ++ [.lst ((acc.filter fun y => !apt x y).map Fd.d)])
      have s5 : ex (run P n) (.expr (.mth .app (.var 2) [.var 3])) [some (prgD p), some (bookD b), some (.loc S.length), some x.d, some (mkF p x), some (.loc K), b6, b7] (S ++ (.lst (acc.map Fd.d) :: (M ++ [.lst ((acc.filter fun y => !apt x y).map Fd.d)]))) = .nx [some (prgD p), some (bookD b), some (.loc S.length), some x.d, some (mkF p x), some (.loc K), b6, b7] (S ++ (.lst ((acc ++ [x]).map Fd.d) :: (M ++ [.lst ((acc.filter fun y => !apt x y).map Fd.d)]))) := by
        simp only [ex_expr, ev_mth, ev_var, getV, List.getElem?_cons_succ, List.getElem?_cons_zero, bOk, oa, if_true, evs_cons, evs_nil, ap, outE_ok]
        simp only [List.map_append, List.map_cons, List.map_nil]
      refine ⟨a3', a4', a5', a6', a7', M', forL_nx [some (prgD p), some (bookD b), some (.loc S.length), some x.d, some (mkF p x), some (.loc K), b6, b7] _ rfl ((xs_nx s1).trans ((xs_nx s2).trans ((xs_nx s3).trans ((xs_nx ((ex_itT c4).trans ((xs_nx s5).trans exs_nil))).trans exs_nil)))) (hkc _) ?_⟩
      rw [ih]; simp [chs, hc]
theorem r_lchosen (L : Law2 P) (h : P 60 = some F_law_chosen) (hn : 61 ≤ n) {b : List Rul} (hb : BkN b) {p : List Ln} (hp : PrOk p) : run P n 60 [prgD p, bookD b] S = .ok (.lst ((chF b p).map Fd.d)) S := by
  obtain ⟨n, rfl⟩ : ∃ k, n = k + 1 := ⟨n - 1, by omega⟩
  have fl_ := fd_len hb hp
  have rf := r_lfound (S := S ++ [.lst []]) L.toLawM L.h55 L.h56 L.h57 (n := n) (by omega) hb hp
  obtain ⟨a3', a4', a5', a6', a7', M', lp⟩ := lch_loop (S := S) L (n := n) (by omega) hb hp (kc := chk ((fdP b p).map Fd.d) none) (fun _ => rfl) (fdP b p) [] [] none none none none none (fun x hx => fd_ok hx) (by simp [szL]; omega)
  rw [run_e h _ _ [some _, some _, none, none, none, none, none, none] rfl rfl]
  refine fx_nx [some (prgD p), some (bookD b), some (.loc S.length), none, none, none, none, none] (S ++ [.lst []]) (by simp) ?_
  refine fx_nx [some (prgD p), some (bookD b), some (.loc S.length), a3', a4', a5', a6', a7'] (S ++ (.lst ((chs p (fdP b p) []).map Fd.d) :: M')) (ex_forE (ds := [.lst ((fdP b p).map Fd.d)]) (S1 := S ++ [.lst []]) (xs := (fdP b p).map Fd.d) (l := none) (by simp [getV, rf]) rfl lp) ?_
  refine fx_rt (.loc S.length) (S ++ (.lst ((chs p (fdP b p) []).map Fd.d) :: M')) (by simp [getV]) ?_
  exact ret_lst (j := 0) rfl (Fds_pure _)
end Eng

/-! B17 -/
set_option linter.all false
set_option maxRecDepth 100000
set_option maxHeartbeats 1000000
/-! Programs mended once. -/
namespace Eng
variable {P : Nat → Option Fn} {S : Sto} {n : Nat}

/-! ### parts apart -/
theorem prt_apart : ∀ {v w : List Nat} {t e f d : D}, prt t v = some e → prt t w = some f → w.take (min w.length v.length) ≠ v.take (min w.length v.length) → prt (ptt t v d) w = some f
  | [], w, t, e, f, d, _, _, h => absurd (by simp) h
  | a :: v, [], t, e, f, d, _, _, h => absurd (by simp) h
  | a :: v, b :: w, t, e, f, d, h1, h2, h => by
    obtain ⟨p, g1, g2⟩ := prt_cons h1
    obtain ⟨q, g3, g4⟩ := prt_cons h2
    cases t with
    | tup xs =>
      cases xs with
      | nil => simp [kids] at g1
      | cons y ps =>
        simp only [kids] at g1 g3
        have ha := (List.getElem?_eq_some_iff.mp g1).1
        have eq : ps.getD a .non = p := by rw [List.getD_eq_getElem?_getD, g1]; rfl
        simp only [ptt, eq, prt, kids]
        by_cases e : a = b
        · subst e
          rw [g1] at g3
          cases g3
          rw [List.getElem?_set_self ha]
          simp only
          refine prt_apart g2 g4 fun e => h ?_
          simp only [List.length_cons, Nat.succ_min_succ, List.take_succ_cons, e]
        · rw [List.getElem?_set_ne e, g3]
          exact g4
    | _ => simp [kids] at g1
theorem trm_lay {p : List Ln} {x : Fd} {d : D} {k : Nat} (hx : x.k < p.length) : trm (layF p x d) k = if x.k = k then ptt (trm p x.k) x.w d else trm p k := by
  unfold layF
  by_cases e : x.k = k
  · subst e
    rw [if_pos rfl]
    exact (trm_of (by rw [List.getElem?_set_self hx])).1
  · rw [if_neg e]
    unfold trm
    rw [List.getElem?_set_ne e]
theorem hsh_lay {p : List Ln} {x : Fd} {d : D} {k : Nat} (hx : x.k < p.length) : hsh (layF p x d) k = hsh p k := by
  unfold layF
  by_cases e : x.k = k
  · subst e
    exact (trm_of (by rw [List.getElem?_set_self hx])).2
  · unfold hsh
    rw [List.getElem?_set_ne e]
theorem lay_len {p : List Ln} {x : Fd} {d : D} : (layF p x d).length = p.length := by simp [layF]
/-! ### what chosen ones are -/
theorem chs_ok {p : List Ln} {Q : Fd → Prop} : ∀ {xs acc : List Fd}, (∀ x ∈ xs, Q x) → (∀ x ∈ acc, Q x ∧ oth p x = true) → acc.Pairwise (fun x y => apt y x = true) →
    (∀ x ∈ chs p xs acc, Q x ∧ oth p x = true) ∧ (chs p xs acc).Pairwise (fun x y => apt y x = true)
  | [], acc, _, h2, h3 => ⟨h2, h3⟩
  | x :: xs, acc, h1, h2, h3 => by
    have h1' : ∀ y ∈ xs, Q y := fun y hy => h1 y (List.mem_cons_of_mem _ hy)
    simp only [chs]
    cases h : oth p x && acc.all (apt x) with
    | true =>
      rw [Bool.and_eq_true, List.all_eq_true] at h
      simp only [if_true]
      refine chs_ok h1' (fun y hy => ?_) ?_
      · rcases List.mem_append.mp hy with hy | hy
        · exact h2 y hy
        · rw [List.mem_singleton] at hy; subst hy
          exact ⟨h1 y List.mem_cons_self, h.1⟩
      · rw [List.pairwise_append]
        refine ⟨h3, by simp, fun a ha c hc => ?_⟩
        rw [List.mem_singleton] at hc; subst hc
        exact h.2 a ha
    | false =>
      simp only [Bool.false_eq_true, if_false]
      exact chs_ok h1' h2 h3
theorem ch_ok {b : List Rul} {p : List Ln} : (∀ x ∈ chF b p, x ∈ fdP b p ∧ oth p x = true) ∧ (chF b p).Pairwise (fun x y => apt y x = true) :=
  chs_ok (fun x hx => hx) (by simp) (by simp)
theorem oth_mends {p : List Ln} {x : Fd} (h : oth p x = true) : mends x.r = true := by
  simp only [oth, Bool.and_eq_true] at h; exact h.1
/-! ### once -/
def onc (p : List Ln) (xs : List Fd) (q : List Ln) : List Ln := xs.foldl (fun q x => layF q x (mkF p x)) q
def oncF (b : List Rul) (p : List Ln) : List Ln := onc p (chF b p) p
/-- a program on its way, with what is still to be laid -/
structure OkQ (b : List Rul) (l : Nat) (p q : List Ln) (xs : List Fd) : Prop where
  len : q.length = p.length
  tm : ∀ k, k < p.length → tm (l + 2) (trm q k) = true
  hsh : ∀ k, hsh q k = hsh p k
  ok : ∀ x ∈ xs, FOk b p x ∧ mends x.r = true ∧ prt (trm q x.k) x.w = some (partOf (trm p x.k) x.w)
  pw : xs.Pairwise (fun x y => apt y x = true)
theorem OkQ.next {b : List Rul} (hb : BkN b) {l : Nat} {p q : List Ln} (hp : ∀ x ∈ p, Eng.tm l x.t = true) {x : Fd} {xs : List Fd} (h : OkQ b l p q (x :: xs)) : OkQ b l p (layF q x (mkF p x)) xs := by
  obtain ⟨hx, hm, hw⟩ := h.ok x List.mem_cons_self
  have hk : x.k < q.length := by rw [h.len]; exact hx.k
  obtain ⟨t1, t2⟩ := mk_tm hb hp hx hm
  have pw := h.pw
  rw [List.pairwise_cons] at pw
  refine ⟨by rw [lay_len, h.len], fun k hk2 => ?_, fun k => by rw [hsh_lay hk, h.hsh], fun y hy => ?_, pw.2⟩
  · rw [trm_lay hk]
    split
    · exact tm_put (h.tm _ hx.k) hw t1 (by omega) (by omega)
    · exact h.tm k hk2
  · obtain ⟨hy1, hy2, hy3⟩ := h.ok y (List.mem_cons_of_mem _ hy)
    refine ⟨hy1, hy2, ?_⟩
    rw [trm_lay hk]
    split
    · rename_i e
      have ha := pw.1 y hy
      rw [← e] at hy3 ⊢
      refine prt_apart hw hy3 ?_
      simp only [apt, if_pos e.symm] at ha
      simpa using ha
    · exact hy3
theorem OkQ.init {b : List Rul} {l : Nat} {p : List Ln} (hp : ∀ x ∈ p, Eng.tm l x.t = true) : OkQ b l p p (chF b p) := by
  obtain ⟨c1, c2⟩ := ch_ok (b := b) (p := p)
  refine ⟨rfl, fun k hk => tm_le (by omega) (hp _ (trm_mem hk)), fun _ => rfl, fun x hx => ?_, c2⟩
  obtain ⟨h1, h2⟩ := c1 x hx
  exact ⟨fd_ok h1, oth_mends h2, (fd_ok h1).w⟩
theorem OkQ.all {b : List Rul} (hb : BkN b) {l : Nat} {p : List Ln} (hp : ∀ x ∈ p, Eng.tm l x.t = true) : ∀ {xs : List Fd} {q : List Ln}, OkQ b l p q xs → OkQ b l p (onc p xs q) []
  | [], q, h => h
  | x :: xs, q, h => OkQ.all (xs := xs) (q := layF q x (mkF p x)) hb hp (h.next hb hp)
theorem once_loop {G : Nat → List D → Sto → Res D} {i j : Nat} {b : List Rul} (hb : BkN b) {p : List Ln} (hp : PrOk p) (hm : ∀ (S : Sto) (x : Fd), FOk b p x → G j [prgD p, bookD b, x.d] S = .ok (mkF p x) S) (hl : ∀ (S : Sto) (q : List Ln) (x : Fd) (d : D), q.length ≤ 64 → AtOk 50 q x → G i [prgD q, x.d, d] S = .ok (prgD (layF q x d)) S) {kc : Sto → Bool} (hkc : ∀ S, kc S = true) : ∀ (xs : List Fd) (q : List Ln) (a3 : Option D), OkQ b 40 p q xs →
    ∃ a3', forL (fun d s => bindT [3] false d s) (fun s S => exs G [.set 2 (.call i [.var 2, .var 3, .call j [.var 0, .var 1, .var 3]])] s S) kc (xs.map Fd.d) [some (prgD p), some (bookD b), some (prgD q), a3] S
      = .nx [some (prgD p), some (bookD b), some (prgD (onc p xs q)), a3'] S
  | [], q, a3, _ => ⟨a3, by simp [forL, onc]⟩
  | x :: xs, q, a3, h => by
    obtain ⟨hx, hme, hw⟩ := h.ok x List.mem_cons_self
    have hw' : prt (trm q x.k) x.w = some (partOf (trm q x.k) x.w) := by unfold partOf at hw ⊢; rw [hw]; rfl
    have lm := hl S q x (mkF p x) (by rw [h.len]; exact hp.len) ⟨by rw [h.len]; exact hx.k, tm_le (by omega) (h.tm _ hx.k), hw'⟩
    have mm := hm S x hx
    obtain ⟨a3', ih⟩ := once_loop hb hp hm hl hkc xs (layF q x (mkF p x)) (some x.d) (h.next hb fun y hy => (hp.t y hy).1)
    rw [List.map_cons]
    refine ⟨a3', forL_nx [some (prgD p), some (bookD b), some (prgD (layF q x (mkF p x))), some x.d] S rfl ((xs_nx ?_).trans exs_nil) (hkc _) ih⟩
    show ex G _ [some (prgD p), some (bookD b), some (prgD q), some x.d] S = _
    simp [getV, mm, lm]
theorem r_once (L : Lib2 P) (h49 : P 49 = some F_laid) (h51 : P 51 = some F_are_apart) (h52 : P 52 = some F_chosen) (h : P 53 = some F_once) (hn : 62 ≤ n) {b : List Rul} (hb : BkN b) {p : List Ln} (hp : PrOk p) : run P n 53 [prgD p, bookD b] S = .ok (prgD (oncF b p)) S := by
  obtain ⟨n, rfl⟩ : ∃ k, n = k + 1 := ⟨n - 1, by omega⟩
  have rc := r_chosen (S := S) L h51 h52 (n := n) (by omega) hb hp
  obtain ⟨a3', lp⟩ := once_loop (S := S) (G := run P n) (i := 49) (j := 47) hb hp (fun S x hx => r_made L.toLib L.h41 L.h47 (by omega) hb hp hx) (fun S q x d hq hx => r_laid L.toLib L.h42 h49 (by omega) hq hx) (kc := chk ((chF b p).map Fd.d) none) (fun _ => rfl) (chF b p) p none (OkQ.init fun y hy => (hp.t y hy).1)
  rw [run_e h _ _ [some _, some _, none, none] rfl rfl]
  refine fx_nx [some (prgD p), some (bookD b), some (prgD p), none] S (by simp [getV]) ?_
  refine fx_nx [some (prgD p), some (bookD b), some (prgD (oncF b p)), a3'] S (ex_forE (ds := [.tup ((chF b p).map Fd.d)]) (S1 := S) (xs := (chF b p).map Fd.d) (l := none) (by simp [getV, rc]) rfl lp) ?_
  exact fx_rt _ S (by simp [getV]) retD_self
theorem r_lonce (L : Law2 P) (h60 : P 60 = some F_law_chosen) (h : P 61 = some F_law_once) (hn : 62 ≤ n) {b : List Rul} (hb : BkN b) {p : List Ln} (hp : PrOk p) : run P n 61 [prgD p, bookD b] S = .ok (prgD (oncF b p)) S := by
  obtain ⟨n, rfl⟩ : ∃ k, n = k + 1 := ⟨n - 1, by omega⟩
  have rc := r_lchosen (S := S) L h60 (n := n) (by omega) hb hp
  obtain ⟨a3', lp⟩ := once_loop (S := S) (G := run P n) (i := 59) (j := 58) hb hp (fun S x hx => r_lmakes L.toLawL L.h58 (by omega) hb hp hx) (fun S q x d hq hx => r_llay L.toLawL L.h59 (by omega) hq hx) (kc := chk ((chF b p).map Fd.d) none) (fun _ => rfl) (chF b p) p none (OkQ.init fun y hy => (hp.t y hy).1)
  rw [run_e h _ _ [some _, some _, none, none] rfl rfl]
  refine fx_nx [some (prgD p), some (bookD b), some (prgD p), none] S (by simp [getV]) ?_
  refine fx_nx [some (prgD p), some (bookD b), some (prgD (oncF b p)), a3'] S (ex_forE (ds := [.lst ((chF b p).map Fd.d)]) (S1 := S) (xs := (chF b p).map Fd.d) (l := none) (by simp [getV, rc]) rfl lp) ?_
  exact fx_rt _ S (by simp [getV]) retD_self
theorem onc_tm {b : List Rul} (hb : BkN b) {l : Nat} {p : List Ln} (hp : ∀ x ∈ p, tm l x.t = true) : (oncF b p).length = p.length ∧ (∀ x ∈ oncF b p, tm (l + 2) x.t = true) ∧ ∀ k, hsh (oncF b p) k = hsh p k := by
  have h : OkQ b l p (oncF b p) [] := OkQ.all hb hp (OkQ.init (b := b) hp)
  refine ⟨h.len, fun x hx => ?_, h.hsh⟩
  obtain ⟨k, hk, e⟩ := List.getElem_of_mem hx
  have := h.tm k (by rw [← h.len]; exact hk)
  rw [(trm_of (p := oncF b p) (by rw [List.getElem?_eq_getElem hk])).1, e] at this
  exact this
end Eng

/-! BM -/
set_option linter.all false
set_option maxRecDepth 100000
set_option maxHeartbeats 1000000
/-! Programs and findings, the same. -/
namespace Eng
variable {P : Nat → Option Fn} {S : Sto} {n : Nat}

/-! ### the same -/
theorem ln_sm {l : Nat} {x : Ln} (ht : tm l x.t = true) (hh : x.hush.length ≤ 1000) : smD (l + 3) x.d := by
  refine .inr (.inr (.inr ⟨_, rfl, by simp [szL], fun y hy => ?_⟩))
  simp only [List.mem_cons, List.not_mem_nil, or_false] at hy
  rcases hy with rfl | rfl
  · exact smD_le (by omega) (tm_sm ht)
  · refine .inr (.inr (.inr ⟨_, rfl, by rw [List.length_map]; unfold szL; omega, fun z hz => ?_⟩))
    obtain ⟨s, _, rfl⟩ := List.mem_map.mp hz
    exact .inl ⟨s, rfl⟩
theorem prg_sm {l : Nat} {p : List Ln} (hp : p.length ≤ 64) (ht : ∀ x ∈ p, tm l x.t = true ∧ x.hush.length ≤ 1000) : smD (l + 4) (prgD p) := by
  refine .inr (.inr (.inr ⟨_, rfl, by rw [List.length_map]; unfold szL; omega, fun y hy => ?_⟩))
  obtain ⟨x, hx, rfl⟩ := List.mem_map.mp hy
  exact ln_sm (ht x hx).1 (ht x hx).2
theorem Fd_sm {x : Fd} (h : x.w.length ≤ 1000) : smD 3 x.d := by
  refine .inr (.inr (.inr ⟨_, rfl, by simp [szL], fun y hy => ?_⟩))
  simp only [List.mem_cons, List.not_mem_nil, or_false] at hy
  rcases hy with rfl | rfl | rfl
  · exact .inr (.inl ⟨_, rfl⟩)
  · refine .inr (.inr (.inr ⟨_, rfl, by rw [List.length_map]; unfold szL; omega, fun z hz => ?_⟩))
    obtain ⟨k, _, rfl⟩ := List.mem_map.mp hz
    exact .inr (.inl ⟨_, rfl⟩)
  · exact .inl ⟨_, rfl⟩
theorem fd_wlen {b : List Rul} {p : List Ln} (hp : PrOk p) {x : Fd} (hx : FOk b p x) : x.w.length ≤ 1000 := by
  have := (tm_prt (hp.t _ (trm_mem hx.k)).1 hx.w).1
  omega
theorem hush_le {p : List Ln} (hp : PrOk p) {k : Nat} (hk : k < p.length) : (hsh p k).length ≤ 1000 := hp.hush _ (trm_mem hk)
theorem lay_sm {b : List Rul} (hb : BkN b) {p : List Ln} (hp : PrOk p) {x : Fd} (hx : FOk b p x) (hm : mends x.r = true) : smD 50 (prgD (layF p x (mkF p x))) := by
  obtain ⟨t1, t2⟩ := mk_tm hb (fun y hy => (hp.t y hy).1) hx hm
  refine smD_le (l := 42 + 4) (by omega) (prg_sm (by rw [lay_len]; exact hp.len) fun y hy => ?_)
  rcases List.mem_or_eq_of_mem_set hy with hy | rfl
  · exact ⟨tm_le (by omega) (hp.t y hy).1, hp.hush y hy⟩
  · exact ⟨tm_put (hp.t _ (trm_mem hx.k)).1 hx.w t1 (by omega) (by omega), hush_le hp hx.k⟩
theorem onc_sm {b : List Rul} (hb : BkN b) {p : List Ln} (hp : PrOk p) : smD 50 (prgD (oncF b p)) := by
  obtain ⟨o1, o2, o3⟩ := onc_tm hb (fun y hy => (hp.t y hy).1)
  refine smD_le (l := 42 + 4) (by omega) (prg_sm (by rw [o1]; exact hp.len) fun y hy => ⟨o2 y hy, ?_⟩)
  obtain ⟨k, hk, e⟩ := List.getElem_of_mem hy
  have := (trm_of (p := oncF b p) (by rw [List.getElem?_eq_getElem hk])).2
  rw [e, o3] at this
  rw [← this]
  exact hush_le hp (by rw [← o1]; exact hk)
theorem ch_sm {b : List Rul} (hb : BkN b) {p : List Ln} (hp : PrOk p) : smD 50 (.tup ((chF b p).map Fd.d)) := by
  have fl_ := fd_len hb hp
  have cl := chs_len (p := p) (xs := fdP b p) (acc := [])
  refine smD_le (l := 4) (by omega) (.inr (.inr (.inr ⟨_, rfl, by rw [List.length_map]; unfold chF szL; simp at cl; omega, fun y hy => ?_⟩)))
  obtain ⟨x, hx, rfl⟩ := List.mem_map.mp hy
  exact Fd_sm (fd_wlen hp (fd_ok ((ch_ok (b := b) (p := p)).1 x hx).1))
/-! ### drawn programs -/
theorem szP_le {m : Nat} : ∀ {p : List Ln}, (∀ x ∈ p, (wys 40 x.t).length ≤ m) → szP p ≤ p.length * m
  | [], _ => by simp [szP]
  | x :: p, h => by
    have h1 := h x List.mem_cons_self
    have h2 := szP_le (p := p) fun y hy => h y (List.mem_cons_of_mem _ hy)
    have : (p.length + 1) * m = p.length * m + m := Nat.succ_mul _ _
    simp only [szP, List.length_cons]; omega
theorem tm4_sz {d : D} (h : tm 4 d = true) : (wys 40 d).length ≤ 40 := by
  have a := sz_le (l := 4) (m := 40) (by omega) h
  have b := sz_nW h
  have d : nW 4 = 40 := rfl
  unfold sz at a b
  omega
theorem prog_line (c : Int) : ∀ x ∈ lawProg c, x.Ok := fun x hx => by obtain ⟨k, _, rfl⟩ := List.mem_map.mp hx; exact line_ok c k
theorem prog_len (c : Int) : (lawProg c).length ≤ 4 := by have := manyL_le c; simp [lawProg]; omega
theorem prog_sz (c : Int) : szP (lawProg c) ≤ 160 := by
  have a := szP_le (m := 40) fun x hx => tm4_sz (prog_line c x hx).t
  have b := prog_len c
  have : (lawProg c).length * 40 ≤ 4 * 40 := Nat.mul_le_mul_right _ b
  omega
theorem prog_ok (c : Int) : PrOk (lawProg c) := ⟨by have := prog_len c; omega, fun x h => tm_le (by omega) (prog_line c x h).t, by have := prog_sz c; omega, fun x h => Nat.le_trans (prog_line c x h).len (by decide)⟩
end Eng

/-! B18a -/
set_option linter.all false
set_option maxRecDepth 100000
set_option maxHeartbeats 1000000
/-! mend_of, mended_by; what is said. -/
namespace Eng
variable {P : Nat → Option Fn} {S : Sto} {n : Nat}

/-- something that may be asked for as a finding -/
structure Askd (o : D) : Prop where
  neat : o.neat = true
  dp : o.dp ≤ 100
  ns : ∀ s, o ≠ .str s
theorem Fd_askd (x : Fd) : Askd x.d := ⟨(Fd_neat x).1, (Fd_neat x).2, Fd_nstr x⟩
theorem r_mendof_y (L : Lib2 P) (h : P 48 = some F_mend_of) (hn : 62 ≤ n) {b : List Rul} (hb : BkN b) {p : List Ln} (hp : PrOk p) {x : Fd} (hx : x ∈ fdP b p) : run P n 48 [prgD p, bookD b, x.d] S = .ok (mkF p x) S := by
  obtain ⟨n, rfl⟩ : ∃ k, n = k + 1 := ⟨n - 1, by omega⟩
  have rf := r_found (S := S) L.toLibF L.h43 L.h44 L.h45 L.h46 (n := n) (by omega) hb hp
  have rm := r_made (S := S) L.toLib L.h41 L.h47 (n := n) (by omega) hb hp (fd_ok hx)
  have ni := notin_T (S := S) (Fd_askd x).neat (Fd_askd x).dp (Fd_askd x).ns (Fds_neat (fdP b p))
  rw [fd_d hx] at ni
  rw [run_e h _ _ [some _, some _, some _] rfl rfl]
  refine fx_nx [some (prgD p), some (bookD b), some x.d] S ((ex_itF (S1 := S) (by simp [getV, rf, ni])).trans exs_nil) ?_
  exact fx_rt _ S (by simp [getV, rm]) retD_self
/-- what mended_by tells of a finding -/
def mbF (p : List Ln) (x : Fd) : D := if mends x.r = true then prgD (layF p x (mkF p x)) else .non
theorem at_ok {b : List Rul} {p : List Ln} (hp : PrOk p) {x : Fd} (hx : FOk b p x) : AtOk 50 p x := ⟨hx.k, tm_le (by omega) (hp.t _ (trm_mem hx.k)).1, hx.w⟩
theorem r_mendby_y (L : Lib2 P) (h48 : P 48 = some F_mend_of) (h49 : P 49 = some F_laid) (h : P 50 = some F_mended_by) (hn : 63 ≤ n) {b : List Rul} (hb : BkN b) {p : List Ln} (hp : PrOk p) {x : Fd} (hx : x ∈ fdP b p) (hm : mends x.r = true) : run P n 50 [prgD p, bookD b, x.d] S = .ok (prgD (layF p x (mkF p x))) S := by
  obtain ⟨n, rfl⟩ : ∃ k, n = k + 1 := ⟨n - 1, by omega⟩
  have rm := r_mendof_y (S := S) L h48 (n := n) (by omega) hb hp hx
  have rl := r_laid (S := S) L.toLib L.h42 h49 (n := n) (by omega) hp.len (at_ok hp (fd_ok hx)) (d := mkF p x)
  have mn := mk_non hb hp (fd_ok hx)
  rw [hm] at mn
  rw [run_e h _ _ [some _, some _, some _, none] rfl rfl]
  refine fx_nx [some (prgD p), some (bookD b), some x.d, some (mkF p x)] S (by simp [getV, rm]) ?_
  refine fx_nx [some (prgD p), some (bookD b), some x.d, some (mkF p x)] S ((ex_itF (S1 := S) (by simp [getV, mn])).trans exs_nil) ?_
  exact fx_rt _ S (by simp [getV, rl]) retD_self
end Eng

/-! C1 -/
set_option linter.all false
set_option maxRecDepth 100000
set_option maxHeartbeats 1000000
/-! Sizes of terms and programs. -/
namespace Eng
variable {P : Nat → Option Fn} {S : Sto} {n : Nat}

theorem intsD_nat : ∀ ns : List Nat, intsD (ns.map fun (k : Nat) => D.int k) = some (ns.map fun (k : Nat) => (k : Int))
  | [] => rfl
  | x :: l => by simp [intsD, intsD_nat l]
theorem sum_nat : ∀ ns : List Nat, (ns.map fun (k : Nat) => (k : Int)).sum = (ns.sum : Nat)
  | [] => rfl
  | x :: l => by simp only [List.map_cons, List.sum_cons, sum_nat l]; omega
theorem p_sumN {ns : List Nat} : pr .sum [.lst (ns.map fun (k : Nat) => D.int k)] S = .ok (.int (ns.sum : Nat)) S := by
  simp only [pr, rs_lst, intsD_nat, Option.map_some, oS, sum_nat]
theorem szs_sum {l : Nat} : ∀ ps : List D, szs l ps = (ps.map (sz l)).sum
  | [] => rfl
  | p :: ps => by simp [szs, szs_sum ps]
theorem r_size (h13 : P 13 = some F_parts_of) (h : P 71 = some F_size) : ∀ {l n : Nat} {S : Sto} {d : D}, tm l d = true → l + 1 ≤ n → run P n 71 [d] S = .ok (.int (sz l d : Nat)) S
  | 0, n, S, d, hd, _ => by simp [tm] at hd
  | l + 1, n, S, d, hd, hn => by
    obtain ⟨n, rfl⟩ : ∃ k, n = k + 1 := ⟨n - 1, by omega⟩
    obtain ⟨k1, k2⟩ := tm_kids hd
    have rp := r_parts (S := S) h13 (n := n) (by omega) hd
    have ih : ∀ p ∈ kids d, run P n 71 [p] S = .ok (.int (sz l p : Nat)) S := fun p hp => r_size h13 h (k2 p hp) (by omega)
    rw [run_e h _ _ [some d, none] rfl rfl]
    have cm : ev (run P n) (.comp [1] [1] false .seq [.call 13 [.var 0]] [] (.call 71 [.var 1])) [some d, none] S = .ok (.lst (((kids d).map (sz l)).map fun (k : Nat) => D.int k)) S := by
      rw [List.map_map]
      exact ev_map (ds := [.tup (kids d)]) (l := none) (by simp [getV, rp]) rfl (by unfold szL; omega) rfl fun p hp => ⟨[some d, some p], rfl, by simp [getV, ih p hp]⟩
    refine fx_rt (.int (sz (l + 1) d : Nat)) S ?_ retD_self
    rw [ex_ret, ev_pr, evs_cons, ev_con, bOk, evs_cons, ev_pr, evs_cons, cm]
    simp only [bOk, evs_nil, p_sumN, p_addI, outE_ok, sz_succ, szs_sum]
    simp
theorem r_lsize (h : P 74 = some F_law_size) : ∀ {l n : Nat} {S : Sto} {d : D}, tm l d = true → l ≤ n → run P n 74 [d] S = .ok (.int (sz l d : Nat)) S
  | 0, n, S, d, hd, _ => by simp [tm] at hd
  | l + 1, n, S, d, hd, hn => by
    obtain ⟨n, rfl⟩ : ∃ k, n = k + 1 := ⟨n - 1, by omega⟩
    obtain ⟨k1, k2⟩ := tm_kids hd
    have ih : ∀ p ∈ kids d, run P n 74 [p] S = .ok (.int (sz l p : Nat)) S := fun p hp => r_lsize h (k2 p hp) (by omega)
    rw [run_e h _ _ [some d, none] rfl rfl]
    refine fx_rt (.int (sz (l + 1) d : Nat)) S ?_ retD_self
    rcases tm_cases hd with ⟨s, rfl, hs⟩ | ⟨f, ps, rfl, g1, g2, g3, g4⟩
    · have : sz (l + 1) (.str s) = 1 := by rw [sz_succ]; simp [kids, szs]
      simp [getV, this]
    · have hk : kids (.tup (.str f :: ps)) = ps := rfl
      rw [hk] at ih k1
      have cut1 : cut (D.str f :: ps) (some 1) none = ps := by rw [show (1 : Int) = ((1 : Nat) : Int) from rfl, cut_from]; rfl
      have cm : ev (run P n) (.comp [1] [1] false .seq [.pr (.slc true false) [.var 0, .con (.int 1)]] [] (.call 74 [.var 1])) [some (.tup (.str f :: ps)), none] S = .ok (.lst ((ps.map (sz l)).map fun (k : Nat) => D.int k)) S := by
        rw [List.map_map]
        exact ev_map (ds := [.tup ps]) (l := none) (by simp [getV, cut1]) rfl (by unfold szL; omega) rfl fun p hp => ⟨[some (.tup (.str f :: ps)), some p], rfl, by simp [getV, ih p hp]⟩
      simp only [ex_ret, ev_ite, ev_pr, evs_cons, evs_nil, ev_var, ev_con]
      simp [getV]
      rw [cm]
      simp only [bOk, p_sumN, p_addI, outE_ok, sz_succ, hk, szs_sum]
      simp
theorem szP_sum : ∀ p : List Ln, szP p = (p.map fun x => sz 40 x.t).sum
  | [] => rfl
  | x :: p => by simp [szP, szP_sum p, sz]
theorem r_great (h13 : P 13 = some F_parts_of) (h71 : P 71 = some F_size) (h : P 72 = some F_is_great) (hn : 42 ≤ n) {p : List Ln} (hp : PrOk p) : run P n 72 [prgD p] S = .ok (.bl (decide (200 < szP p))) S := by
  obtain ⟨n, rfl⟩ : ∃ k, n = k + 1 := ⟨n - 1, by omega⟩
  have hl := hp.len
  rw [run_e h _ _ [some (prgD p), none] rfl rfl]
  refine fx_rt _ S ?_ retD_self
  have cm : ev (run P n) (.comp [1] [1] false .seq [.var 0] [] (.call 71 [.pr .idx [.var 1, .con (.int 0)]])) [some (prgD p), none] S = .ok (.lst ((p.map fun x => sz 40 x.t).map fun (k : Nat) => D.int k)) S := by
    rw [List.map_map]
    refine ev_mapA (f := Ln.d) (ds := [prgD p]) (l := none) (by simp [getV]) rfl (by unfold szL; omega) rfl fun x hx => ⟨[some (prgD p), some x.d], rfl, ?_⟩
    have := r_size (S := S) h13 h71 (n := n) (hp.tt x hx) (by omega)
    simp [getV, Ln.d, this]
  rw [ex_ret, ev_pr, evs_cons, ev_pr, evs_cons, cm]
  simp only [bOk, evs_nil, p_sumN, evs_cons, ev_con, p_gt, outE_ok, ← szP_sum]
  have e : ((200 : Int) < (szP p : Int)) ↔ 200 < szP p := by omega
  simp [e]
end Eng

/-! C2 -/
set_option linter.all false
set_option maxRecDepth 100000
set_option maxHeartbeats 1000000
/-! Roads: mended, _law_road. -/
namespace Eng
variable {P : Nat → Option Fn} {S : Sto} {n : Nat}

/-! ### sizes on a road -/
theorem szP_set : ∀ {p : List Ln} {k : Nat} {y z : Ln}, p[k]? = some z → szP (p.set k y) + sz 40 z.t = szP p + sz 40 y.t
  | [], k, y, z, h => by simp at h
  | x :: p, 0, y, z, h => by
    simp only [List.getElem?_cons_zero, Option.some.injEq] at h; subst h
    simp only [List.set_cons_zero, szP, sz]; omega
  | x :: p, k + 1, y, z, h => by
    have := szP_set (p := p) (k := k) (y := y) (z := z) (by simpa using h)
    simp only [List.set_cons_succ, szP]; omega
theorem afP_lenB {b : List Rul} : ∀ {p : List Ln} {k : Nat}, (afP b k p).length ≤ szP p * b.length
  | [], k => by simp [afP]
  | x :: p, k => by
    have h1 := flat_len (f := fun w => afW b x.t k w) (k := b.length) (l := wys 40 x.t) fun w _ => afW_len b x.t k w
    have h2 := afP_lenB (b := b) (p := p) (k := k + 1)
    simp only [afP, List.length_append, szP, Nat.add_mul]
    unfold afL; omega
theorem onc_szQ {b : List Rul} (hb : BkN b) {l : Nat} (hl : l + 2 ≤ 40) {p : List Ln} (hp : ∀ x ∈ p, tm l x.t = true) (hs : szP p ≤ 200) : ∀ {xs : List Fd} {q : List Ln}, OkQ b l p q xs → szP (onc p xs q) ≤ szP q + xs.length * 1804
  | [], q, h => by simp [onc]
  | x :: xs, q, h => by
    have ih := onc_szQ hb hl hp hs (h.next hb hp)
    obtain ⟨hx, hm, hw⟩ := h.ok x List.mem_cons_self
    have hk : x.k < q.length := by rw [h.len]; exact hx.k
    have tq : tm 40 (trm q x.k) = true := tm_le hl (h.tm _ hx.k)
    have tp : tm l (trm p x.k) = true := hp _ (trm_mem hx.k)
    have te : tm 40 (partOf (trm p x.k) x.w) = true := tm_le (by omega) (tm1 tp hx.w)
    obtain ⟨t1, t2⟩ := mk_tm hb hp hx hm
    have t1' : tm 40 (mkF p x) = true := tm_le (by omega) t1
    have tn : tm 40 (ptt (trm q x.k) x.w (mkF p x)) = true := tm_le hl (tm_put (m := l + 2) (h.tm _ hx.k) hw t1 (by omega) (by omega))
    have e1 := sz_put tq hw te t1' tn
    have e2 := szP_set (p := q) (k := x.k) (y := ⟨ptt (trm q x.k) x.w (mkF p x), hsh q x.k⟩) (line_of hk)
    have ee : sz 40 (partOf (trm p x.k) x.w) ≤ 200 := by
      have a := sz_prt tp hx.w te
      have b1 := szP_mem (trm_mem hx.k)
      have c := sz_eq (l := l) (m := 40) tp (tm_le (by omega) tp)
      simp only [sz] at a c b1 ⊢; omega
    have hv : ∀ kv ∈ tab x.r (partOf (trm p x.k) x.w), tm 40 kv.2 = true ∧ sz 40 kv.2 ≤ 200 := by
      refine mI_all (Q := fun d => tm 40 d = true ∧ sz 40 d ≤ 200) (fun d hd k hk => ?_) ⟨te, ee⟩ (by simp)
      obtain ⟨a1, a2⟩ := hd
      have b1 := (tm_kids a1).2 k hk
      have b2 := szs_mem (l := 39) hk
      rw [sz_succ] at a2
      have b3 := sz_le (l := 39) (m := 40) (by omega) b1
      exact ⟨tm_le (by omega) b1, by omega⟩
    have e3 : sz 40 (mkF p x) ≤ 1804 := by
      have q : mkF p x = fl 3 x.r.mend (tab x.r (partOf (trm p x.k) x.w)) := by simp [mkF, hm]
      rw [q] at t1' ⊢
      exact sz_fl (V := 200) (m := 40) (by omega) (fun k e he => hv (k, e) (look_mem he)) (mend_tm (hb.ok _ hx.r) hm).1 t1'
    have e4 : szP (layF q x (mkF p x)) ≤ szP q + 1804 := by
      unfold layF
      simp only at e2
      omega
    simp only [List.length_cons]
    have e5 : onc p (x :: xs) q = onc p xs (layF q x (mkF p x)) := rfl
    rw [e5]
    omega
theorem onc_sz {b : List Rul} (hb : BkN b) (h4 : b.length ≤ 4) {l : Nat} (hl : l + 2 ≤ 40) {p : List Ln} (hp : ∀ x ∈ p, tm l x.t = true) (hs : szP p ≤ 200) : szP (oncF b p) ≤ 1600000 := by
  have a := onc_szQ hb hl hp hs (OkQ.init (b := b) hp)
  have c1 := chs_len (p := p) (xs := fdP b p) (acc := [])
  have c2 : (fdP b p).length ≤ (afP b 0 p).length := List.length_filter_le _ _
  have c3 := afP_lenB (b := b) (p := p) (k := 0)
  have c4 : szP p * b.length ≤ 200 * 4 := Nat.mul_le_mul hs h4
  have c5 : (chF b p).length ≤ 800 := by unfold chF; simp at c1; omega
  unfold oncF
  omega
theorem prok_once {b : List Rul} (hb : BkN b) (h4 : b.length ≤ 4) {l : Nat} (hl : l + 2 ≤ 40) {p : List Ln} (hp : PrOk p) (ht : ∀ x ∈ p, tm l x.t = true) (hs : szP p ≤ 200) : PrOk (oncF b p) := by
  obtain ⟨o1, o2, o3⟩ := onc_tm hb ht
  refine ⟨by rw [o1]; exact hp.len, fun x hx => tm_le hl (o2 x hx), onc_sz hb h4 hl ht hs, fun y hy => ?_⟩
  obtain ⟨k, hk, e⟩ := List.getElem_of_mem hy
  have := (trm_of (p := oncF b p) (by rw [List.getElem?_eq_getElem hk])).2
  rw [e, o3] at this
  rw [← this]
  exact hush_le hp (by rw [← o1]; exact hk)
/-! ### programs as values -/
theorem tm_neat : ∀ {l : Nat} {d : D}, tm l d = true → d.neat = true
  | 0, d, h => by simp [tm] at h
  | l + 1, d, h => by
    rcases tm_cases h with ⟨s, rfl, _⟩ | ⟨f, ps, rfl, _, _, _, g⟩
    · simp [D.neat]
    · simp only [D.neat, D.neats, Bool.true_and]
      exact neats_of fun p hp => tm_neat (g p hp)
theorem ln_neat {l : Nat} {x : Ln} (h : tm l x.t = true) : x.d.neat = true := by
  simp only [Ln.d, D.neat, D.neats, tm_neat h, Bool.true_and, Bool.and_true]
  exact neats_of fun y hy => by obtain ⟨s, _, rfl⟩ := List.mem_map.mp hy; simp [D.neat]
theorem prg_neat {l : Nat} {p : List Ln} (h : ∀ x ∈ p, tm l x.t = true) : (prgD p).neat = true := by
  simp only [prgD, D.neat]
  exact neats_of fun y hy => by obtain ⟨x, hx, rfl⟩ := List.mem_map.mp hy; exact ln_neat (h x hx)
theorem ln_dp {l : Nat} {x : Ln} (h : tm l x.t = true) : x.d.dp ≤ l + 2 := by
  have a := tm_dp h
  have b : D.dps (x.hush.map D.str) ≤ 0 := dps_le.mpr fun y hy => by obtain ⟨s, _, rfl⟩ := List.mem_map.mp hy; simp
  simp only [Ln.d, dp_tup, D.dps]; omega
theorem prg_dp {l : Nat} {p : List Ln} (h : ∀ x ∈ p, tm l x.t = true) : (prgD p).dp ≤ l + 3 := by
  have : D.dps (p.map Ln.d) ≤ l + 2 := dps_le.mpr fun y hy => by obtain ⟨x, hx, rfl⟩ := List.mem_map.mp hy; exact ln_dp (h x hx)
  simp only [prgD, dp_tup]; omega
theorem strs_inj : ∀ {a b : List (List Nat)}, a.map D.str = b.map D.str → a = b
  | [], [], _ => rfl
  | [], _ :: _, h => by simp at h
  | _ :: _, [], h => by simp at h
  | x :: a, y :: b, h => by
    simp only [List.map_cons, List.cons.injEq, D.str.injEq] at h
    rw [h.1, strs_inj h.2]
theorem ln_inj {x y : Ln} (h : x.d = y.d) : x = y := by
  simp only [Ln.d, D.tup.injEq, List.cons.injEq, and_true] at h
  cases x; cases y
  simp only [Ln.mk.injEq]
  exact ⟨h.1, strs_inj h.2⟩
theorem lns_inj : ∀ {a b : List Ln}, a.map Ln.d = b.map Ln.d → a = b
  | [], [], _ => rfl
  | [], _ :: _, h => by simp at h
  | _ :: _, [], h => by simp at h
  | x :: a, y :: b, h => by
    simp only [List.map_cons, List.cons.injEq] at h
    rw [ln_inj h.1, lns_inj h.2]
theorem prg_inj {p q : List Ln} (h : prgD p = prgD q) : p = q := lns_inj (D.tup.inj h)
theorem prg_eqv {p q : List Ln} (hp : PrOk p) (hq : PrOk q) : (prgD p).eqv (prgD q) = decide (p = q) := by
  rw [Bool.eq_iff_iff, eqv_iff (prg_neat hp.tt) (prg_neat hq.tt), decide_eq_true_eq]
  exact ⟨prg_inj, fun e => by rw [e]⟩
theorem prg_mem {p : List Ln} {seen : List (List Ln)} : prgD p ∈ seen.map prgD ↔ p ∈ seen := by
  rw [List.mem_map]
  exact ⟨fun ⟨q, hq, e⟩ => prg_inj e ▸ hq, fun h => ⟨p, h, rfl⟩⟩
/-! ### the road -/
def idxP (p : List Ln) : List (List Ln) → Nat
  | [] => 0
  | q :: r => if q = p then 0 else idxP p r + 1
theorem idxP_lt {p : List Ln} : ∀ {seen : List (List Ln)}, p ∈ seen → idxP p seen < seen.length
  | [], h => by simp at h
  | q :: r, h => by
    unfold idxP
    split
    · simp
    · rename_i ne
      rcases List.mem_cons.mp h with rfl | h
      · exact absurd rfl ne
      · have := idxP_lt h
        simp only [List.length_cons]; omega
theorem idx_find {p : List Ln} (hp : PrOk p) : ∀ {seen : List (List Ln)}, (∀ q ∈ seen, PrOk q) → p ∈ seen → (seen.map prgD).findIdx? (fun y => y.eqv (prgD p)) = some (idxP p seen)
  | [], _, h => by simp at h
  | q :: r, hq, h => by
    rw [List.map_cons, List.findIdx?_cons, prg_eqv (hq q List.mem_cons_self) hp]
    unfold idxP
    by_cases e : q = p
    · simp [e]
    · rcases List.mem_cons.mp h with h | h
      · exact absurd h.symm e
      · rw [idx_find hp (fun q h => hq q (List.mem_cons_of_mem _ h)) h]
        simp [e]
inductive Rd where
  | rest (p : List Ln) (n : Nat)
  | round (a l : Nat)
  | opn (p : List Ln)
  deriving DecidableEq
def Rd.d : Rd → D
  | .rest p n => .tup [.str [114, 101, 115, 116], prgD p, .int n]
  | .round a l => .tup [.str [114, 111, 117, 110, 100], .int a, .int l]
  | .opn p => .tup [.str [111, 112, 101, 110], prgD p]
def rdF (b : List Rul) (most : Nat) : Nat → List Ln → List (List Ln) → Rd
  | 0, p, _ => .opn p
  | i + 1, p, seen => if chF b p = [] then .rest p seen.length else if p ∈ seen then .round (idxP p seen) (seen.length - idxP p seen) else if 200 < szP p ∨ seen.length = most then .opn p else rdF b most i (oncF b p) (seen ++ [p])
section
variable {c : Env → Sto → Res Bool} {f : Env → Sto → Out} {s s2 : Env} {S2 : Sto} {d : D} {o : Out}
theorem wh_nx (hc : c s S = .ok true S) (hf : f s S = .nx s2 S2) (h : whileL c f n s2 S2 = o) : whileL c f (n + 1) s S = o := by simp only [whileL, hc, hf, h]
theorem wh_rt (hc : c s S = .ok true S) (hf : f s S = .rt d S2) : whileL c f (n + 1) s S = .rt d S2 := by simp only [whileL, hc, hf]
theorem wh_end (hc : c s S = .ok false S2) : whileL c f (n + 1) s S = .nx s S2 := by simp only [whileL, hc]
end
section
variable {x : D} {ds : List D} {k : Nat}
theorem isin_loc (h : S[k]? = some (.lst ds)) (hx : x.neat = true) (hp : x.dp ≤ 100) (hs : ∀ s, x ≠ .str s) (hd : ∀ d ∈ ds, d.neat = true ∧ d.dp ≤ 100) : pr .isin [x, .loc k] S = .ok (.bl (decide (x ∈ ds))) S := by
  have := isin_L (S := S) hx hp hs hd
  simp only [pr, rs_loc h] at this ⊢
  exact this
theorem len_loc (h : S[k]? = some (.lst ds)) : pr .len [.loc k] S = .ok (.int ds.length) S := by simp [pr, rs_loc h]
theorem index_loc {j : Nat} (h : S[k]? = some (.lst ds)) (hp : x.dp ≤ 100) (hd : D.dps ds ≤ 100) (hj : ds.findIdx? (fun y => y.eqv x) = some j) : pr .index [.loc k, x] S = .ok (.int j) S := by
  simp only [pr, rs_loc h, hj]
  exact gd_y ⟨by unfold dpL; omega, by unfold dpL; omega⟩
theorem okIdx (h : S[k]? = some (.lst ds)) : okM .index (.loc k) S = true := by simp [okM, rs_loc h]
theorem okApp (h : S[k]? = some (.lst ds)) : okM .app (.loc k) S = true := by simp [okM, rs_loc h]
end
structure Road (P : Nat → Option Fn) : Prop extends Lib2 P where
  h49 : P 49 = some F_laid
  h51 : P 51 = some F_are_apart
  h52 : P 52 = some F_chosen
  h53 : P 53 = some F_once
  h71 : P 71 = some F_size
  h72 : P 72 = some F_is_great
  h73 : P 73 = some F_mended
theorem mended_loop (R : Road P) (hn : 70 ≤ n) {b : List Rul} (hb : BkN b) (h4 : b.length ≤ 4) {most N : Nat} : ∀ (i l : Nat) (p : List Ln) (seen : List (List Ln)), seen.length + i = most → l + 2 * i ≤ 40 → PrOk p → (∀ x ∈ p, tm l x.t = true) → (∀ q ∈ seen, PrOk q) → most ≤ 1000 → i ≤ N →
    ∃ seen' : List (List Ln), whileL (fun s S => tst (ev (run P n) (.con (.bl true)) s S)) (fun s S => exs (run P n) [.ite (.pr .not [.call 52 [.var 0, .var 1]]) [.ret (.tup [.con (.str [114, 101, 115, 116]), .var 0, .pr .len [.var 3]])] [],
    .ite (.pr .isin [.var 0, .var 3]) [.ret (.tup [.con (.str [114, 111, 117, 110, 100]), .mth .index (.var 3) [.var 0], .pr .sub [.pr .len [.var 3], .mth .index (.var 3) [.var 0]]])] [],
    .ite (.or (.call 72 [.var 0]) (.pr .eq [.pr .len [.var 3], .var 2])) [.ret (.tup [.con (.str [111, 112, 101, 110]), .var 0])] [],
    .expr (.mth .app (.var 3) [.var 0]),
    .set 0 (.call 53 [.var 0, .var 1])] s S) (N + 1) [some (prgD p), some (bookD b), some (.int most), some (.loc S.length)] (S ++ [MO.lst (seen.map prgD)]) = .rt (rdF b most (i + 1) p seen).d (S ++ [MO.lst (seen'.map prgD)])
  | i, l, p, seen, hi, hl, hp, ht, hsn, hs1, hiN => by
    have sa : (S ++ [MO.lst (seen.map prgD)])[S.length]? = some (.lst (seen.map prgD)) := sto_at
    have rc := r_chosen (S := S ++ [MO.lst (seen.map prgD)]) R.toLib2 R.h51 R.h52 (n := n) (by omega) hb hp
    have hsn2 : ∀ d ∈ seen.map prgD, d.neat = true ∧ d.dp ≤ 100 := fun d hd => by
      obtain ⟨q, hq, rfl⟩ := List.mem_map.mp hd
      exact ⟨prg_neat (hsn q hq).tt, Nat.le_trans (prg_dp (hsn q hq).tt) (by omega)⟩
    have ii := isin_loc sa (prg_neat hp.tt) (Nat.le_trans (prg_dp hp.tt) (by omega)) (fun s e => by simp [prgD] at e) hsn2
    have ln := len_loc sa
    have rg := r_great (S := S ++ [MO.lst (seen.map prgD)]) R.h13 R.h71 R.h72 (n := n) (by omega) hp
    rw [List.length_map] at ln
    have ct : tst (ev (run P n) (.con (.bl true)) [some (prgD p), some (bookD b), some (.int most), some (.loc S.length)] (S ++ [MO.lst (seen.map prgD)])) = .ok true (S ++ [MO.lst (seen.map prgD)]) := by simp
    by_cases h1 : chF b p = []
    · refine ⟨seen, wh_rt ct ?_⟩
      rw [h1] at rc
      have e : rdF b most (i + 1) p seen = .rest p seen.length := by simp [rdF, h1]
      rw [e]
      exact xs_rt ((ex_itT (S1 := S ++ [MO.lst (seen.map prgD)]) (by simp [getV, rc, pr])).trans (xs_rt (by simp [getV, ln, Rd.d])))
    have c1 : ex (run P n) (.ite (.pr .not [.call 52 [.var 0, .var 1]]) [.ret (.tup [.con (.str [114, 101, 115, 116]), .var 0, .pr .len [.var 3]])] []) [some (prgD p), some (bookD b), some (.int most), some (.loc S.length)] (S ++ [MO.lst (seen.map prgD)]) = .nx [some (prgD p), some (bookD b), some (.int most), some (.loc S.length)] (S ++ [MO.lst (seen.map prgD)]) :=
      (ex_itF (S1 := S ++ [MO.lst (seen.map prgD)]) (by simp [getV, rc, pr, h1])).trans exs_nil
    by_cases h2 : p ∈ seen
    · refine ⟨seen, wh_rt ct ((xs_nx c1).trans ?_)⟩
      rw [decide_eq_true (prg_mem.mpr h2)] at ii
      have e : rdF b most (i + 1) p seen = .round (idxP p seen) (seen.length - idxP p seen) := by simp [rdF, h1, h2]
      have ix := index_loc sa (x := prgD p) (Nat.le_trans (prg_dp hp.tt) (by omega)) (dps_le.mpr fun d hd => (hsn2 d hd).2) (idx_find hp hsn h2)
      have lt := idxP_lt h2
      have ec : ((seen.length : Int) - (idxP p seen : Int)) = ((seen.length - idxP p seen : Nat) : Int) := by omega
      rw [e]
      refine xs_rt ((ex_itT (S1 := S ++ [MO.lst (seen.map prgD)]) (by simp [getV, ii])).trans (xs_rt ?_))
      simp [getV, ln, Rd.d, okIdx sa, ix, ec]
    rw [decide_eq_false (fun z => h2 (prg_mem.mp z))] at ii
    have c2 : ex (run P n) (.ite (.pr .isin [.var 0, .var 3]) [.ret (.tup [.con (.str [114, 111, 117, 110, 100]), .mth .index (.var 3) [.var 0], .pr .sub [.pr .len [.var 3], .mth .index (.var 3) [.var 0]]])] []) [some (prgD p), some (bookD b), some (.int most), some (.loc S.length)] (S ++ [MO.lst (seen.map prgD)]) = .nx [some (prgD p), some (bookD b), some (.int most), some (.loc S.length)] (S ++ [MO.lst (seen.map prgD)]) :=
      (ex_itF (S1 := S ++ [MO.lst (seen.map prgD)]) (by simp [getV, ii])).trans exs_nil
    by_cases h3 : 200 < szP p ∨ seen.length = most
    · refine ⟨seen, wh_rt ct ((xs_nx c1).trans ((xs_nx c2).trans ?_))⟩
      have e : rdF b most (i + 1) p seen = .opn p := by simp [rdF, h1, h2, h3]
      rw [e]
      refine xs_rt ((ex_itT (S1 := S ++ [MO.lst (seen.map prgD)]) ?_).trans (xs_rt (by simp [getV, Rd.d])))
      by_cases h5 : 200 < szP p
      · simp [getV, rg, h5]
      · have h6 : seen.length = most := h3.resolve_left h5
        simp [getV, rg, h5, ln, h6]
    obtain ⟨h5, h6⟩ := not_or.mp h3
    obtain ⟨i, rfl⟩ : ∃ k, i = k + 1 := ⟨i - 1, by omega⟩
    obtain ⟨N, rfl⟩ : ∃ k, N = k + 1 := ⟨N - 1, by omega⟩
    have c3 : ex (run P n) (.ite (.or (.call 72 [.var 0]) (.pr .eq [.pr .len [.var 3], .var 2])) [.ret (.tup [.con (.str [111, 112, 101, 110]), .var 0])] []) [some (prgD p), some (bookD b), some (.int most), some (.loc S.length)] (S ++ [MO.lst (seen.map prgD)]) = .nx [some (prgD p), some (bookD b), some (.int most), some (.loc S.length)] (S ++ [MO.lst (seen.map prgD)]) := by
      have q : ((seen.length : Int) == (most : Int)) = false := by rw [beq_eq_false_iff_ne]; omega
      exact (ex_itF (S1 := S ++ [MO.lst (seen.map prgD)]) (by simp [getV, rg, h5, ln, q])).trans exs_nil
    have ap := mid_app (S := S) (M := []) (acc := seen.map prgD) (x := prgD p) (by rw [List.length_map]; unfold szL; omega)
    have ok := okApp sa
    have c4 : ex (run P n) (.expr (.mth .app (.var 3) [.var 0])) [some (prgD p), some (bookD b), some (.int most), some (.loc S.length)] (S ++ [MO.lst (seen.map prgD)]) = .nx [some (prgD p), some (bookD b), some (.int most), some (.loc S.length)] (S ++ [MO.lst ((seen ++ [p]).map prgD)]) := by
      simp [getV, ok, ap]
    have ro := r_once (S := S ++ [MO.lst ((seen ++ [p]).map prgD)]) R.toLib2 R.h49 R.h51 R.h52 R.h53 (n := n) (by omega) hb hp
    have tO := (onc_tm hb ht).2.1
    obtain ⟨seen', ih⟩ := mended_loop R hn hb h4 (most := most) (N := N) i (l + 2) (oncF b p) (seen ++ [p]) (by simp; omega) (by omega) (prok_once hb h4 (by omega) hp ht (by omega)) tO (fun q hq => by
      rcases List.mem_append.mp hq with hq | hq
      · exact hsn q hq
      · rw [List.mem_singleton] at hq; subst hq; exact hp) hs1 (by omega)
    have e : rdF b most (i + 1 + 1) p seen = rdF b most (i + 1) (oncF b p) (seen ++ [p]) := by
      rw [rdF, if_neg h1, if_neg h2, if_neg h3]
    rw [e]
    refine ⟨seen', wh_nx (s2 := [some (prgD (oncF b p)), some (bookD b), some (.int most), some (.loc S.length)]) (S2 := S ++ [MO.lst ((seen ++ [p]).map prgD)]) ct ?_ ih⟩
    refine (xs_nx c1).trans ((xs_nx c2).trans ((xs_nx c3).trans ((xs_nx c4).trans ((xs_nx (s2 := [some (prgD (oncF b p)), some (bookD b), some (.int most), some (.loc S.length)]) (S2 := S ++ [MO.lst ((seen ++ [p]).map prgD)]) ?_).trans exs_nil))))
    generalize S ++ [MO.lst ((seen ++ [p]).map prgD)] = S' at ro ⊢
    simp [getV, ro]
theorem Rd_pure {l : Nat} {r : Rd} (h : match r with | .rest p _ => ∀ x ∈ p, tm l x.t = true | .opn p => ∀ x ∈ p, tm l x.t = true | _ => True) : r.d.pure = true := by
  have key : ∀ p : List Ln, (∀ x ∈ p, tm l x.t = true) → (prgD p).pure = true := fun p hp => by
    simp only [prgD, pure_tup]
    refine pures_of fun y hy => ?_
    obtain ⟨x, hx, rfl⟩ := List.mem_map.mp hy
    have : D.pures (x.hush.map D.str) = true := pures_of fun z hz => by obtain ⟨s, _, rfl⟩ := List.mem_map.mp hz; simp
    simp [Ln.d, tm_pure (hp x hx), this]
  cases r with
  | rest p k => simp [Rd.d, key p h]
  | opn p => simp [Rd.d, key p h]
  | round a c => simp [Rd.d]
/-- the program that a road tells, if any -/
def Rd.All (Q : List Ln → Prop) : Rd → Prop
  | .rest p _ => Q p
  | .opn p => Q p
  | _ => True
theorem rd_ok {b : List Rul} (hb : BkN b) (h4 : b.length ≤ 4) {most : Nat} : ∀ (i l : Nat) (p : List Ln) (seen : List (List Ln)), seen.length + i = most + 1 → l + 2 * i ≤ 42 → 1 ≤ i → PrOk p → (∀ x ∈ p, tm l x.t = true) → (rdF b most i p seen).All PrOk
  | 0, l, p, seen, _, _, h, _, _ => by omega
  | i + 1, l, p, seen, hi, hl, _, hp, ht => by
    rw [rdF]
    split
    · exact hp
    · split
      · trivial
      · split
        · exact hp
        · rename_i h3
          obtain ⟨h5, h6⟩ := not_or.mp h3
          exact rd_ok hb h4 i (l + 2) (oncF b p) (seen ++ [p]) (by simp; omega) (by omega) (by omega) (prok_once hb h4 (by omega) hp ht (by omega)) (onc_tm hb ht).2.1
theorem rd_pure {r : Rd} (h : r.All PrOk) : r.d.pure = true := by
  refine Rd_pure (l := 40) ?_
  cases r with
  | rest p k => exact PrOk.tt h
  | opn p => exact PrOk.tt h
  | round a c => trivial
/-- all that mended tells -/
def roadF (b : List Rul) (most : Nat) (p : List Ln) : Rd := rdF b most (most + 1) p []
theorem r_mended (R : Road P) (hn : 71 ≤ n) {b : List Rul} (hb : BkN b) (h4 : b.length ≤ 4) {p : List Ln} (hp : PrOk p) {l most : Nat} (ht : ∀ x ∈ p, tm l x.t = true) (hm : l + 2 * most ≤ 40) : run P n 73 [prgD p, bookD b, .int most] S = .ok (roadF b most p).d S := by
  obtain ⟨n, rfl⟩ : ∃ k, n = k + 1 := ⟨n - 1, by omega⟩
  obtain ⟨seen', lp⟩ := mended_loop (S := S) R (n := n) (by omega) hb h4 (most := most) (N := 4095) most l p [] (by simp) hm hp ht (by simp) (by omega) (by omega)
  rw [run_e R.h73 _ _ [some (prgD p), some (bookD b), some (.int most), none] rfl rfl]
  refine fx_nx [some (prgD p), some (bookD b), some (.int most), some (.loc S.length)] (S ++ [.lst []]) (by simp) ?_
  refine fx_rt _ (S ++ [MO.lst (seen'.map prgD)]) (by simp only [ex]; rw [show whileMost = 4095 + 1 from rfl]; exact lp) (ret_pure (rd_pure (rd_ok hb h4 (most + 1) l p [] (by simp) (by omega) (by omega) hp ht)) _)
end Eng

/-! CR -/
set_option linter.all false
set_option maxRecDepth 100000
set_option maxHeartbeats 1000000
/-! Roads, plainly: once again and again. -/
namespace Eng

/-- once, so many times -/
def itF (b : List Rul) : Nat → List Ln → List Ln
  | 0, p => p
  | i + 1, p => oncF b (itF b i p)
theorem it_add (b : List Rul) (p : List Ln) (i : Nat) : ∀ j, itF b (i + j) p = itF b j (itF b i p)
  | 0 => rfl
  | j + 1 => by
    show oncF b (itF b (i + j) p) = oncF b (itF b j (itF b i p))
    rw [it_add b p i j]
theorem it_comm (b : List Rul) (p : List Ln) (i j : Nat) : itF b i (itF b j p) = itF b j (itF b i p) := by
  rw [← it_add, ← it_add, Nat.add_comm]
/-- a road that goes on for m times -/
structure Go (b : List Rul) (p : List Ln) (m : Nat) : Prop where
  ch : ∀ j, j < m → chF b (itF b j p) ≠ []
  sz : ∀ j, j < m → szP (itF b j p) ≤ 200
  ne : ∀ j, j < m → ∀ i, i < j → itF b i p ≠ itF b j p
def seenF (b : List Rul) (p : List Ln) (s : Nat) : List (List Ln) := (List.range s).map fun j => itF b j p
theorem seen_mem {b : List Rul} {p q : List Ln} {s : Nat} : q ∈ seenF b p s ↔ ∃ j, j < s ∧ itF b j p = q := by
  simp [seenF]
theorem seen_len {b : List Rul} {p : List Ln} {s : Nat} : (seenF b p s).length = s := by simp [seenF]
theorem seen_succ {b : List Rul} {p : List Ln} {s : Nat} : seenF b p (s + 1) = seenF b p s ++ [itF b s p] := by
  simp [seenF, List.range_succ]
theorem rd_go {b : List Rul} {p : List Ln} {most m : Nat} (g : Go b p m) (hm : m ≤ most) : ∀ s, s ≤ m → roadF b most p = rdF b most (most + 1 - s) (itF b s p) (seenF b p s)
  | 0, _ => rfl
  | s + 1, h => by
    rw [rd_go g hm s (by omega), show most + 1 - s = (most + 1 - (s + 1)) + 1 by omega, rdF, if_neg (g.ch s (by omega)), if_neg, if_neg]
    · rw [seen_succ]; rfl
    · rw [seen_len]
      have := g.sz s (by omega)
      omega
    · rw [seen_mem]
      rintro ⟨j, hj, e⟩
      exact g.ne s (by omega) j hj e
theorem road_rest {b : List Rul} {p : List Ln} {most m : Nat} (g : Go b p m) (hm : m ≤ most) (h : chF b (itF b m p) = []) : roadF b most p = .rest (itF b m p) m := by
  rw [rd_go g hm m (Nat.le_refl _), show most + 1 - m = (most - m) + 1 by omega, rdF, if_pos h, seen_len]
theorem idx_map {p : List Ln} {f : Nat → List Ln} {a : Nat} (he : f a = p) (hl : ∀ j, j < a → f j ≠ p) : ∀ s (i : Nat), i ≤ a → a < i + s → idxP p ((List.range' i s).map f) = a - i
  | 0, i, h1, h2 => by omega
  | s + 1, i, h1, h2 => by
    rw [List.range'_succ, List.map_cons, idxP]
    split
    · rename_i e
      by_cases hi : i = a
      · omega
      · exact absurd e (hl i (by omega))
    · rename_i e
      have : i ≠ a := fun z => e (by rw [z]; exact he)
      rw [idx_map he hl s (i + 1) (by omega) (by omega)]
      omega
theorem idx_seen {b : List Rul} {p : List Ln} {m a : Nat} (g : Go b p m) (ha : a < m) (e : itF b m p = itF b a p) : idxP (itF b m p) (seenF b p m) = a := by
  have := idx_map (p := itF b m p) (f := fun j => itF b j p) (a := a) e.symm (fun j hj z => g.ne a ha j hj (z.trans e)) m 0 (by omega) (by omega)
  rw [← List.range_eq_range'] at this
  simpa [seenF] using this
theorem road_round {b : List Rul} {p : List Ln} {most m a : Nat} (g : Go b p m) (hm : m ≤ most) (h : chF b (itF b m p) ≠ []) (ha : a < m) (e : itF b m p = itF b a p) : roadF b most p = .round a (m - a) := by
  rw [rd_go g hm m (Nat.le_refl _), show most + 1 - m = (most - m) + 1 by omega, rdF, if_neg h, if_pos (seen_mem.mpr ⟨a, ha, e.symm⟩), idx_seen g ha e, seen_len]
theorem road_open {b : List Rul} {p : List Ln} {most m : Nat} (g : Go b p m) (hm : m ≤ most) (h : chF b (itF b m p) ≠ []) (hn : ∀ a, a < m → itF b a p ≠ itF b m p) (ho : 200 < szP (itF b m p) ∨ m = most) : roadF b most p = .opn (itF b m p) := by
  rw [rd_go g hm m (Nat.le_refl _), show most + 1 - m = (most - m) + 1 by omega, rdF, if_neg h, if_neg (fun z => by
    obtain ⟨j, hj, e⟩ := seen_mem.mp z
    exact hn j hj e), if_pos (by rw [seen_len]; exact ho)]
/-- how a road ends -/
inductive Ends (b : List Rul) (most : Nat) (p : List Ln) : Rd → Prop where
  | rest (m : Nat) (g : Go b p m) (hm : m ≤ most) (h : chF b (itF b m p) = []) : Ends b most p (.rest (itF b m p) m)
  | round (m a : Nat) (g : Go b p m) (hm : m ≤ most) (h : chF b (itF b m p) ≠ []) (ha : a < m) (e : itF b m p = itF b a p) : Ends b most p (.round a (m - a))
  | opn (m : Nat) (g : Go b p m) (hm : m ≤ most) (h : chF b (itF b m p) ≠ []) (hn : ∀ a, a < m → itF b a p ≠ itF b m p) (ho : 200 < szP (itF b m p) ∨ m = most) : Ends b most p (.opn (itF b m p))
theorem go_ends {b : List Rul} {p : List Ln} {most : Nat} : ∀ (i m : Nat), m + i = most → Go b p m → Ends b most p (roadF b most p)
  | i, m, hi, g => by
    by_cases h1 : chF b (itF b m p) = []
    · rw [road_rest g (by omega) h1]; exact .rest m g (by omega) h1
    by_cases h2 : itF b m p ∈ seenF b p m
    · obtain ⟨a, ha, e⟩ := seen_mem.mp h2
      rw [road_round g (by omega) h1 ha e.symm]; exact .round m a g (by omega) h1 ha e.symm
    have hn : ∀ a, a < m → itF b a p ≠ itF b m p := fun a ha e => h2 (seen_mem.mpr ⟨a, ha, e⟩)
    by_cases h3 : 200 < szP (itF b m p) ∨ m = most
    · rw [road_open g (by omega) h1 hn h3]; exact .opn m g (by omega) h1 hn h3
    obtain ⟨h5, h6⟩ := not_or.mp h3
    obtain ⟨i, rfl⟩ : ∃ k, i = k + 1 := ⟨i - 1, by omega⟩
    refine go_ends i (m + 1) (by omega) ⟨fun j hj => ?_, fun j hj => ?_, fun j hj a ha => ?_⟩
    · by_cases e : j = m
      · rw [e]; exact h1
      · exact g.ch j (by omega)
    · by_cases e : j = m
      · rw [e]; omega
      · exact g.sz j (by omega)
    · by_cases e : j = m
      · subst e; exact hn a ha
      · exact g.ne j (by omega) a ha
theorem road_ends (b : List Rul) (most : Nat) (p : List Ln) : Ends b most p (roadF b most p) :=
  go_ends most 0 (by omega) ⟨fun j h => by omega, fun j h => by omega, fun j h => by omega⟩
theorem Go.tail {b : List Rul} {p : List Ln} {m i : Nat} (g : Go b p m) (hi : i ≤ m) : Go b (itF b i p) (m - i) := by
  refine ⟨fun j hj => ?_, fun j hj => ?_, fun j hj a ha => ?_⟩
  · rw [← it_add]; exact g.ch _ (by omega)
  · rw [← it_add]; exact g.sz _ (by omega)
  · rw [← it_add, ← it_add]; exact g.ne _ (by omega) _ (by omega)
/-! a rest, from further on -/
theorem rest_from {b : List Rul} {p q : List Ln} {most m i : Nat} (h : roadF b most p = .rest q m) (hi : i ≤ m) : roadF b most (itF b i p) = .rest q (m - i) := by
  have e := road_ends b most p
  rw [h] at e
  cases e with
  | rest m g hm hc =>
    have := road_rest (most := most) (g.tail hi) (by omega) (by rw [← it_add, show i + (m - i) = m by omega]; exact hc)
    rw [← it_add, show i + (m - i) = m by omega] at this
    exact this
/-! a round, from further on -/
theorem it_round {b : List Rul} {p : List Ln} {a l : Nat} (e : itF b (a + l) p = itF b a p) : ∀ j, itF b (a + l + j) p = itF b (a + j) p
  | 0 => e
  | j + 1 => by
    show oncF b (itF b (a + l + j) p) = oncF b (itF b (a + j) p)
    rw [it_round e j]
theorem round_from {b : List Rul} {p : List Ln} {most a l i : Nat} (h : roadF b most p = .round a l) (hi : i < a + l) : roadF b most (itF b i p) = .round (a - i) l := by
  have e := road_ends b most p
  rw [h] at e
  generalize hr : Rd.round a l = r at e
  cases e with
  | rest => cases hr
  | opn => cases hr
  | round m a' g hm hc ha e =>
    simp only [Rd.round.injEq] at hr
    obtain ⟨rfl, h2⟩ := hr
    obtain rfl : m = a + l := by omega
    have hl0 : 1 ≤ l := by omega
    by_cases hia : i ≤ a
    · have := road_round (most := most) (p := itF b i p) (m := a + l - i) (a := a - i) (g.tail (by omega)) (by omega) (by rw [← it_add, show i + (a + l - i) = a + l by omega]; exact hc) (by omega) (by
        rw [← it_add, ← it_add, show i + (a + l - i) = a + l by omega, show i + (a - i) = a by omega]; exact e)
      rw [this]; congr 1; omega
    · -- within the round
      have per : ∀ j, a ≤ j → itF b (j + l) p = itF b j p := fun j hj => by
        have := it_round (b := b) (p := p) e (j - a)
        rw [show a + l + (j - a) = j + l by omega, show a + (j - a) = j by omega] at this
        exact this
      -- each place i + j, j < l, is the same as some place below a + l
      have low : ∀ j, j < l → ∃ k, a ≤ k ∧ k < a + l ∧ itF b (i + j) p = itF b k p ∧ (k = i + j ∨ k + l = i + j) := fun j hj => by
        by_cases h : i + j < a + l
        · exact ⟨i + j, by omega, h, rfl, .inl rfl⟩
        · refine ⟨i + j - l, by omega, by omega, ?_, .inr (by omega)⟩
          have := per (i + j - l) (by omega)
          rw [show i + j - l + l = i + j by omega] at this
          exact this
      have g2 : Go b (itF b i p) l := by
        refine ⟨fun j hj => ?_, fun j hj => ?_, fun j hj c hcj => ?_⟩
        · rw [← it_add]
          obtain ⟨k, k1, k2, k3, _⟩ := low j hj
          rw [k3]; exact g.ch k k2
        · rw [← it_add]
          obtain ⟨k, k1, k2, k3, _⟩ := low j hj
          rw [k3]; exact g.sz k k2
        · rw [← it_add, ← it_add]
          obtain ⟨k, k1, k2, k3, k4⟩ := low j hj
          obtain ⟨k', k1', k2', k3', k4'⟩ := low c (by omega)
          rw [k3, k3']
          rcases Nat.lt_trichotomy k' k with hlt | heq | hgt
          · exact g.ne k k2 k' hlt
          · omega
          · exact fun z => g.ne k' k2' k hgt z.symm
      have hend : itF b l (itF b i p) = itF b 0 (itF b i p) := by
        show itF b l (itF b i p) = itF b i p
        rw [← it_add]; exact per i (by omega)
      have := road_round (most := most) (p := itF b i p) (m := l) (a := 0) g2 (by omega) (by rw [hend]; exact g.ch i (by omega)) (by omega) hend
      rw [this, show a - i = 0 by omega]; rfl
/-! the law's row: once again and again while it is not great -/
def tl (b : List Rul) (p : List Ln) : Nat → Nat
  | 0 => 0
  | i + 1 => if szP (itF b (tl b p i) p) ≤ 200 then tl b p i + 1 else tl b p i
theorem tl_le (b : List Rul) (p : List Ln) : ∀ i, tl b p i ≤ i
  | 0 => Nat.le_refl _
  | i + 1 => by
    have := tl_le b p i
    unfold tl; split <;> omega
theorem tl_sz (b : List Rul) (p : List Ln) : ∀ i j, j < tl b p i → szP (itF b j p) ≤ 200
  | 0, j, h => by simp [tl] at h
  | i + 1, j, h => by
    unfold tl at h
    split at h
    · by_cases e : j = tl b p i
      · rw [e]; assumption
      · exact tl_sz b p i j (by omega)
    · exact tl_sz b p i j h
theorem tl_go {b : List Rul} {p : List Ln} {m : Nat} (h : ∀ j, j < m → szP (itF b j p) ≤ 200) : ∀ i, min i m ≤ tl b p i
  | 0 => by omega
  | i + 1 => by
    have ih := tl_go h i
    have le := tl_le b p i
    unfold tl
    split
    · omega
    · rename_i hs
      by_cases hm : tl b p i < m
      · exact absurd (h _ hm) hs
      · omega
end Eng

/-! CL -/
set_option linter.all false
set_option maxRecDepth 100000
set_option maxHeartbeats 1000000
/-! Lines of a program, each as alone. -/
namespace Eng

/-- the findings of a line -/
def fl1 (b : List Rul) (x : Ln) (k : Nat) : List Fd := (afL b x.t k).filter fun y => !decide (y.r.code ∈ x.hush)
def fdL (b : List Rul) : Nat → List Ln → List Fd
  | _, [] => []
  | k, x :: p => fl1 b x k ++ fdL b (k + 1) p
theorem afL_k {b : List Rul} {t : D} {k : Nat} {y : Fd} (h : y ∈ afL b t k) : y.k = k ∧ y.w ∈ wys 40 t ∧ y.r ∈ b ∧ fnd y.r t y.w = true := by
  unfold afL at h
  obtain ⟨w, hw, h⟩ := List.mem_flatMap.mp h
  unfold afW at h
  obtain ⟨r, hr, rfl⟩ := List.mem_map.mp h
  obtain ⟨h1, h2⟩ := List.mem_filter.mp hr
  exact ⟨rfl, hw, h1, h2⟩
theorem fl1_k {b : List Rul} {x : Ln} {k : Nat} {y : Fd} (h : y ∈ fl1 b x k) : y.k = k := (afL_k (List.mem_filter.mp h).1).1
theorem fd_lines {b : List Rul} {P : List Ln} : ∀ (p pre : List Ln), P = pre ++ p → (afP b pre.length p).filter (fun x => !hushed P x) = fdL b pre.length p
  | [], pre, _ => by simp [afP, fdL]
  | x :: p, pre, e => by
    rw [afP, fdL, List.filter_append]
    congr 1
    · unfold fl1
      refine List.filter_congr fun y hy => ?_
      have hk := (afL_k hy).1
      have : P[y.k]? = some x := by rw [hk, e]; simp
      simp [hushed, this]
    · have := fd_lines (b := b) (P := P) p (pre ++ [x]) (by rw [e]; simp)
      simpa using this
theorem fdP_lines (b : List Rul) (p : List Ln) : fdP b p = fdL b 0 p := fd_lines (P := p) p [] rfl
/-- the same finding in another line -/
def shF (k : Nat) (y : Fd) : Fd := ⟨k, y.w, y.r⟩
theorem afL_sh (b : List Rul) (t : D) (k j : Nat) : afL b t k = (afL b t j).map (shF k) := by
  simp [afL, afW, List.map_flatMap, List.map_map, shF, Function.comp_def]
theorem fl1_sh (b : List Rul) (x : Ln) (k j : Nat) : fl1 b x k = (fl1 b x j).map (shF k) := by
  unfold fl1
  rw [afL_sh b x.t k j, List.filter_map]
  rfl
/-! ### chosen -/
theorem chs_app (p : List Ln) : ∀ (xs ys acc : List Fd), chs p (xs ++ ys) acc = chs p ys (chs p xs acc)
  | [], ys, acc => rfl
  | x :: xs, ys, acc => by rw [List.cons_append, chs, chs, chs_app p xs ys]
theorem chs_far {p : List Ln} : ∀ {xs acc acc2 : List Fd}, (∀ x ∈ xs, ∀ y ∈ acc, apt x y = true) → chs p xs (acc ++ acc2) = acc ++ chs p xs acc2
  | [], acc, acc2, _ => rfl
  | x :: xs, acc, acc2, h => by
    rw [chs, chs]
    have h1 : acc.all (apt x) = true := List.all_eq_true.mpr fun y hy => h x List.mem_cons_self y hy
    have h2 : ∀ x ∈ xs, ∀ y ∈ acc, apt x y = true := fun z hz => h z (List.mem_cons_of_mem _ hz)
    rw [List.all_append, h1, Bool.true_and]
    split
    · rw [List.append_assoc]; exact chs_far h2
    · exact chs_far h2
theorem chs_sub {p : List Ln} : ∀ {xs acc : List Fd} {y : Fd}, y ∈ chs p xs acc → y ∈ acc ∨ y ∈ xs
  | [], acc, y, h => .inl h
  | x :: xs, acc, y, h => by
    rw [chs] at h
    rcases chs_sub h with h | h
    · split at h
      · rcases List.mem_append.mp h with h | h
        · exact .inl h
        · rw [List.mem_singleton] at h; subst h; exact .inr List.mem_cons_self
      · exact .inl h
    · exact .inr (List.mem_cons_of_mem _ h)
theorem apt_far {x y : Fd} (h : x.k ≠ y.k) : apt x y = true := by simp [apt, h]
theorem fdL_k {b : List Rul} : ∀ {p : List Ln} {k : Nat} {y : Fd}, y ∈ fdL b k p → k ≤ y.k
  | [], k, y, h => by simp [fdL] at h
  | x :: p, k, y, h => by
    rw [fdL] at h
    rcases List.mem_append.mp h with h | h
    · have := fl1_k h; omega
    · have := fdL_k h; omega
/-- the chosen findings of a line -/
def ch1 (b : List Rul) (x : Ln) : List Fd := chs [x] (fl1 b x 0) []
def chL (b : List Rul) : Nat → List Ln → List Fd
  | _, [] => []
  | k, x :: p => (ch1 b x).map (shF k) ++ chL b (k + 1) p
theorem mk_line {p : List Ln} {x : Ln} {k : Nat} (h : p[k]? = some x) (y : Fd) : mkF p (shF k y) = mkF [x] (shF 0 y) := by
  simp [mkF, trm, shF, h]
theorem oth_line {p : List Ln} {x : Ln} {k : Nat} (h : p[k]? = some x) (y : Fd) : oth p (shF k y) = oth [x] (shF 0 y) := by
  unfold oth
  rw [mk_line h]
  simp [trm, shF, h]
theorem sh0 {y : Fd} (h : y.k = 0) : shF 0 y = y := by cases y; simp_all [shF]
theorem apt_sh (k : Nat) (x y : Fd) : apt (shF k x) (shF k y) = apt (shF 0 x) (shF 0 y) := by
  unfold apt shF
  simp only [eq_self_iff_true, if_true]
theorem chs_line {p : List Ln} {x : Ln} {k : Nat} (h : p[k]? = some x) : ∀ {xs acc : List Fd}, (∀ y ∈ xs, y.k = 0) → (∀ y ∈ acc, y.k = 0) → chs p (xs.map (shF k)) (acc.map (shF k)) = (chs [x] xs acc).map (shF k)
  | [], acc, _, _ => rfl
  | y :: xs, acc, h1, h2 => by
    have hy := h1 y List.mem_cons_self
    have e1 : oth p (shF k y) = oth [x] y := by rw [oth_line h, sh0 hy]
    have e2 : (acc.map (shF k)).all (apt (shF k y)) = acc.all (apt y) := by
      rw [List.all_map]
      refine Bool.eq_iff_iff.mpr ?_
      simp only [List.all_eq_true, Function.comp_apply]
      refine forall_congr' fun z => forall_congr' fun hz => ?_
      rw [apt_sh, sh0 hy, sh0 (h2 z hz)]
    rw [List.map_cons, chs, chs, e1, e2]
    have h1' : ∀ y ∈ xs, y.k = 0 := fun z hz => h1 z (List.mem_cons_of_mem _ hz)
    split
    · have := chs_line h (xs := xs) (acc := acc ++ [y]) h1' (fun z hz => by
        rcases List.mem_append.mp hz with hz | hz
        · exact h2 z hz
        · rw [List.mem_singleton] at hz; subst hz; exact hy)
      rw [List.map_append] at this
      exact this
    · exact chs_line h h1' h2
theorem ch_lines {b : List Rul} {P : List Ln} : ∀ (p pre : List Ln), P = pre ++ p → chs P (fdL b pre.length p) [] = chL b pre.length p
  | [], pre, _ => rfl
  | x :: p, pre, e => by
    have hx : P[pre.length]? = some x := by rw [e]; simp
    have l1 : chs P (fl1 b x pre.length) [] = (ch1 b x).map (shF pre.length) := by
      rw [fl1_sh b x pre.length 0]
      exact chs_line (acc := []) hx (fun y hy => fl1_k hy) (by simp)
    have ih := ch_lines (b := b) (P := P) p (pre ++ [x]) (by rw [e]; simp)
    rw [List.length_append, List.length_singleton] at ih
    rw [fdL, chs_app, l1, chL, ← ih]
    have := chs_far (p := P) (xs := fdL b (pre.length + 1) p) (acc := (ch1 b x).map (shF pre.length)) (acc2 := []) (fun y hy z hz => by
      obtain ⟨u, _, rfl⟩ := List.mem_map.mp hz
      have := fdL_k hy
      exact apt_far (by simp only [shF]; omega))
    rw [List.append_nil] at this
    exact this
theorem chF_lines (b : List Rul) (p : List Ln) : chF b p = chL b 0 p := by
  unfold chF
  rw [fdP_lines]
  exact ch_lines (P := p) p [] rfl
/-! ### once -/
/-- a line mended -/
def on1 (b : List Rul) (x : Ln) : Ln := ⟨(ch1 b x).foldl (fun t y => ptt t y.w (mkF [x] y)) x.t, x.hush⟩
theorem onc_line {p : List Ln} {x : Ln} {k : Nat} (h : p[k]? = some x) : ∀ {xs : List Fd} {q : List Ln} {y : Ln}, (∀ z ∈ xs, z.k = 0) → q[k]? = some y → onc p (xs.map (shF k)) q = q.set k ⟨xs.foldl (fun t y => ptt t y.w (mkF [x] y)) y.t, y.hush⟩
  | [], q, y, _, hq => by
    have : k < q.length := by rw [List.getElem?_eq_some_iff] at hq; exact hq.1
    simp only [List.map_nil, onc, List.foldl_nil]
    rw [List.getElem?_eq_some_iff] at hq
    obtain ⟨hk, e⟩ := hq
    cases y
    rw [← e, List.set_getElem_self]
  | z :: xs, q, y, h1, hq => by
    have hz := h1 z List.mem_cons_self
    have hk : k < q.length := by rw [List.getElem?_eq_some_iff] at hq; exact hq.1
    have e1 : layF q (shF k z) (mkF p (shF k z)) = q.set k ⟨ptt y.t z.w (mkF [x] z), y.hush⟩ := by
      rw [mk_line h, sh0 hz]
      simp [layF, shF, trm, hsh, hq]
    rw [List.map_cons, show onc p (shF k z :: xs.map (shF k)) q = onc p (xs.map (shF k)) (layF q (shF k z) (mkF p (shF k z))) from rfl, e1]
    rw [onc_line h (y := ⟨ptt y.t z.w (mkF [x] z), y.hush⟩) (fun w hw => h1 w (List.mem_cons_of_mem _ hw)) (by simp [hk]), List.set_set]
    rfl
theorem ch1_k {b : List Rul} {x : Ln} : ∀ y ∈ ch1 b x, y.k = 0 := fun y hy => by
  rcases chs_sub hy with h | h
  · simp at h
  · exact fl1_k h
theorem onc_app (p : List Ln) (xs ys : List Fd) (q : List Ln) : onc p (xs ++ ys) q = onc p ys (onc p xs q) := by simp [onc]
theorem onc_lines {b : List Rul} {P : List Ln} : ∀ (p pre pre' : List Ln), P = pre ++ p → pre'.length = pre.length → onc P (chL b pre.length p) (pre' ++ p) = pre' ++ p.map (on1 b)
  | [], pre, pre', _, _ => by simp [chL, onc]
  | x :: p, pre, pre', e, hl => by
    have hx : P[pre.length]? = some x := by rw [e]; simp
    have hq : (pre' ++ x :: p)[pre.length]? = some x := by rw [← hl]; simp
    rw [chL, onc_app, onc_line hx ch1_k hq]
    have e2 : (pre' ++ x :: p).set pre.length ⟨(ch1 b x).foldl (fun t y => ptt t y.w (mkF [x] y)) x.t, x.hush⟩ = (pre' ++ [on1 b x]) ++ p := by
      rw [← hl, List.set_append_right _ _ (Nat.le_refl _)]
      simp [on1]
    rw [e2]
    have ih := onc_lines (b := b) (P := P) p (pre ++ [x]) (pre' ++ [on1 b x]) (by rw [e]; simp) (by simp [hl])
    rw [List.length_append, List.length_singleton] at ih
    rw [ih]; simp
theorem once_lines (b : List Rul) (p : List Ln) : oncF b p = p.map (on1 b) := by
  unfold oncF
  rw [chF_lines]
  exact onc_lines (P := p) p [] [] rfl rfl
theorem fdL_len {b : List Rul} : ∀ {p : List Ln} {k : Nat}, (fdL b k p).length = (p.map fun x => (fdP b [x]).length).sum
  | [], k => rfl
  | x :: p, k => by
    rw [fdL, List.length_append, fdL_len, List.map_cons, List.sum_cons, fdP_lines b [x], fdL, fdL, List.append_nil, fl1_sh b x k 0, List.length_map]
theorem found_len (b : List Rul) (p : List Ln) : (fdP b p).length = (p.map fun x => (fdP b [x]).length).sum := by rw [fdP_lines]; exact fdL_len
/-! with nothing chosen -/
theorem once_nil {b : List Rul} {p : List Ln} (h : chF b p = []) : oncF b p = p := by unfold oncF; rw [h]; rfl
/-- with all codes hushed nothing is found -/
theorem fd_mute {b : List Rul} {p : List Ln} (h : ∀ x ∈ p, ∀ r ∈ b, r.code ∈ x.hush) : fdP b p = [] := by
  unfold fdP
  refine List.filter_eq_nil_iff.mpr fun x hx => ?_
  obtain ⟨y, _, h2, _, h4, _⟩ := afP_mem hx
  have : p[x.k]? = some y := by simpa using h2
  simp [hushed, this, h y (List.mem_of_getElem? this) x.r h4]
theorem ch_mute {b : List Rul} {p : List Ln} (h : fdP b p = []) : chF b p = [] := by unfold chF; rw [h]; rfl
end Eng

/-! DW -/
set_option linter.all false
set_option maxRecDepth 100000
set_option maxHeartbeats 1000000
/-! What the laws draw; fixed books and programs by a look. -/
namespace Eng
variable {P : Nat → Option Fn} {S : Sto} {n : Nat}

structure Dr (P : Nat → Option Fn) : Prop where
  h6 : P 6 = some F_law_cell
  h7 : P 7 = some F_law_mix
  h8 : P 8 = some F_law_leaf
  h9 : P 9 = some F_law_tree
  h28 : P 28 = some F_law_pattern
  h29 : P 29 = some F_law_holes
  h30 : P 30 = some F_law_fill
  h35 : P 35 = some F_law_mend
  h36 : P 36 = some F_law_nots
  h37 : P 37 = some F_law_book
  h54 : P 54 = some F_law_program
theorem Dr.book (W : Dr P) (hn : 9 ≤ n) {c : Int} {free : Bool} : run P n 37 [.int c, .bl free] S = .ok (bookD (bookN c free)) S := r_bookN W.h7 W.h8 W.h9 W.h28 W.h29 W.h30 W.h35 W.h36 W.h37 hn
theorem Dr.prog (W : Dr P) (hn : 9 ≤ n) {c : Int} : run P n 54 [.int c] S = .ok (prgD (lawProg c)) S := r_prog W.h7 W.h8 W.h9 W.h54 hn
theorem Dr.mix (W : Dr P) (hn : 1 ≤ n) {c p m : Int} (hp : 0 < p) (hp2 : p < 2 ^ 60) (hm : 0 < m) : run P n 7 [.int c, .int p, .int m] S = .ok (.int (lawMix c p m)) S := r_mix W.h7 hn c p m hp hp2 hm
theorem Dr.tree (W : Dr P) {l : Nat} (hn : l + 3 ≤ n) {c : Int} {t : Bool} : run P n 9 [.int c, .int ((l : Int) + 1), .bl t] S = .ok (lawTree (l + 1) c t) S := r_tree W.h7 W.h8 W.h9 l c t hn
theorem Dr.cellm (W : Dr P) (hn : 1 ≤ n) {ns : List Int} {k m : Nat} : run P n 6 [.scr ns, .int ((k : Int) % (m : Int))] S = .ok (.int (lawCell ns (k % m))) S := by
  have := r_cell (S := S) W.h6 hn ns (k % m)
  rw [show ((k % m : Nat) : Int) = (k : Int) % (m : Int) by omega] at this
  exact this
theorem Dr.cell (W : Dr P) (hn : 1 ≤ n) {ns : List Int} (k : Nat) : run P n 6 [.scr ns, .int k] S = .ok (.int (lawCell ns k)) S := r_cell W.h6 hn ns k
theorem bookN_le (c : Int) (free : Bool) : (bookN c free).length ≤ 4 := by
  have := (manyR_le c).2
  simp [bookN]; omega
theorem prog_tm (c : Int) : ∀ x ∈ lawProg c, tm 4 x.t = true := fun x h => (prog_line c x h).t
def noHoleB : D → Bool
  | .str s => !hl s
  | _ => true
def rulB (r : Rul) : Bool := tm 3 r.pat && noHoleB r.pat && (decide (r.mend = .non) || (tm 3 r.mend && (lvs 3 r.mend).all fun s => !hl s || decide (s ∈ lvs 3 r.pat)))
theorem rulB_ok {r : Rul} (h : rulB r = true) : r.Ok := by
  simp only [rulB, Bool.and_eq_true, Bool.or_eq_true, decide_eq_true_eq, List.all_eq_true, Bool.not_eq_true'] at h
  obtain ⟨⟨h1, h2⟩, h3⟩ := h
  refine ⟨h1, fun s e => ?_, ?_⟩
  · rw [e] at h2; simpa [noHoleB] using h2
  · rcases h3 with h3 | ⟨h3, h4⟩
    · exact .inl h3
    · refine .inr ⟨h3, fun s hs hh => ?_⟩
      rcases h4 s hs with h | h
      · rw [h] at hh; cases hh
      · exact h
def ntB (p : D) : Nt → Bool
  | .wit h q => tm 3 q && decide (h ∈ lvs 3 p) && hl h
  | x => tm 3 x.pat
theorem ntB_ok {p : D} {x : Nt} (h : ntB p x = true) : x.Ok p := by
  cases x with
  | wit k q =>
    simp only [ntB, Bool.and_eq_true, decide_eq_true_eq] at h
    refine ⟨h.1.1, fun a b e => ?_⟩
    cases e; exact ⟨h.1.2, h.2⟩
  | _ => exact ⟨h, fun a b e => by cases e⟩
def bkB (b : List Rul) : Bool := decide (b.length ≤ 10) && b.all rulB && (b.all fun r => decide (r.nots.length ≤ 2) && r.nots.all (ntB r.pat)) && decide (b.map Rul.code).Nodup && b.all fun r => decide (r.code ≠ [78, 79, 78, 69])
theorem bkB_ok {b : List Rul} (h : bkB b = true) : BkN b := by
  simp only [bkB, Bool.and_eq_true, decide_eq_true_eq, List.all_eq_true] at h
  obtain ⟨⟨⟨⟨h1, h2⟩, h3⟩, h4⟩, h5⟩ := h
  exact ⟨h1, fun r hr => rulB_ok (h2 r hr), fun r hr => ⟨(h3 r hr).1, fun x hx => ntB_ok ((h3 r hr).2 x hx)⟩, h4, fun r hr => h5 r hr⟩
def prB (p : List Ln) : Bool := decide (p.length ≤ 64) && (p.all fun x => tm 40 x.t) && decide (szP p ≤ 1600000) && p.all fun x => decide (x.hush.length ≤ 1000)
theorem prB_ok {p : List Ln} (h : prB p = true) : PrOk p := by
  simp only [prB, Bool.and_eq_true, decide_eq_true_eq, List.all_eq_true] at h
  obtain ⟨⟨⟨h1, h2⟩, h3⟩, h4⟩ := h
  exact ⟨h1, h2, h3, h4⟩
end Eng

/-! CK -/
set_option linter.all false
set_option maxRecDepth 100000
set_option maxHeartbeats 1000000
/-! Found ones are unlike; chosen ones; orders of mends. -/
namespace Eng

theorem nd_map {a c : Type} {f : a → c} (hf : ∀ x y, f x = f y → x = y) {l : List a} (h : l.Nodup) : (l.map f).Nodup := List.pairwise_map.mpr (h.imp fun {x y} ne e => ne (hf x y e))
/-! ### ways are unlike -/
theorem wysK_nd {f : D → List (List Nat)} : ∀ {ps : List D} {k : Nat}, (∀ p ∈ ps, (f p).Nodup) → (wysK f k ps).Nodup
  | [], k, _ => by simp [wysK]
  | p :: ps, k, h => by
    have ih := wysK_nd (f := f) (ps := ps) (k := k + 1) fun q hq => h q (List.mem_cons_of_mem _ hq)
    have hp := h p List.mem_cons_self
    simp only [wysK]
    rw [List.nodup_append]
    refine ⟨?_, ih, fun a ha b hb e => ?_⟩
    · exact nd_map (fun a b e => by simpa using e) hp
    · subst e
      obtain ⟨v, _, rfl⟩ := List.mem_map.mp ha
      obtain ⟨j, q, v', _, _, e⟩ := wysK_mem hb
      simp at e
      omega
theorem wys_nd : ∀ {l : Nat} {d : D}, (wys l d).Nodup
  | 0, d => by simp [wys]
  | l + 1, d => by
    simp only [wys]
    rw [List.nodup_cons]
    refine ⟨fun h => ?_, wysK_nd fun p _ => wys_nd⟩
    obtain ⟨j, q, v', _, _, e⟩ := wysK_mem h
    simp at e
/-! ### found ones are unlike -/
theorem afW_nd {b : List Rul} (hb : (b.map Rul.code).Nodup) (t : D) (k : Nat) (w : List Nat) : ((afW b t k w).map Fd.d).Nodup := by
  unfold afW
  rw [List.map_map]
  have h1 : ((b.filter fun r => fnd r t w).map Rul.code).Nodup := (List.filter_sublist.map Rul.code).nodup hb
  have h2 : ((Fd.d ∘ fun r => (⟨k, w, r⟩ : Fd))) = (fun c => D.tup [.int k, wayD w, .str c]) ∘ Rul.code := rfl
  rw [h2, ← List.map_map]
  exact nd_map (fun a b e => by simpa using e) h1
theorem afL_nd {b : List Rul} (hb : (b.map Rul.code).Nodup) (t : D) (k : Nat) : ((afL b t k).map Fd.d).Nodup := by
  unfold afL
  have key : ∀ ws : List (List Nat), ws.Nodup → ((ws.flatMap fun w => afW b t k w).map Fd.d).Nodup := by
    intro ws
    induction ws with
    | nil => intro _; simp
    | cons w ws ih =>
      intro h
      rw [List.nodup_cons] at h
      rw [List.flatMap_cons, List.map_append, List.nodup_append]
      refine ⟨afW_nd hb t k w, ih h.2, fun a ha c hc e => ?_⟩
      subst e
      obtain ⟨x, hx, rfl⟩ := List.mem_map.mp ha
      obtain ⟨y, hy, e⟩ := List.mem_map.mp hc
      obtain ⟨v, hv, hy⟩ := List.mem_flatMap.mp hy
      obtain ⟨_, _, rfl⟩ := List.mem_map.mp hx
      obtain ⟨_, _, rfl⟩ := List.mem_map.mp hy
      simp only [Fd.d, D.tup.injEq, List.cons.injEq] at e
      rw [way_inj e.2.1] at hv
      exact h.1 hv
  exact key _ wys_nd
theorem afP_nd {b : List Rul} (hb : (b.map Rul.code).Nodup) : ∀ (p : List Ln) (k : Nat), ((afP b k p).map Fd.d).Nodup
  | [], k => by simp [afP]
  | x :: p, k => by
    rw [afP, List.map_append, List.nodup_append]
    refine ⟨afL_nd hb _ _, afP_nd hb p (k + 1), fun a ha c hc e => ?_⟩
    subst e
    obtain ⟨x, hx, rfl⟩ := List.mem_map.mp ha
    obtain ⟨y, hy, e⟩ := List.mem_map.mp hc
    have h1 := (afL_k hx).1
    obtain ⟨_, h2, _⟩ := afP_mem hy
    simp only [Fd.d, D.tup.injEq, List.cons.injEq, D.int.injEq] at e
    omega
theorem fd_nd {b : List Rul} (hb : BkN b) (p : List Ln) : ((fdP b p).map Fd.d).Nodup := (List.filter_sublist.map Fd.d).nodup (afP_nd hb.nd p 0)
theorem nd_inj {a c : Type} {f : a → c} : ∀ {l : List a}, (l.map f).Nodup → ∀ {x y : a}, x ∈ l → y ∈ l → f x = f y → x = y
  | [], _, x, y, hx, _, _ => by simp at hx
  | z :: l, h, x, y, hx, hy, e => by
    rw [List.map_cons, List.nodup_cons] at h
    rcases List.mem_cons.mp hx with h1 | h1 <;> rcases List.mem_cons.mp hy with h2 | h2
    · rw [h1, h2]
    · subst h1
      exact absurd (List.mem_map.mpr ⟨y, h2, e.symm⟩) h.1
    · subst h2
      exact absurd (List.mem_map.mpr ⟨x, h1, e⟩) h.1
    · exact nd_inj h.2 h1 h2 e
/-! ### chosen ones -/
theorem chs_sub2 {p : List Ln} : ∀ (xs acc : List Fd), ∃ ys, chs p xs acc = acc ++ ys ∧ ys.Sublist xs
  | [], acc => ⟨[], by simp [chs], List.Sublist.slnil⟩
  | x :: xs, acc => by
    rw [chs]
    split
    · obtain ⟨ys, e, h⟩ := chs_sub2 (p := p) xs (acc ++ [x])
      exact ⟨x :: ys, by rw [e]; simp, h.cons₂ x⟩
    · obtain ⟨ys, e, h⟩ := chs_sub2 (p := p) xs acc
      exact ⟨ys, e, h.cons x⟩
theorem ch_sub (b : List Rul) (p : List Ln) : (chF b p).Sublist (fdP b p) := by
  obtain ⟨ys, e, h⟩ := chs_sub2 (p := p) (fdP b p) []
  unfold chF
  rw [e]; exact h
theorem sub_filter {a c : Type} [DecidableEq c] {f : a → c} : ∀ {l s : List a}, s.Sublist l → (l.map f).Nodup → l.filter (fun x => decide (f x ∈ s.map f)) = s
  | _, _, .slnil, _ => rfl
  | x :: l, s, .cons _ h, hn => by
    rw [List.map_cons, List.nodup_cons] at hn
    have : f x ∉ s.map f := fun z => hn.1 ((h.map f).subset z)
    rw [List.filter_cons_of_neg (by simpa using this)]
    exact sub_filter h hn.2
  | x :: l, _ :: s, .cons₂ _ h, hn => by
    rw [List.map_cons, List.nodup_cons] at hn
    rw [List.filter_cons_of_pos (by simp)]
    congr 1
    have : l.filter (fun y => decide (f y ∈ (x :: s).map f)) = l.filter (fun y => decide (f y ∈ s.map f)) := by
      refine List.filter_congr fun y hy => ?_
      rw [decide_eq_decide, List.map_cons, List.mem_cons]
      refine ⟨fun z => z.resolve_left fun e => hn.1 (e ▸ List.mem_map_of_mem hy), .inr⟩
    rw [this]
    exact sub_filter h hn.2
theorem ch_filter {b : List Rul} (hb : BkN b) (p : List Ln) : (fdP b p).filter (fun x => decide (x.d ∈ (chF b p).map Fd.d)) = chF b p := sub_filter (ch_sub b p) (fd_nd hb p)
theorem apt_self (x : Fd) : apt x x = false := by simp [apt]
theorem apt_symm (x y : Fd) : apt x y = apt y x := by
  unfold apt
  by_cases e : x.k = y.k
  · rw [if_pos e, if_pos e.symm, Nat.min_comm]
    congr 1
    rw [decide_eq_decide]
    exact eq_comm
  · rw [if_neg e, if_neg (fun z => e z.symm)]
/-- where it stands -/
def ixF (l : List Fd) (x : Fd) : Nat := (l.findIdx? fun y => decide (y.d = x.d)).getD 0
theorem ix_some {l : List Fd} {x : Fd} (h : x ∈ l) : (l.findIdx? fun y => decide (y.d = x.d)) = some (ixF l x) := by
  unfold ixF
  cases e : l.findIdx? fun y => decide (y.d = x.d) with
  | none =>
    rw [List.findIdx?_eq_none_iff] at e
    have := e x h
    simp at this
  | some j => rfl
theorem ix_pre {pre post : List Fd} {x : Fd} (h : x.d ∉ pre.map Fd.d) : ixF (pre ++ x :: post) x = pre.length := by
  have : ((pre ++ x :: post).findIdx? fun y => decide (y.d = x.d)) = some pre.length := by
    rw [List.findIdx?_append]
    have h1 : (pre.findIdx? fun y => decide (y.d = x.d)) = none := by
      rw [List.findIdx?_eq_none_iff]
      intro y hy
      simp only [decide_eq_false_iff_not]
      exact fun e => h (e ▸ List.mem_map_of_mem hy)
    rw [h1]
    simp [List.findIdx?_cons]
  unfold ixF
  rw [this]; rfl
theorem ix_in {pre post : List Fd} {y : Fd} (h : y ∈ pre) : ixF (pre ++ post) y < pre.length := by
  have h1 := ix_some h
  have : ((pre ++ post).findIdx? fun z => decide (z.d = y.d)) = some (ixF pre y) := by
    rw [List.findIdx?_append, h1]; rfl
  have e : ixF (pre ++ post) y = ixF pre y := by
    show ((pre ++ post).findIdx? _).getD 0 = _
    rw [this]; rfl
  rw [e]
  obtain ⟨hj, _⟩ := List.findIdx?_eq_some_iff_getElem.mp h1
  exact hj
/-- the chosen ones near a finding, not behind it -/
def nearF (b : List Rul) (p : List Ln) (x : Fd) : List Fd := (chF b p).filter fun y => !apt x y && decide (ixF (fdP b p) y ≤ ixF (fdP b p) x)
theorem near_oth {b : List Rul} (hb : BkN b) {p : List Ln} {x : Fd} (hx : x ∈ fdP b p) (ho : oth p x = true) : nearF b p x ≠ [] := by
  obtain ⟨pre, post, e⟩ := List.append_of_mem hx
  have nd := fd_nd hb p
  rw [e, List.map_append, List.nodup_append] at nd
  have hpre : x.d ∉ pre.map Fd.d := fun z => nd.2.2 _ z _ (by simp) rfl
  have ch : chF b p = chs p post (if oth p x && (chs p pre []).all (apt x) then chs p pre [] ++ [x] else chs p pre []) := by
    unfold chF
    rw [e, chs_app, chs]
  have hin : ∀ y, (y ∈ pre ∨ y = x) → ixF (fdP b p) y ≤ ixF (fdP b p) x := fun y hy => by
    rw [e, ix_pre hpre]
    rcases hy with hy | rfl
    · exact Nat.le_of_lt (ix_in hy)
    · rw [ix_pre hpre]; exact Nat.le_refl _
  intro hnil
  have none_ : ∀ y ∈ chF b p, apt x y = true ∨ ¬ ixF (fdP b p) y ≤ ixF (fdP b p) x := fun y hy => by
    have := List.filter_eq_nil_iff.mp hnil y hy
    simp only [Bool.and_eq_true, Bool.not_eq_true', decide_eq_true_eq, not_and] at this
    by_cases h : apt x y = true
    · exact .inl h
    · exact .inr (this (by simpa using h))
  have sub : ∀ y ∈ (if oth p x && (chs p pre []).all (apt x) then chs p pre [] ++ [x] else chs p pre []), y ∈ chF b p := fun y hy => by
    rw [ch]
    obtain ⟨ys, e2, _⟩ := chs_sub2 (p := p) post (if oth p x && (chs p pre []).all (apt x) then chs p pre [] ++ [x] else chs p pre [])
    rw [e2]
    exact List.mem_append_left _ hy
  by_cases hall : (chs p pre []).all (apt x) = true
  · rw [ho, hall] at sub
    have := none_ x (sub x (by simp))
    rcases this with h | h
    · rw [apt_self] at h; cases h
    · exact h (hin x (.inr rfl))
  · rw [ho, Bool.true_and] at sub
    rw [if_neg hall] at sub
    rw [List.all_eq_true] at hall
    apply hall
    intro y hy
    have hyp : y ∈ pre := (chs_sub hy).resolve_left (by simp)
    rcases none_ y (sub y hy) with h | h
    · exact h
    · exact absurd (hin y (.inl hyp)) h
theorem near_not {b : List Rul} (hb : BkN b) {p : List Ln} {x : Fd} (hx : x ∈ fdP b p) (ho : oth p x = false) : (nearF b p x).map Fd.d ≠ [x.d] := by
  intro h
  have hm : x.d ∈ (nearF b p x).map Fd.d := by rw [h]; simp
  obtain ⟨y, hy, e⟩ := List.mem_map.mp hm
  have hy := (List.mem_filter.mp hy).1
  obtain ⟨h1, h2⟩ := (ch_ok (b := b) (p := p)).1 y hy
  have : y = x := nd_inj (fd_nd hb p) h1 hx e
  rw [this, ho] at h2
  cases h2
/-! ### orders -/
theorem ptt_comm : ∀ {v w : List Nat} {t d e : D}, v.take (min v.length w.length) ≠ w.take (min v.length w.length) → ptt (ptt t v d) w e = ptt (ptt t w e) v d
  | [], w, t, d, e, h => by simp at h
  | k :: v, [], t, d, e, h => by simp at h
  | k :: v, j :: w, t, d, e, h => by
    cases t with
    | tup xs =>
      cases xs with
      | nil => simp [ptt]
      | cons f ps =>
        simp only [ptt]
        congr 2
        by_cases hkj : k = j
        · subst hkj
          have h' : v.take (min v.length w.length) ≠ w.take (min v.length w.length) := fun z => h (by
            simp only [List.length_cons, Nat.add_min_add_right, List.take_succ_cons, z])
          by_cases hk : k < ps.length
          · have g1 : ∀ x : D, (ps.set k x).getD k .non = x := fun x => by simp [List.getD_eq_getElem?_getD, hk]
            rw [g1, g1, List.set_set, List.set_set, ptt_comm h']
          · rw [List.set_eq_of_length_le (by simp; omega), List.set_eq_of_length_le (by omega), List.set_eq_of_length_le (by simp; omega), List.set_eq_of_length_le (by omega)]
        · have g1 : ∀ x : D, (ps.set k x).getD j .non = ps.getD j .non := fun x => by simp [List.getD_eq_getElem?_getD, List.getElem?_set_ne hkj]
          have g2 : ∀ x : D, (ps.set j x).getD k .non = ps.getD k .non := fun x => by simp [List.getD_eq_getElem?_getD, List.getElem?_set_ne (fun z => hkj z.symm)]
          rw [g1, g2, List.set_comm _ _ hkj]
    | _ => simp [ptt]
theorem lay_comm {q : List Ln} {x y : Fd} {d e : D} (h : apt x y = true) : layF (layF q x d) y e = layF (layF q y e) x d := by
  by_cases hx : x.k < q.length
  · by_cases hy : y.k < q.length
    · unfold layF
      rw [show trm (q.set x.k ⟨ptt (trm q x.k) x.w d, hsh q x.k⟩) y.k = trm (layF q x d) y.k from rfl, show hsh (q.set x.k ⟨ptt (trm q x.k) x.w d, hsh q x.k⟩) y.k = hsh (layF q x d) y.k from rfl,
        show trm (q.set y.k ⟨ptt (trm q y.k) y.w e, hsh q y.k⟩) x.k = trm (layF q y e) x.k from rfl, show hsh (q.set y.k ⟨ptt (trm q y.k) y.w e, hsh q y.k⟩) x.k = hsh (layF q y e) x.k from rfl]
      rw [trm_lay hx, trm_lay hy, hsh_lay hx, hsh_lay hy]
      by_cases ek : x.k = y.k
      · rw [if_pos ek, if_pos ek.symm]
        have ha : x.w.take (min x.w.length y.w.length) ≠ y.w.take (min x.w.length y.w.length) := by
          simpa [apt, ek] using h
        rw [← ek, List.set_set, List.set_set, ptt_comm ha]
      · rw [if_neg ek, if_neg (fun z => ek z.symm), List.set_comm _ _ ek]
    · have e1 : ∀ r : List Ln, r.length = q.length → layF r y e = r := fun r hr => by unfold layF; rw [List.set_eq_of_length_le (by omega)]
      rw [e1 _ lay_len, e1 _ rfl]
  · have e1 : ∀ r : List Ln, r.length = q.length → layF r x d = r := fun r hr => by unfold layF; rw [List.set_eq_of_length_le (by omega)]
    rw [e1 _ rfl, e1 _ lay_len]
theorem onc_push {p : List Ln} {x : Fd} : ∀ {xs : List Fd} {q : List Ln}, (∀ y ∈ xs, apt x y = true) → onc p xs (layF q x (mkF p x)) = layF (onc p xs q) x (mkF p x)
  | [], q, _ => rfl
  | y :: xs, q, h => by
    show onc p xs (layF (layF q x (mkF p x)) y (mkF p y)) = layF (onc p xs (layF q y (mkF p y))) x (mkF p x)
    rw [lay_comm (h y List.mem_cons_self)]
    exact onc_push fun z hz => h z (List.mem_cons_of_mem _ hz)
theorem onc_rev {p : List Ln} : ∀ {xs : List Fd} {q : List Ln}, xs.Pairwise (fun x y => apt y x = true) → onc p xs.reverse q = onc p xs q
  | [], q, _ => rfl
  | x :: xs, q, h => by
    rw [List.pairwise_cons] at h
    rw [List.reverse_cons, onc_app, onc_rev h.2]
    show layF (onc p xs q) x (mkF p x) = onc p xs (layF q x (mkF p x))
    rw [onc_push fun y hy => by rw [apt_symm]; exact h.1 y hy]
theorem once_rev (b : List Rul) (p : List Ln) : onc p (chF b p).reverse p = oncF b p := onc_rev (ch_ok (b := b) (p := p)).2
theorem OkQ.rev {b : List Rul} {l : Nat} {p : List Ln} (hp : ∀ x ∈ p, Eng.tm l x.t = true) : OkQ b l p p (chF b p).reverse := by
  have h : OkQ b l p p (chF b p) := OkQ.init hp
  refine ⟨h.len, h.tm, h.hsh, fun x hx => h.ok x (List.mem_reverse.mp hx), ?_⟩
  rw [List.pairwise_reverse]
  exact h.pw.imp fun {a c} z => by rw [apt_symm]; exact z
end Eng

/-! D3 -/
set_option linter.all false
set_option maxRecDepth 100000
set_option maxHeartbeats 1000000
/-! The law's row of programs; _law_is_road. -/
namespace Eng
variable {P : Nat → Option Fn} {S : Sto} {n : Nat}

theorem it_ok {b : List Rul} (hb : BkN b) (h4 : b.length ≤ 4) {l : Nat} {p : List Ln} (hp : PrOk p) (ht : ∀ x ∈ p, tm l x.t = true) : ∀ (m : Nat), l + 2 * m ≤ 40 → (∀ j, j < m → szP (itF b j p) ≤ 200) → PrOk (itF b m p) ∧ ∀ x ∈ itF b m p, tm (l + 2 * m) x.t = true
  | 0, _, _ => ⟨hp, ht⟩
  | m + 1, hl, hs => by
    obtain ⟨h1, h2⟩ := it_ok hb h4 hp ht m (by omega) fun j hj => hs j (by omega)
    exact ⟨prok_once hb h4 (by omega) h1 h2 (hs m (by omega)), (onc_tm hb h2).2.1⟩
/-- the row as the law has it -/
def rowD (b : List Rul) (p : List Ln) (t : Nat) : List D := (seenF b p (t + 1)).map prgD
theorem row_at {b : List Rul} {p : List Ln} {t j : Nat} (h : j ≤ t) : (rowD b p t)[j]? = some (prgD (itF b j p)) := by
  simp [rowD, seenF, List.getElem?_map, List.getElem?_range (show j < t + 1 by omega)]
theorem row_len {b : List Rul} {p : List Ln} {t : Nat} : (rowD b p t).length = t + 1 := by simp [rowD, seen_len]
theorem row_succ {b : List Rul} {p : List Ln} {t : Nat} : rowD b p (t + 1) = rowD b p t ++ [prgD (itF b (t + 1) p)] := by
  unfold rowD
  rw [seen_succ, List.map_append]; rfl
theorem idx_loc {ds : List D} {k : Nat} {i : Int} (h : S[k]? = some (.lst ds)) : pr .idx [.loc k, .int i] S = ofO (atI ds i) S := by simp [pr, rs_loc h]
theorem row_last {b : List Rul} {p : List Ln} {t : Nat} : atI (rowD b p t) (-1) = some (prgD (itF b t p)) := by
  have hl := row_len (b := b) (p := p) (t := t)
  unfold atI ixN
  rw [if_neg (by omega), if_pos (by rw [hl]; omega)]
  simp only [Option.bind_some]
  rw [hl, show ((-1 : Int) + ((t + 1 : Nat) : Int)).toNat = t by omega]
  exact row_at (Nat.le_refl _)
theorem r_sizeof (h13 : P 13 = some F_parts_of) (h71 : P 71 = some F_size) (hn : 42 ≤ n) {p : List Ln} (hp : PrOk p) {e : E} {s : Env} {f : D → Env} {i : Nat} (he : evs (run P n) [e] s S = .ok [prgD p] S) (hw : ∀ d : D, bindT [i] false d (wipe s [i]) = some (f d)) (hg : ∀ d, getV (f d) i S = .ok d S) :
    ev (run P n) (.pr .sum [.comp [i] [i] false .seq [e] [] (.call 71 [.pr .idx [.var i, .con (.int 0)]])]) s S = .ok (.int (szP p : Nat)) S := by
  have hl := hp.len
  have cm : ev (run P n) (.comp [i] [i] false .seq [e] [] (.call 71 [.pr .idx [.var i, .con (.int 0)]])) s S = .ok (.lst ((p.map fun x => sz 40 x.t).map fun (k : Nat) => D.int k)) S := by
    rw [List.map_map]
    refine ev_mapA (f := Ln.d) (ds := [prgD p]) (l := none) he rfl (by unfold szL; omega) rfl fun x hx => ⟨f x.d, hw x.d, ?_⟩
    have := r_size (S := S) h13 h71 (n := n) (hp.tt x hx) (by omega)
    have g := hg x.d
    simp only [ev_call, evs_cons, evs_nil, ev_pr, ev_var, ev_con, g, bOk]
    simp only [Ln.d, p_idxT, at0, oS, bOk]
    rw [this]; rfl
  rw [ev_pr, evs_cons, cm]
  simp only [bOk, evs_nil, p_sumN, ← szP_sum]
theorem row_loop (R : Road P) (hn : 70 ≤ n) {b : List Rul} (hb : BkN b) (h4 : b.length ≤ 4) {p : List Ln} (hp : PrOk p) {l most : Nat} (ht : ∀ x ∈ p, tm l x.t = true) (hm : l + 2 * most ≤ 40) {o0 o2 o3 o6 o7 : Option D} {kc : Sto → Bool} (hkc : ∀ S, kc S = true) : ∀ (c i : Nat) (a5 : Option D), i + c = most →
    ∃ a5', forL (fun d s => bindT [5] false d s) (fun s S => exs (run P n) [.ite (.pr .le [.pr .sum [.comp [8] [8] false .seq [.pr .idx [.var 4, .pr .neg [.con (.int 1)]]] [] (.call 71 [.pr .idx [.var 8, .con (.int 0)]])], .con (.int 200)]) [.expr (.mth .app (.var 4) [.call 53 [.pr .idx [.var 4, .pr .neg [.con (.int 1)]], .var 1]])] []] s S) kc ((List.range' i c).map fun (j : Nat) => .int j) [o0, some (bookD b), o2, o3, some (.loc S.length), a5, o6, o7, none, none] (S ++ [MO.lst (rowD b p (tl b p i))])
      = .nx [o0, some (bookD b), o2, o3, some (.loc S.length), a5', o6, o7, none, none] (S ++ [MO.lst (rowD b p (tl b p most))])
  | 0, i, a5, h => ⟨a5, by simp [forL, show i = most by omega]⟩
  | c + 1, i, a5, h => by
    obtain ⟨a5', ih⟩ := row_loop R hn hb h4 hp ht hm (o0 := o0) (o2 := o2) (o3 := o3) (o6 := o6) (o7 := o7) hkc c (i + 1) (some (.int i)) (by omega)
    rw [List.range'_succ, List.map_cons]
    have tle := tl_le b p i
    obtain ⟨ok, ot⟩ := it_ok hb h4 hp ht (tl b p i) (by omega) (tl_sz b p i)
    have sa : (S ++ [MO.lst (rowD b p (tl b p i))])[S.length]? = some (.lst (rowD b p (tl b p i))) := sto_at
    have ix := idx_loc (i := -1) sa
    rw [row_last] at ix
    have sz_ := r_sizeof (S := S ++ [MO.lst (rowD b p (tl b p i))]) R.h13 R.h71 (n := n) (by omega) ok (e := .pr .idx [.var 4, .pr .neg [.con (.int 1)]]) (s := [o0, some (bookD b), o2, o3, some (.loc S.length), some (.int i), o6, o7, none, none]) (f := fun d => [o0, some (bookD b), o2, o3, some (.loc S.length), some (.int i), o6, o7, some d, none]) (i := 8) (by
      simp only [evs_cons, evs_nil, ev_pr, ev_var, ev_con, getV, List.getElem?_cons_succ, List.getElem?_cons_zero, bOk, p_neg, ix, oS]) (fun _ => rfl) (fun _ => rfl)
    have te : tst (ev (run P n) (.pr .le [.pr .sum [.comp [8] [8] false .seq [.pr .idx [.var 4, .pr .neg [.con (.int 1)]]] [] (.call 71 [.pr .idx [.var 8, .con (.int 0)]])], .con (.int 200)]) [o0, some (bookD b), o2, o3, some (.loc S.length), some (.int i), o6, o7, none, none] (S ++ [MO.lst (rowD b p (tl b p i))])) = .ok (decide (szP (itF b (tl b p i) p) ≤ 200)) (S ++ [MO.lst (rowD b p (tl b p i))]) := by
      rw [ev_pr, evs_cons, sz_]
      have q : decide ((szP (itF b (tl b p i) p) : Int) ≤ 200) = decide (szP (itF b (tl b p i) p) ≤ 200) := decide_eq_decide.mpr (by omega)
      simp only [bOk, evs_cons, evs_nil, ev_con, p_le, q, tst_ok, tr_bl, oS]
    by_cases hs : szP (itF b (tl b p i) p) ≤ 200
    · rw [decide_eq_true hs] at te
      have e1 : tl b p (i + 1) = tl b p i + 1 := by rw [tl, if_pos hs]
      rw [e1] at ih
      refine ⟨a5', forL_nx [o0, some (bookD b), o2, o3, some (.loc S.length), some (.int i), o6, o7, none, none] (S ++ [MO.lst (rowD b p (tl b p i + 1))]) rfl ?_ (hkc _) ih⟩
      refine (xs_nx ((ex_itT te).trans ((xs_nx (s2 := [o0, some (bookD b), o2, o3, some (.loc S.length), some (.int i), o6, o7, none, none]) (S2 := S ++ [MO.lst (rowD b p (tl b p i + 1))]) ?_).trans exs_nil))).trans exs_nil
      have ro := r_once (S := S ++ [MO.lst (rowD b p (tl b p i))]) R.toLib2 R.h49 R.h51 R.h52 R.h53 (n := n) (by omega) hb ok
      have ap := app_at (S := S) (xs := rowD b p (tl b p i)) (x := prgD (oncF b (itF b (tl b p i) p))) (by rw [row_len]; unfold szL; omega)
      have oa := okA (S := S) (xs := rowD b p (tl b p i))
      rw [show rowD b p (tl b p i) ++ [prgD (oncF b (itF b (tl b p i) p))] = rowD b p (tl b p i + 1) from row_succ.symm] at ap
      rw [ex_expr, ev_mth]
      simp only [ev_var, getV, List.getElem?_cons_succ, List.getElem?_cons_zero, bOk, oa, if_true, evs_cons, evs_nil, ev_call, ev_pr, ev_con, p_neg, ix, oS, ro, ap, outE_ok]
    · rw [decide_eq_false hs] at te
      have e1 : tl b p (i + 1) = tl b p i := by rw [tl, if_neg hs]
      rw [e1] at ih
      refine ⟨a5', forL_nx [o0, some (bookD b), o2, o3, some (.loc S.length), some (.int i), o6, o7, none, none] (S ++ [MO.lst (rowD b p (tl b p i))]) rfl ?_ (hkc _) ih⟩
      exact (xs_nx ((ex_itF te).trans exs_nil)).trans exs_nil
theorem p_neP {p q : List Ln} (hp : PrOk p) (hq : PrOk q) : pr .ne [prgD p, prgD q] S = .ok (.bl (!decide (p = q))) S := by
  have e1 : rs S (prgD p) = prgD p := rfl
  have e2 : rs S (prgD q) = prgD q := rfl
  have d1 := prg_dp hp.tt
  have d2 := prg_dp hq.tt
  rw [p_ne (by rw [e1]; unfold dpL; omega) (by rw [e2]; unfold dpL; omega), e1, e2, prg_eqv hp hq]
theorem p_eqP {p q : List Ln} (hp : PrOk p) (hq : PrOk q) : pr .eq [prgD p, prgD q] S = .ok (.bl (decide (p = q))) S := by
  have e1 : rs S (prgD p) = prgD p := rfl
  have e2 : rs S (prgD q) = prgD q := rfl
  have d1 := prg_dp hp.tt
  have d2 := prg_dp hq.tt
  rw [p_eq (by rw [e1]; unfold dpL; omega) (by rw [e2]; unfold dpL; omega), e1, e2, prg_eqv hp hq]
theorem ch_ne {xs : List Fd} : pr .ne [.tup (xs.map Fd.d), .tup []] S = .ok (.bl (!decide (xs = []))) S := by
  have d0 : D.dps (xs.map Fd.d) ≤ 100 := dps_le.mpr fun d hd => (Fds_neat _ d hd).2
  rw [p_ne (by simp only [rs_tup, dp_tup, dpL]; omega) (by simp [dpL, D.dps])]
  cases xs <;> simp [D.eqv, D.eqvs]
theorem row_nat {b : List Rul} {p : List Ln} {t j : Nat} (h : j ≤ t) : atI (rowD b p t) (j : Int) = some (prgD (itF b j p)) := by rw [atI_nat, row_at h]
theorem isroad_end (R : Road P) (hn : 70 ≤ n) {b : List Rul} (hb : BkN b) {p : List Ln} {most T K : Nat} (hmost : most ≤ 1000) {S1 : Sto} (sa : S1[K]? = some (.lst (rowD b p T))) (hT : tl b p most = T) (okT : ∀ j, j ≤ T → PrOk (itF b j p)) {rd : Rd} (me : Ends b most p rd) (a5 : Option D) :
    exs (run P n) (F_law_is_road.body.drop 3) [some (prgD p), some (bookD b), some (.int most), some rd.d, some (.loc K), a5, none, none, none, none] S1 = .rt (.bl true) S1 := by
  have ixj : ∀ j : Nat, j ≤ T → pr .idx [.loc K, .int j] S1 = .ok (prgD (itF b j p)) S1 := fun j hj => by
    rw [idx_loc sa, row_nat hj]; rfl
  have rc : ∀ j : Nat, j ≤ T → run P n 52 [prgD (itF b j p), bookD b] S1 = .ok (.tup ((chF b (itF b j p)).map Fd.d)) S1 := fun j hj => r_chosen R.toLib2 R.h51 R.h52 (n := n) (by omega) hb (okT j hj)
  show exs (run P n) [_, _, _] _ _ = _
  cases me with
  | rest m g hm2 hc =>
    have hmT : m ≤ T := by
      have := tl_go (b := b) (p := p) g.sz most
      rw [hT] at this; omega
    refine xs_rt ((ex_itT (S1 := S1) (by simp [getV, Rd.d])).trans ?_)
    have n1 := p_neP (S := S1) (okT m hmT) (okT m hmT)
    have n2 := ch_ne (S := S1) (xs := chF b (itF b m p))
    rw [decide_eq_true hc] at n2
    have c1 := rc m hmT
    have i1 := ixj m hmT
    refine (xs_nx (s2 := [some (prgD p), some (bookD b), some (.int most), some (Rd.rest (itF b m p) m).d, some (.loc K), a5, none, none, none, none]) (S2 := S1) ((ex_itF (S1 := S1) ?_).trans exs_nil)).trans (xs_rt ?_)
    · simp only [Rd.d]
      simp only [ev_or, ev_pr, evs_cons, evs_nil, ev_call, ev_var, ev_con, ev_tup, getV, List.getElem?_cons_succ, List.getElem?_cons_zero, bOk, p_idxT, at1, at2, oS, i1, n1, c1, n2, tr_bl, tst_ok, oS, decide_true, Bool.not_true]
    · simp only [Rd.d]
      by_cases m0 : m = 0
      · subst m0
        have q : (((0 : Nat) : Int) == 0) = true := rfl
        simp only [ex_ret, ev_or, ev_pr, evs_cons, evs_nil, ev_var, ev_con, getV, List.getElem?_cons_succ, List.getElem?_cons_zero, bOk, p_idxT, at2, oS, p_eqI, q, tr_bl, outE_ok]
      · have q : ((m : Int) == 0) = false := by rw [beq_eq_false_iff_ne]; omega
        have i2 := ixj (m - 1) (by omega)
        rw [show ((m - 1 : Nat) : Int) = (m : Int) - 1 by omega] at i2
        have c2 := rc (m - 1) (by omega)
        have n3 := ch_ne (S := S1) (xs := chF b (itF b (m - 1) p))
        rw [decide_eq_false (g.ch (m - 1) (by omega))] at n3
        simp only [ex_ret, ev_or, ev_pr, evs_cons, evs_nil, ev_call, ev_var, ev_con, ev_tup, getV, List.getElem?_cons_succ, List.getElem?_cons_zero, bOk, p_idxT, at2, oS, p_eqI, q, tr_bl, p_sub, i2, c2, n3, outE_ok, Bool.not_false]
  | round m a g hm2 hc ha e =>
    have hmT : m ≤ T := by
      have := tl_go (b := b) (p := p) g.sz most
      rw [hT] at this; omega
    refine (xs_nx ((ex_itF (S1 := S1) (by simp [getV, Rd.d])).trans exs_nil)).trans ?_
    refine xs_rt ((ex_itT (S1 := S1) (by simp [getV, Rd.d])).trans ?_)
    have cu : cut [D.str [114, 111, 117, 110, 100], .int a, .int (m - a : Nat)] (some 1) none = [.int a, .int (m - a : Nat)] := by
      rw [show (1 : Int) = ((1 : Nat) : Int) from rfl, cut_from]; rfl
    refine (xs_nx (s2 := [some (prgD p), some (bookD b), some (.int most), some (Rd.round a (m - a)).d, some (.loc K), a5, some (.int a), some (.int (m - a : Nat)), none, none]) (S2 := S1) ?_).trans (xs_rt ?_)
    · simp only [Rd.d]
      simp only [ex_unp, ev_pr, evs_cons, evs_nil, ev_var, ev_con, getV, List.getElem?_cons_succ, List.getElem?_cons_zero, bOk, p_slT0, cu, outE_ok]
      rfl
    · have i1 := ixj a (by omega)
      have i2 := ixj m hmT
      have am : (a : Int) + ((m - a : Nat) : Int) = (m : Int) := by omega
      have e1 := p_eqP (S := S1) (okT a (by omega)) (okT m hmT)
      rw [decide_eq_true e.symm] at e1
      have cm : ev (run P n) (.comp [9] [9] false .rng [.pr .add [.var 6, .var 7]] [.pr .isin [.pr .idx [.var 4, .var 9], .pr (.slc false true) [.var 4, .var 9]]] (.var 9)) [some (prgD p), some (bookD b), some (.int most), some (Rd.round a (m - a)).d, some (.loc K), a5, some (.int a), some (.int (m - a : Nat)), none, none] S1 = .ok (.lst []) S1 := by
        have key := ev_fmA (G := run P n) (S := S1) (s := [some (prgD p), some (bookD b), some (.int most), some (Rd.round a (m - a)).d, some (.loc K), a5, some (.int a), some (.int (m - a : Nat)), none, none]) (own := [9]) (tg := [9]) (un := false) (k := .rng) (srcs := [.pr .add [.var 6, .var 7]]) (elt := .var 9) (c := .pr .isin [.pr .idx [.var 4, .var 9], .pr (.slc false true) [.var 4, .var 9]]) (f := fun (j : Nat) => D.int j) (g := fun (j : Nat) => D.int j) (t := fun _ => false) (xs := List.range m) (ds := [.int m]) (l := none) (by
          simp only [evs_cons, evs_nil, ev_pr, ev_var, getV, List.getElem?_cons_succ, List.getElem?_cons_zero, bOk, p_addI, am]) (by rw [it_rng, if_pos (by omega), Int.toNat_natCast]) (by rw [List.length_range]; unfold szL; omega) rfl (fun j hj => ⟨[some (prgD p), some (bookD b), some (.int most), some (Rd.round a (m - a)).d, some (.loc K), a5, some (.int a), some (.int (m - a : Nat)), none, some (.int j)], rfl, ?_, fun z => by cases z⟩)
        · rw [show (List.range m).filter (fun _ => false) = [] from List.filter_eq_nil_iff.mpr (by simp)] at key
          exact key
        · have hj := List.mem_range.mp hj
          have i3 := ixj j (by omega)
          have sl : pr (.slc false true) [.loc K, .int j] S1 = .ok (.lst ((seenF b p j).map prgD)) S1 := by
            simp only [pr, rs_loc sa]
            show Res.ok (D.lst (cut (rowD b p T) none (some (j : Int)))) S1 = _
            rw [cut_to]
            unfold rowD seenF
            rw [← List.map_take, ← List.map_take, List.take_range, Nat.min_eq_left (by omega)]
          have nn : ∀ d ∈ (seenF b p j).map prgD, d.neat = true ∧ d.dp ≤ 100 := fun d hd => by
            obtain ⟨q, hq, rfl⟩ := List.mem_map.mp hd
            obtain ⟨i, hi, rfl⟩ := seen_mem.mp hq
            exact ⟨prg_neat (okT i (by omega)).tt, Nat.le_trans (prg_dp (okT i (by omega)).tt) (by omega)⟩
          have ii := isin_L (S := S1) (x := prgD (itF b j p)) (prg_neat (okT j (by omega)).tt) (Nat.le_trans (prg_dp (okT j (by omega)).tt) (by omega)) (fun s z => by simp [prgD] at z) nn
          rw [decide_eq_false (fun z => by
            obtain ⟨i, hi, e2⟩ := seen_mem.mp (prg_mem.mp z)
            exact g.ne j hj i hi e2)] at ii
          simp only [ev_pr, evs_cons, evs_nil, ev_var, getV, List.getElem?_cons_succ, List.getElem?_cons_zero, bOk, i3, sl, ii, tst_ok, tr_bl, oS]
      have e2 : pr .eq [.lst [], .lst []] S1 = .ok (.bl true) S1 := rfl
      rw [ex_ret, ev_and]
      have l1 : ev (run P n) (.pr .eq [.pr .idx [.var 4, .var 6], .pr .idx [.var 4, .pr .add [.var 6, .var 7]]]) [some (prgD p), some (bookD b), some (.int most), some (Rd.round a (m - a)).d, some (.loc K), a5, some (.int a), some (.int (m - a : Nat)), none, none] S1 = .ok (.bl true) S1 := by
        simp only [ev_pr, evs_cons, evs_nil, ev_var, getV, List.getElem?_cons_succ, List.getElem?_cons_zero, bOk, i1, p_addI, am, i2, e1]
      have l2 : ev (run P n) (.pr .eq [.comp [9] [9] false .rng [.pr .add [.var 6, .var 7]] [.pr .isin [.pr .idx [.var 4, .var 9], .pr (.slc false true) [.var 4, .var 9]]] (.var 9), .lst []]) [some (prgD p), some (bookD b), some (.int most), some (Rd.round a (m - a)).d, some (.loc K), a5, some (.int a), some (.int (m - a : Nat)), none, none] S1 = .ok (.bl true) S1 := by
        rw [ev_pr, evs_cons, cm]
        simp only [bOk, evs_cons, evs_nil, ev_lst, e2]
      rw [l1, bOk, tr_bl]
      show outE _ (ev _ _ _ _) _ = _
      rw [l2, outE_ok]
  | opn m g hm2 hc hn2 ho =>
    have hmT : m ≤ T := by
      have := tl_go (b := b) (p := p) g.sz most
      rw [hT] at this; omega
    refine (xs_nx ((ex_itF (S1 := S1) (by simp [getV, Rd.d])).trans exs_nil)).trans ?_
    refine (xs_nx ((ex_itF (S1 := S1) (by simp [getV, Rd.d])).trans exs_nil)).trans (xs_rt ?_)
    have nn : ∀ d ∈ rowD b p T, d.neat = true ∧ d.dp ≤ 100 := fun d hd => by
      obtain ⟨q, hq, rfl⟩ := List.mem_map.mp hd
      obtain ⟨i, hi, rfl⟩ := seen_mem.mp hq
      exact ⟨prg_neat (okT i (by omega)).tt, Nat.le_trans (prg_dp (okT i (by omega)).tt) (by omega)⟩
    have ii := isin_loc sa (x := prgD (itF b m p)) (prg_neat (okT m hmT).tt) (Nat.le_trans (prg_dp (okT m hmT).tt) (by omega)) (fun s z => by simp [prgD] at z) nn
    rw [decide_eq_true (List.mem_of_getElem? (row_at hmT))] at ii
    have c1 := rc m hmT
    have n2 := ch_ne (S := S1) (xs := chF b (itF b m p))
    rw [decide_eq_false hc] at n2
    simp only [Rd.d]
    simp only [ex_ret, ev_and, ev_pr, evs_cons, evs_nil, ev_call, ev_var, ev_con, ev_tup, getV, List.getElem?_cons_succ, List.getElem?_cons_zero, bOk, p_idxT, at1, oS, ii, tr_bl, c1, n2, outE_ok, Bool.not_false]
theorem r_isroad (R : Road P) (h : P 100 = some F_law_is_road) (hn : 72 ≤ n) {b : List Rul} (hb : BkN b) (h4 : b.length ≤ 4) {p : List Ln} (hp : PrOk p) {l most : Nat} (ht : ∀ x ∈ p, tm l x.t = true) (hm : l + 2 * most ≤ 40) : run P n 100 [prgD p, bookD b, .int most] S = .ok (.bl true) S := by
  obtain ⟨n, rfl⟩ : ∃ k, n = k + 1 := ⟨n - 1, by omega⟩
  have rm := r_mended (S := S) R (n := n) (by omega) hb h4 hp ht hm
  obtain ⟨a5, lp⟩ := row_loop (S := S) R (n := n) (by omega) hb h4 hp ht hm (o0 := some (prgD p)) (o2 := some (.int most)) (o3 := some (roadF b most p).d) (o6 := none) (o7 := none) (kc := chk ((List.range most).map fun (j : Nat) => .int j) none) (fun _ => rfl) most 0 none (by omega)
  rw [← List.range_eq_range'] at lp
  rw [run_e h _ _ [some (prgD p), some (bookD b), some (.int most), none, none, none, none, none, none, none] rfl rfl]
  refine fx_nx [some (prgD p), some (bookD b), some (.int most), some (roadF b most p).d, none, none, none, none, none, none] S (by simp [getV, rm]) ?_
  refine fx_nx [some (prgD p), some (bookD b), some (.int most), some (roadF b most p).d, some (.loc S.length), none, none, none, none, none] (S ++ [MO.lst (rowD b p 0)]) (by simp [getV, rowD, seenF, itF]) ?_
  refine fx_nx [some (prgD p), some (bookD b), some (.int most), some (roadF b most p).d, some (.loc S.length), a5, none, none, none, none] (S ++ [MO.lst (rowD b p (tl b p most))]) (ex_forE (ds := [.int most]) (S1 := S ++ [MO.lst (rowD b p 0)]) (xs := (List.range most).map fun (j : Nat) => .int j) (l := none) (by simp [getV]) (by rw [it_rng, if_pos (by omega), Int.toNat_natCast]) lp) ?_
  have sa : (S ++ [MO.lst (rowD b p (tl b p most))])[S.length]? = some (.lst (rowD b p (tl b p most))) := sto_at
  have tle := tl_le b p most
  have okT : ∀ j, j ≤ tl b p most → PrOk (itF b j p) := fun j hj => (it_ok hb h4 hp ht j (by omega) fun i hi => tl_sz b p most i (by omega)).1
  have fin_ : ∀ {o : Out}, o = .rt (.bl true) (S ++ [MO.lst (rowD b p (tl b p most))]) → fin S o = .ok (.bl true) S := fun {o} e => by
    rw [e]; exact ret_pure (by simp) _
  refine fin_ (isroad_end R (n := n) (by omega) hb (by omega) sa rfl okT (road_ends b most p) a5)
end Eng

/-! HX -/
set_option Elab.async false
set_option linter.all false
set_option maxRecDepth 100000
set_option maxHeartbeats 0
namespace Eng.K10
open PySem PySem.Spec PyProof.Rows L2
def top (i : Nat) : Stmt := PySem.Challenge.pw_mendrules_k10_whole_mends.main.body.getD i (.Pass ⟨0, 0, 0, 0⟩)
def ge : GE := ⟨[(Str.ofString "GREAT", .int 200), (Str.ofString "LETTERS", .str [97, 98, 99, 100, 101, 102, 103, 104, 105, 106, 107, 108, 109, 110, 111, 112, 113, 114, 115, 116, 117, 118, 119, 120, 121, 122])], [(Str.ofString "is_name", (1, 2)), (Str.ofString "is_hole", (2, 1)), (Str.ofString "parts_of", (13, 1)), (Str.ofString "size", (71, 1)), (Str.ofString "ways", (14, 1)), (Str.ofString "part_at", (15, 2)), (Str.ofString "put_at", (16, 3)), (Str.ofString "leaves", (17, 1)), (Str.ofString "holes", (18, 1)), (Str.ofString "rule_of", (41, 2)), (Str.ofString "match_into", (20, 3)), (Str.ofString "match", (21, 2)), (Str.ofString "with_holes", (22, 2)), (Str.ofString "filled", (23, 2)), (Str.ofString "is_great", (72, 1)), (Str.ofString "with_term", (42, 3)), (Str.ofString "holds", (43, 4)), (Str.ofString "is_found", (44, 3)), (Str.ofString "all_found", (45, 2)), (Str.ofString "found", (46, 2)), (Str.ofString "made", (47, 3)), (Str.ofString "mend_of", (48, 3)), (Str.ofString "laid", (49, 3)), (Str.ofString "mended_by", (50, 3)), (Str.ofString "are_apart", (51, 2)), (Str.ofString "chosen", (52, 2)), (Str.ofString "once", (53, 2)), (Str.ofString "mended", (73, 3)), (Str.ofString "_law_cell", (6, 2)), (Str.ofString "_law_mix", (7, 3)), (Str.ofString "_law_leaf", (8, 2)), (Str.ofString "_law_tree", (9, 3)), (Str.ofString "_law_pattern", (28, 2)), (Str.ofString "_law_holes", (29, 1)), (Str.ofString "_law_fill", (30, 2)), (Str.ofString "_law_mend", (35, 2)), (Str.ofString "_law_nots", (36, 2)), (Str.ofString "_law_book", (37, 2)), (Str.ofString "_law_program", (54, 1)), (Str.ofString "_law_is_road", (100, 3)), (Str.ofString "law", (101, 1))], []⟩
def Pt : Nat → Option Fn := fun i => if i = 1 then some F_is_name else if i = 2 then some F_is_hole else if i = 13 then some F_parts_of else if i = 71 then some F_size else if i = 14 then some F_ways else if i = 15 then some F_part_at else if i = 16 then some F_put_at else if i = 17 then some F_leaves else if i = 18 then some F_holes else if i = 41 then some F_rule_of else if i = 20 then some F_match_into else if i = 21 then some F_match else if i = 22 then some F_with_holes else if i = 23 then some F_filled else if i = 72 then some F_is_great else if i = 42 then some F_with_term else if i = 43 then some F_holds else if i = 44 then some F_is_found else if i = 45 then some F_all_found else if i = 46 then some F_found else if i = 47 then some F_made else if i = 48 then some F_mend_of else if i = 49 then some F_laid else if i = 50 then some F_mended_by else if i = 51 then some F_are_apart else if i = 52 then some F_chosen else if i = 53 then some F_once else if i = 73 then some F_mended else if i = 6 then some F_law_cell else if i = 7 then some F_law_mix else if i = 8 then some F_law_leaf else if i = 9 then some F_law_tree else if i = 28 then some F_law_pattern else if i = 29 then some F_law_holes else if i = 30 then some F_law_fill else if i = 35 then some F_law_mend else if i = 36 then some F_law_nots else if i = 37 then some F_law_book else if i = 54 then some F_law_program else if i = 100 then some F_law_is_road else if i = 101 then some F_law_v8 else none
def d_is_name : Df := ⟨"is_name", 1, top 8, ["thing", "most"], ["thing", "most", "sign"], [], F_is_name⟩
theorem ok_is_name : DfOk ge d_is_name := ⟨by kernel_rfl, rfl, rfl, by kernel_rfl, fun _ _ _ _ _ _ us hl => match us, hl with | [_, _], _ => rfl⟩
def d_is_hole : Df := ⟨"is_hole", 2, top 9, ["thing"], ["thing"], [], F_is_hole⟩
theorem ok_is_hole : DfOk ge d_is_hole := ⟨by kernel_rfl, rfl, rfl, by kernel_rfl, fun _ _ _ _ _ _ us hl => match us, hl with | [_], _ => rfl⟩
def d_parts_of : Df := ⟨"parts_of", 13, top 10, ["term"], ["term"], [], F_parts_of⟩
theorem ok_parts_of : DfOk ge d_parts_of := ⟨by kernel_rfl, rfl, rfl, by kernel_rfl, fun _ _ _ _ _ _ us hl => match us, hl with | [_], _ => rfl⟩
def d_size : Df := ⟨"size", 71, top 11, ["term"], ["term", "part"], [], F_size⟩
theorem ok_size : DfOk ge d_size := ⟨by kernel_rfl, rfl, rfl, by kernel_rfl, fun _ _ _ _ _ _ us hl => match us, hl with | [_], _ => rfl⟩
def d_ways : Df := ⟨"ways", 14, top 12, ["term"], ["term", "found", "k", "part", "way"], ["found"], F_ways⟩
theorem ok_ways : DfOk ge d_ways := ⟨by kernel_rfl, rfl, rfl, by kernel_rfl, fun _ _ _ _ _ _ us hl => match us, hl with | [_], _ => rfl⟩
def d_part_at : Df := ⟨"part_at", 15, top 13, ["term", "way"], ["term", "way", "k", "some"], [], F_part_at⟩
theorem ok_part_at : DfOk ge d_part_at := ⟨by kernel_rfl, rfl, rfl, by kernel_rfl, fun _ _ _ _ _ _ us hl => match us, hl with | [_, _], _ => rfl⟩
def d_put_at : Df := ⟨"put_at", 16, top 14, ["term", "way", "new"], ["term", "way", "new", "k"], [], F_put_at⟩
theorem ok_put_at : DfOk ge d_put_at := ⟨by kernel_rfl, rfl, rfl, by kernel_rfl, fun _ _ _ _ _ _ us hl => match us, hl with | [_, _, _], _ => rfl⟩
def d_leaves : Df := ⟨"leaves", 17, top 15, ["term"], ["term", "found", "part"], ["found"], F_leaves⟩
theorem ok_leaves : DfOk ge d_leaves := ⟨by kernel_rfl, rfl, rfl, by kernel_rfl, fun _ _ _ _ _ _ us hl => match us, hl with | [_], _ => rfl⟩
def d_holes : Df := ⟨"holes", 18, top 16, ["pattern"], ["pattern", "found", "leaf"], ["found"], F_holes⟩
theorem ok_holes : DfOk ge d_holes := ⟨by kernel_rfl, rfl, rfl, by kernel_rfl, fun _ _ _ _ _ _ us hl => match us, hl with | [_], _ => rfl⟩
def d_rule_of : Df := ⟨"rule_of", 41, top 18, ["book", "code"], ["book", "code", "rule"], [], F_rule_of⟩
theorem ok_rule_of : DfOk ge d_rule_of := ⟨by kernel_rfl, rfl, rfl, by kernel_rfl, fun _ _ _ _ _ _ us hl => match us, hl with | [_, _], _ => rfl⟩
def d_match_into : Df := ⟨"match_into", 20, top 20, ["pattern", "term", "found"], ["pattern", "term", "found", "mine", "yours"], [], F_match_into⟩
theorem ok_match_into : DfOk ge d_match_into := ⟨by kernel_rfl, rfl, rfl, by kernel_rfl, fun _ _ _ _ _ _ us hl => match us, hl with | [_, _, _], _ => rfl⟩
def d_match : Df := ⟨"match", 21, top 21, ["pattern", "term"], ["pattern", "term", "found", "hole"], [], F_match⟩
theorem ok_match : DfOk ge d_match := ⟨by kernel_rfl, rfl, rfl, by kernel_rfl, fun _ _ _ _ _ _ us hl => match us, hl with | [_, _], _ => rfl⟩
def d_with_holes : Df := ⟨"with_holes", 22, top 22, ["pattern", "table"], ["pattern", "table", "part"], [], F_with_holes⟩
theorem ok_with_holes : DfOk ge d_with_holes := ⟨by kernel_rfl, rfl, rfl, by kernel_rfl, fun _ _ _ _ _ _ us hl => match us, hl with | [_, _], _ => rfl⟩
def d_filled : Df := ⟨"filled", 23, top 23, ["pattern", "pairs"], ["pattern", "pairs", "table", "hole"], [], F_filled⟩
theorem ok_filled : DfOk ge d_filled := ⟨by kernel_rfl, rfl, rfl, by kernel_rfl, fun _ _ _ _ _ _ us hl => match us, hl with | [_, _], _ => rfl⟩
def d_is_great : Df := ⟨"is_great", 72, top 26, ["program"], ["program", "line"], [], F_is_great⟩
theorem ok_is_great : DfOk ge d_is_great := ⟨by kernel_rfl, rfl, rfl, by kernel_rfl, fun _ _ _ _ _ _ us hl => match us, hl with | [_], _ => rfl⟩
def d_with_term : Df := ⟨"with_term", 42, top 27, ["program", "number", "term"], ["program", "number", "term"], [], F_with_term⟩
theorem ok_with_term : DfOk ge d_with_term := ⟨by kernel_rfl, rfl, rfl, by kernel_rfl, fun _ _ _ _ _ _ us hl => match us, hl with | [_, _, _], _ => rfl⟩
def d_holds : Df := ⟨"holds", 43, top 29, ["one", "term", "way", "pairs"], ["one", "term", "way", "pairs", "k"], [], F_holds⟩
theorem ok_holds : DfOk ge d_holds := ⟨by kernel_rfl, rfl, rfl, by kernel_rfl, fun _ _ _ _ _ _ us hl => match us, hl with | [_, _, _, _], _ => rfl⟩
def d_is_found : Df := ⟨"is_found", 44, top 30, ["rule", "term", "way"], ["rule", "term", "way", "pairs", "one"], [], F_is_found⟩
theorem ok_is_found : DfOk ge d_is_found := ⟨by kernel_rfl, rfl, rfl, by kernel_rfl, fun _ _ _ _ _ _ us hl => match us, hl with | [_, _, _], _ => rfl⟩
def d_all_found : Df := ⟨"all_found", 45, top 31, ["program", "book"], ["program", "book", "found", "number", "line", "way", "rule"], ["found"], F_all_found⟩
theorem ok_all_found : DfOk ge d_all_found := ⟨by kernel_rfl, rfl, rfl, by kernel_rfl, fun _ _ _ _ _ _ us hl => match us, hl with | [_, _], _ => rfl⟩
def d_found : Df := ⟨"found", 46, top 32, ["program", "book"], ["program", "book", "one"], [], F_found⟩
theorem ok_found : DfOk ge d_found := ⟨by kernel_rfl, rfl, rfl, by kernel_rfl, fun _ _ _ _ _ _ us hl => match us, hl with | [_, _], _ => rfl⟩
def d_made : Df := ⟨"made", 47, top 34, ["program", "book", "finding"], ["program", "book", "finding", "number", "way", "code", "rule"], [], F_made⟩
theorem ok_made : DfOk ge d_made := ⟨by kernel_rfl, rfl, rfl, by kernel_rfl, fun _ _ _ _ _ _ us hl => match us, hl with | [_, _, _], _ => rfl⟩
def d_mend_of : Df := ⟨"mend_of", 48, top 35, ["program", "book", "finding"], ["program", "book", "finding"], [], F_mend_of⟩
theorem ok_mend_of : DfOk ge d_mend_of := ⟨by kernel_rfl, rfl, rfl, by kernel_rfl, fun _ _ _ _ _ _ us hl => match us, hl with | [_, _, _], _ => rfl⟩
def d_laid : Df := ⟨"laid", 49, top 36, ["program", "finding", "new"], ["program", "finding", "new", "number", "way", "code"], [], F_laid⟩
theorem ok_laid : DfOk ge d_laid := ⟨by kernel_rfl, rfl, rfl, by kernel_rfl, fun _ _ _ _ _ _ us hl => match us, hl with | [_, _, _], _ => rfl⟩
def d_mended_by : Df := ⟨"mended_by", 50, top 37, ["program", "book", "finding"], ["program", "book", "finding", "new"], [], F_mended_by⟩
theorem ok_mended_by : DfOk ge d_mended_by := ⟨by kernel_rfl, rfl, rfl, by kernel_rfl, fun _ _ _ _ _ _ us hl => match us, hl with | [_, _, _], _ => rfl⟩
def d_are_apart : Df := ⟨"are_apart", 51, top 38, ["one", "other"], ["one", "other", "many"], [], F_are_apart⟩
theorem ok_are_apart : DfOk ge d_are_apart := ⟨by kernel_rfl, rfl, rfl, by kernel_rfl, fun _ _ _ _ _ _ us hl => match us, hl with | [_, _], _ => rfl⟩
def d_chosen : Df := ⟨"chosen", 52, top 39, ["program", "book"], ["program", "book", "some", "finding", "new", "is_other", "one"], ["some"], F_chosen⟩
theorem ok_chosen : DfOk ge d_chosen := ⟨by kernel_rfl, rfl, rfl, by kernel_rfl, fun _ _ _ _ _ _ us hl => match us, hl with | [_, _], _ => rfl⟩
def d_once : Df := ⟨"once", 53, top 40, ["program", "book"], ["program", "book", "new", "finding"], [], F_once⟩
theorem ok_once : DfOk ge d_once := ⟨by kernel_rfl, rfl, rfl, by kernel_rfl, fun _ _ _ _ _ _ us hl => match us, hl with | [_, _], _ => rfl⟩
def d_mended : Df := ⟨"mended", 73, top 41, ["program", "book", "most"], ["program", "book", "most", "seen"], ["seen"], F_mended⟩
theorem ok_mended : DfOk ge d_mended := ⟨by kernel_rfl, rfl, rfl, by kernel_rfl, fun _ _ _ _ _ _ us hl => match us, hl with | [_, _, _], _ => rfl⟩
def d__law_cell : Df := ⟨"_law_cell", 6, top 43, ["script", "k"], ["script", "k"], [], F_law_cell⟩
theorem ok__law_cell : DfOk ge d__law_cell := ⟨by kernel_rfl, rfl, rfl, by kernel_rfl, fun _ _ _ _ _ _ us hl => match us, hl with | [_, _], _ => rfl⟩
def d__law_mix : Df := ⟨"_law_mix", 7, top 44, ["cell", "prime", "many"], ["cell", "prime", "many", "blend"], [], F_law_mix⟩
theorem ok__law_mix : DfOk ge d__law_mix := ⟨by kernel_rfl, rfl, rfl, by kernel_rfl, fun _ _ _ _ _ _ us hl => match us, hl with | [_, _, _], _ => rfl⟩
def d__law_leaf : Df := ⟨"_law_leaf", 8, top 45, ["cell", "has_holes"], ["cell", "has_holes"], [], F_law_leaf⟩
theorem ok__law_leaf : DfOk ge d__law_leaf := ⟨by kernel_rfl, rfl, rfl, by kernel_rfl, fun _ _ _ _ _ _ us hl => match us, hl with | [_, _], _ => rfl⟩
def d__law_tree : Df := ⟨"_law_tree", 9, top 46, ["cell", "left", "has_holes"], ["cell", "left", "has_holes", "way", "name", "gotten", "k"], [], F_law_tree⟩
theorem ok__law_tree : DfOk ge d__law_tree := ⟨by kernel_rfl, rfl, rfl, by kernel_rfl, fun _ _ _ _ _ _ us hl => match us, hl with | [_, _, _], _ => rfl⟩
def d__law_pattern : Df := ⟨"_law_pattern", 28, top 47, ["cell", "left"], ["cell", "left", "gotten"], [], F_law_pattern⟩
theorem ok__law_pattern : DfOk ge d__law_pattern := ⟨by kernel_rfl, rfl, rfl, by kernel_rfl, fun _ _ _ _ _ _ us hl => match us, hl with | [_, _], _ => rfl⟩
def d__law_holes : Df := ⟨"_law_holes", 29, top 48, ["pattern"], ["pattern", "gotten", "part", "hole"], ["gotten"], F_law_holes⟩
theorem ok__law_holes : DfOk ge d__law_holes := ⟨by kernel_rfl, rfl, rfl, by kernel_rfl, fun _ _ _ _ _ _ us hl => match us, hl with | [_], _ => rfl⟩
def d__law_fill : Df := ⟨"_law_fill", 30, top 49, ["pattern", "table"], ["pattern", "table", "part"], [], F_law_fill⟩
theorem ok__law_fill : DfOk ge d__law_fill := ⟨by kernel_rfl, rfl, rfl, by kernel_rfl, fun _ _ _ _ _ _ us hl => match us, hl with | [_, _], _ => rfl⟩
def d__law_mend : Df := ⟨"_law_mend", 35, top 53, ["cell", "pattern"], ["cell", "pattern", "some", "way", "gotten"], [], F_law_mend⟩
theorem ok__law_mend : DfOk ge d__law_mend := ⟨by kernel_rfl, rfl, rfl, by kernel_rfl, fun _ _ _ _ _ _ us hl => match us, hl with | [_, _], _ => rfl⟩
def d__law_nots : Df := ⟨"_law_nots", 36, top 54, ["cell", "pattern"], ["cell", "pattern", "gotten", "k", "inner", "way", "some"], [], F_law_nots⟩
theorem ok__law_nots : DfOk ge d__law_nots := ⟨by kernel_rfl, rfl, rfl, by kernel_rfl, fun _ _ _ _ _ _ us hl => match us, hl with | [_, _], _ => rfl⟩
def d__law_book : Df := ⟨"_law_book", 37, top 55, ["cell", "free_one"], ["cell", "free_one", "gotten", "k", "seed", "pattern", "nots", "code"], [], F_law_book⟩
theorem ok__law_book : DfOk ge d__law_book := ⟨by kernel_rfl, rfl, rfl, by kernel_rfl, fun _ _ _ _ _ _ us hl => match us, hl with | [_, _], _ => rfl⟩
def d__law_program : Df := ⟨"_law_program", 54, top 56, ["cell"], ["cell", "gotten", "k", "seed", "some", "j", "code"], [], F_law_program⟩
theorem ok__law_program : DfOk ge d__law_program := ⟨by kernel_rfl, rfl, rfl, by kernel_rfl, fun _ _ _ _ _ _ us hl => match us, hl with | [_], _ => rfl⟩
def d__law_is_road : Df := ⟨"_law_is_road", 100, top 57, ["program", "book", "most"], ["program", "book", "most", "said", "row", "turn", "ahead", "long", "line", "n"], ["row"], F_law_is_road⟩
theorem ok__law_is_road : DfOk ge d__law_is_road := ⟨by kernel_rfl, rfl, rfl, by kernel_rfl, fun _ _ _ _ _ _ us hl => match us, hl with | [_, _, _], _ => rfl⟩
def d_law : Df := ⟨"law", 101, top 58, ["script"], ["script", "k", "cell", "book", "program", "some", "every", "one", "near", "new", "is_other", "after", "spot", "row", "number", "way", "code", "line", "other"], [], F_law_v8⟩
theorem ok_law : DfOk ge d_law := ⟨by kernel_rfl, rfl, rfl, by kernel_rfl, fun _ _ _ _ _ _ us hl => match us, hl with | [_], _ => rfl⟩
def fn : List He.DefD := [⟨("is_name", none), "is_name", "is_name", defArgs (top 8), defBody (top 8), defScope (top 8), [], []⟩, ⟨("is_hole", none), "is_hole", "is_hole", defArgs (top 9), defBody (top 9), defScope (top 9), [], []⟩, ⟨("parts_of", none), "parts_of", "parts_of", defArgs (top 10), defBody (top 10), defScope (top 10), [], []⟩, ⟨("size", none), "size", "size", defArgs (top 11), defBody (top 11), defScope (top 11), [], []⟩, ⟨("ways", none), "ways", "ways", defArgs (top 12), defBody (top 12), defScope (top 12), [], []⟩, ⟨("part_at", none), "part_at", "part_at", defArgs (top 13), defBody (top 13), defScope (top 13), [], []⟩, ⟨("put_at", none), "put_at", "put_at", defArgs (top 14), defBody (top 14), defScope (top 14), [], []⟩, ⟨("leaves", none), "leaves", "leaves", defArgs (top 15), defBody (top 15), defScope (top 15), [], []⟩, ⟨("holes", none), "holes", "holes", defArgs (top 16), defBody (top 16), defScope (top 16), [], []⟩, ⟨("rule_of", none), "rule_of", "rule_of", defArgs (top 18), defBody (top 18), defScope (top 18), [], []⟩, ⟨("match_into", none), "match_into", "match_into", defArgs (top 20), defBody (top 20), defScope (top 20), [], []⟩, ⟨("match", none), "match", "match", defArgs (top 21), defBody (top 21), defScope (top 21), [], []⟩, ⟨("with_holes", none), "with_holes", "with_holes", defArgs (top 22), defBody (top 22), defScope (top 22), [], []⟩, ⟨("filled", none), "filled", "filled", defArgs (top 23), defBody (top 23), defScope (top 23), [], []⟩, ⟨("is_great", none), "is_great", "is_great", defArgs (top 26), defBody (top 26), defScope (top 26), [], []⟩, ⟨("with_term", none), "with_term", "with_term", defArgs (top 27), defBody (top 27), defScope (top 27), [], []⟩, ⟨("holds", none), "holds", "holds", defArgs (top 29), defBody (top 29), defScope (top 29), [], []⟩, ⟨("is_found", none), "is_found", "is_found", defArgs (top 30), defBody (top 30), defScope (top 30), [], []⟩, ⟨("all_found", none), "all_found", "all_found", defArgs (top 31), defBody (top 31), defScope (top 31), [], []⟩, ⟨("found", none), "found", "found", defArgs (top 32), defBody (top 32), defScope (top 32), [], []⟩, ⟨("made", none), "made", "made", defArgs (top 34), defBody (top 34), defScope (top 34), [], []⟩, ⟨("mend_of", none), "mend_of", "mend_of", defArgs (top 35), defBody (top 35), defScope (top 35), [], []⟩, ⟨("laid", none), "laid", "laid", defArgs (top 36), defBody (top 36), defScope (top 36), [], []⟩, ⟨("mended_by", none), "mended_by", "mended_by", defArgs (top 37), defBody (top 37), defScope (top 37), [], []⟩, ⟨("are_apart", none), "are_apart", "are_apart", defArgs (top 38), defBody (top 38), defScope (top 38), [], []⟩, ⟨("chosen", none), "chosen", "chosen", defArgs (top 39), defBody (top 39), defScope (top 39), [], []⟩, ⟨("once", none), "once", "once", defArgs (top 40), defBody (top 40), defScope (top 40), [], []⟩, ⟨("mended", none), "mended", "mended", defArgs (top 41), defBody (top 41), defScope (top 41), [], []⟩, ⟨("_law_cell", none), "_law_cell", "_law_cell", defArgs (top 43), defBody (top 43), defScope (top 43), [], []⟩, ⟨("_law_mix", none), "_law_mix", "_law_mix", defArgs (top 44), defBody (top 44), defScope (top 44), [], []⟩, ⟨("_law_leaf", none), "_law_leaf", "_law_leaf", defArgs (top 45), defBody (top 45), defScope (top 45), [], []⟩, ⟨("_law_tree", none), "_law_tree", "_law_tree", defArgs (top 46), defBody (top 46), defScope (top 46), [], []⟩, ⟨("_law_pattern", none), "_law_pattern", "_law_pattern", defArgs (top 47), defBody (top 47), defScope (top 47), [], []⟩, ⟨("_law_holes", none), "_law_holes", "_law_holes", defArgs (top 48), defBody (top 48), defScope (top 48), [], []⟩, ⟨("_law_fill", none), "_law_fill", "_law_fill", defArgs (top 49), defBody (top 49), defScope (top 49), [], []⟩, ⟨("_law_mend", none), "_law_mend", "_law_mend", defArgs (top 53), defBody (top 53), defScope (top 53), [], []⟩, ⟨("_law_nots", none), "_law_nots", "_law_nots", defArgs (top 54), defBody (top 54), defScope (top 54), [], []⟩, ⟨("_law_book", none), "_law_book", "_law_book", defArgs (top 55), defBody (top 55), defScope (top 55), [], []⟩, ⟨("_law_program", none), "_law_program", "_law_program", defArgs (top 56), defBody (top 56), defScope (top 56), [], []⟩, ⟨("_law_is_road", none), "_law_is_road", "_law_is_road", defArgs (top 57), defBody (top 57), defScope (top 57), [], []⟩, ⟨("law", none), "law", "law", defArgs (top 58), defBody (top 58), defScope (top 58), [], []⟩]
def fa : List He.Fa := [.glo "is_name", .glo "is_hole", .glo "parts_of", .glo "size", .glo "ways", .glo "part_at", .glo "put_at", .glo "leaves", .glo "holes", .glo "rule_of", .glo "match_into", .glo "match", .glo "with_holes", .glo "filled", .glo "is_great", .glo "with_term", .glo "holds", .glo "is_found", .glo "all_found", .glo "found", .glo "made", .glo "mend_of", .glo "laid", .glo "mended_by", .glo "are_apart", .glo "chosen", .glo "once", .glo "mended", .glo "_law_cell", .glo "_law_mix", .glo "_law_leaf", .glo "_law_tree", .glo "_law_pattern", .glo "_law_holes", .glo "_law_fill", .glo "_law_mend", .glo "_law_nots", .glo "_law_book", .glo "_law_program", .glo "_law_is_road", .glo "law", .free "len", .free "all", .free "any", .free "sum", .free "tuple", .free "list", .free "int", .free "max", .free "min", .free "str", .free "bool", .free "isinstance", .free "range", .free "enumerate", .free "zip", .free "sorted", .free "set", .free "dict", .int "GREAT" 200, .str "LETTERS" "abcdefghijklmnopqrstuvwxyz"]
abbrev R : PySem.W.OpenRow := PySem.W.OpenLaw.row PySem.Challenge.rw_mendrules_k10_whole_mends
abbrev hk : PySem.W.Hook := He.hookD 4 fa fn
def ob (s : PySem.W.SharedT) : He.AlD := He.obsDG 4 fa fn (HandSHeadRun.getT s)
theorem ob_eq (s : PySem.W.SharedT) : ob s = hk.obs s.abs := He.obsDG_eq (HandSHeadRun.getT_eq s)
theorem hrun (w : World) : HandSHeadRun.RunEq R (PySem.W.view R.prog [58]) hk ob 30000 [Str.ofString "MendError", Str.ofString "NoWay", Str.ofString "NoHole", Str.ofString "NoRule", Str.ofString "NoFinding", Str.ofString "LETTERS", Str.ofString "is_name", Str.ofString "is_hole", Str.ofString "parts_of", Str.ofString "size", Str.ofString "ways", Str.ofString "part_at", Str.ofString "put_at", Str.ofString "leaves", Str.ofString "holes", Str.ofString "rule_of", Str.ofString "match_into", Str.ofString "match", Str.ofString "with_holes", Str.ofString "filled", Str.ofString "GREAT", Str.ofString "is_great", Str.ofString "with_term", Str.ofString "holds", Str.ofString "is_found", Str.ofString "all_found", Str.ofString "found", Str.ofString "made", Str.ofString "mend_of", Str.ofString "laid", Str.ofString "mended_by", Str.ofString "are_apart", Str.ofString "chosen", Str.ofString "once", Str.ofString "mended", Str.ofString "_law_cell", Str.ofString "_law_mix", Str.ofString "_law_leaf", Str.ofString "_law_tree", Str.ofString "_law_pattern", Str.ofString "_law_holes", Str.ofString "_law_fill", Str.ofString "_law_match", Str.ofString "_law_ways", Str.ofString "_law_put", Str.ofString "_law_mend", Str.ofString "_law_nots", Str.ofString "_law_book", Str.ofString "_law_program", Str.ofString "_law_is_road"] w := by
  intro os
  kernel_rfl
theorem has {K : PySem.W.Frag} {h : Heap} {mg : Str → Option Value} (X : K.In h) (G : h.Ns mainGlobals mg) (c : He.SaysD fa fn K) : Has ge Pt K mg (fun _ => .none) := by
  have key : ∀ (y : Str), He.Fa.free y ∈ fa → mg y = none := fun y hy => by
    obtain ⟨j, hj⟩ := List.mem_iff_getElem?.mp hy
    exact He.free_ok X G (c.fact j hj)
  refine ⟨fun x d e => ?_, fun x hx => ?_, fun x i ar e => ?_, fun z => absurd rfl z⟩
  · unfold ge at e
    simp only [List.lookup_cons, List.lookup_nil] at e
    split at e
    · rename_i hx
      cases e
      have hx := eq_of_beq hx; subst hx
      obtain ⟨t, ht⟩ := He.int_ok X G (c.fact 59 (f := .int "GREAT" 200) rfl)
      exact ⟨.int 200, _, ht, ⟨_, rfl⟩, fun w => by simp only [RD]⟩
    split at e
    · rename_i hx
      cases e
      have hx := eq_of_beq hx; subst hx
      obtain ⟨t, ht⟩ := He.str_ok X G (c.fact 60 (f := .str "LETTERS" "abcdefghijklmnopqrstuvwxyz") rfl)
      exact ⟨.str "abcdefghijklmnopqrstuvwxyz", _, ht, ⟨_, rfl⟩, fun w => by simp only [RD]; exact ⟨by congr 1, by decide, by decide⟩⟩
    · cases e
  · simp only [BN, List.mem_cons, List.not_mem_nil, or_false] at hx
    rcases hx with rfl | rfl | rfl | rfl | rfl | rfl | rfl | rfl | rfl | rfl | rfl | rfl | rfl | rfl | rfl | rfl | rfl | rfl
    all_goals (apply key; simp [fa])
  · unfold ge at e
    simp only [List.lookup_cons, List.lookup_nil] at e
    split at e
    · rename_i hx
      cases e
      have hx := eq_of_beq hx; subst hx
      obtain ⟨fd, F⟩ := c.def_ 0 (d := ⟨("is_name", none), "is_name", "is_name", defArgs (top 8), defBody (top 8), defScope (top 8), [], []⟩) rfl
      exact ⟨d_is_name, _, fd, ok_is_name, rfl, rfl, rfl, He.glo_ok X G (c.fact 0 (f := .glo "is_name") rfl), F⟩
    split at e
    · rename_i hx
      cases e
      have hx := eq_of_beq hx; subst hx
      obtain ⟨fd, F⟩ := c.def_ 1 (d := ⟨("is_hole", none), "is_hole", "is_hole", defArgs (top 9), defBody (top 9), defScope (top 9), [], []⟩) rfl
      exact ⟨d_is_hole, _, fd, ok_is_hole, rfl, rfl, rfl, He.glo_ok X G (c.fact 1 (f := .glo "is_hole") rfl), F⟩
    split at e
    · rename_i hx
      cases e
      have hx := eq_of_beq hx; subst hx
      obtain ⟨fd, F⟩ := c.def_ 2 (d := ⟨("parts_of", none), "parts_of", "parts_of", defArgs (top 10), defBody (top 10), defScope (top 10), [], []⟩) rfl
      exact ⟨d_parts_of, _, fd, ok_parts_of, rfl, rfl, rfl, He.glo_ok X G (c.fact 2 (f := .glo "parts_of") rfl), F⟩
    split at e
    · rename_i hx
      cases e
      have hx := eq_of_beq hx; subst hx
      obtain ⟨fd, F⟩ := c.def_ 3 (d := ⟨("size", none), "size", "size", defArgs (top 11), defBody (top 11), defScope (top 11), [], []⟩) rfl
      exact ⟨d_size, _, fd, ok_size, rfl, rfl, rfl, He.glo_ok X G (c.fact 3 (f := .glo "size") rfl), F⟩
    split at e
    · rename_i hx
      cases e
      have hx := eq_of_beq hx; subst hx
      obtain ⟨fd, F⟩ := c.def_ 4 (d := ⟨("ways", none), "ways", "ways", defArgs (top 12), defBody (top 12), defScope (top 12), [], []⟩) rfl
      exact ⟨d_ways, _, fd, ok_ways, rfl, rfl, rfl, He.glo_ok X G (c.fact 4 (f := .glo "ways") rfl), F⟩
    split at e
    · rename_i hx
      cases e
      have hx := eq_of_beq hx; subst hx
      obtain ⟨fd, F⟩ := c.def_ 5 (d := ⟨("part_at", none), "part_at", "part_at", defArgs (top 13), defBody (top 13), defScope (top 13), [], []⟩) rfl
      exact ⟨d_part_at, _, fd, ok_part_at, rfl, rfl, rfl, He.glo_ok X G (c.fact 5 (f := .glo "part_at") rfl), F⟩
    split at e
    · rename_i hx
      cases e
      have hx := eq_of_beq hx; subst hx
      obtain ⟨fd, F⟩ := c.def_ 6 (d := ⟨("put_at", none), "put_at", "put_at", defArgs (top 14), defBody (top 14), defScope (top 14), [], []⟩) rfl
      exact ⟨d_put_at, _, fd, ok_put_at, rfl, rfl, rfl, He.glo_ok X G (c.fact 6 (f := .glo "put_at") rfl), F⟩
    split at e
    · rename_i hx
      cases e
      have hx := eq_of_beq hx; subst hx
      obtain ⟨fd, F⟩ := c.def_ 7 (d := ⟨("leaves", none), "leaves", "leaves", defArgs (top 15), defBody (top 15), defScope (top 15), [], []⟩) rfl
      exact ⟨d_leaves, _, fd, ok_leaves, rfl, rfl, rfl, He.glo_ok X G (c.fact 7 (f := .glo "leaves") rfl), F⟩
    split at e
    · rename_i hx
      cases e
      have hx := eq_of_beq hx; subst hx
      obtain ⟨fd, F⟩ := c.def_ 8 (d := ⟨("holes", none), "holes", "holes", defArgs (top 16), defBody (top 16), defScope (top 16), [], []⟩) rfl
      exact ⟨d_holes, _, fd, ok_holes, rfl, rfl, rfl, He.glo_ok X G (c.fact 8 (f := .glo "holes") rfl), F⟩
    split at e
    · rename_i hx
      cases e
      have hx := eq_of_beq hx; subst hx
      obtain ⟨fd, F⟩ := c.def_ 9 (d := ⟨("rule_of", none), "rule_of", "rule_of", defArgs (top 18), defBody (top 18), defScope (top 18), [], []⟩) rfl
      exact ⟨d_rule_of, _, fd, ok_rule_of, rfl, rfl, rfl, He.glo_ok X G (c.fact 9 (f := .glo "rule_of") rfl), F⟩
    split at e
    · rename_i hx
      cases e
      have hx := eq_of_beq hx; subst hx
      obtain ⟨fd, F⟩ := c.def_ 10 (d := ⟨("match_into", none), "match_into", "match_into", defArgs (top 20), defBody (top 20), defScope (top 20), [], []⟩) rfl
      exact ⟨d_match_into, _, fd, ok_match_into, rfl, rfl, rfl, He.glo_ok X G (c.fact 10 (f := .glo "match_into") rfl), F⟩
    split at e
    · rename_i hx
      cases e
      have hx := eq_of_beq hx; subst hx
      obtain ⟨fd, F⟩ := c.def_ 11 (d := ⟨("match", none), "match", "match", defArgs (top 21), defBody (top 21), defScope (top 21), [], []⟩) rfl
      exact ⟨d_match, _, fd, ok_match, rfl, rfl, rfl, He.glo_ok X G (c.fact 11 (f := .glo "match") rfl), F⟩
    split at e
    · rename_i hx
      cases e
      have hx := eq_of_beq hx; subst hx
      obtain ⟨fd, F⟩ := c.def_ 12 (d := ⟨("with_holes", none), "with_holes", "with_holes", defArgs (top 22), defBody (top 22), defScope (top 22), [], []⟩) rfl
      exact ⟨d_with_holes, _, fd, ok_with_holes, rfl, rfl, rfl, He.glo_ok X G (c.fact 12 (f := .glo "with_holes") rfl), F⟩
    split at e
    · rename_i hx
      cases e
      have hx := eq_of_beq hx; subst hx
      obtain ⟨fd, F⟩ := c.def_ 13 (d := ⟨("filled", none), "filled", "filled", defArgs (top 23), defBody (top 23), defScope (top 23), [], []⟩) rfl
      exact ⟨d_filled, _, fd, ok_filled, rfl, rfl, rfl, He.glo_ok X G (c.fact 13 (f := .glo "filled") rfl), F⟩
    split at e
    · rename_i hx
      cases e
      have hx := eq_of_beq hx; subst hx
      obtain ⟨fd, F⟩ := c.def_ 14 (d := ⟨("is_great", none), "is_great", "is_great", defArgs (top 26), defBody (top 26), defScope (top 26), [], []⟩) rfl
      exact ⟨d_is_great, _, fd, ok_is_great, rfl, rfl, rfl, He.glo_ok X G (c.fact 14 (f := .glo "is_great") rfl), F⟩
    split at e
    · rename_i hx
      cases e
      have hx := eq_of_beq hx; subst hx
      obtain ⟨fd, F⟩ := c.def_ 15 (d := ⟨("with_term", none), "with_term", "with_term", defArgs (top 27), defBody (top 27), defScope (top 27), [], []⟩) rfl
      exact ⟨d_with_term, _, fd, ok_with_term, rfl, rfl, rfl, He.glo_ok X G (c.fact 15 (f := .glo "with_term") rfl), F⟩
    split at e
    · rename_i hx
      cases e
      have hx := eq_of_beq hx; subst hx
      obtain ⟨fd, F⟩ := c.def_ 16 (d := ⟨("holds", none), "holds", "holds", defArgs (top 29), defBody (top 29), defScope (top 29), [], []⟩) rfl
      exact ⟨d_holds, _, fd, ok_holds, rfl, rfl, rfl, He.glo_ok X G (c.fact 16 (f := .glo "holds") rfl), F⟩
    split at e
    · rename_i hx
      cases e
      have hx := eq_of_beq hx; subst hx
      obtain ⟨fd, F⟩ := c.def_ 17 (d := ⟨("is_found", none), "is_found", "is_found", defArgs (top 30), defBody (top 30), defScope (top 30), [], []⟩) rfl
      exact ⟨d_is_found, _, fd, ok_is_found, rfl, rfl, rfl, He.glo_ok X G (c.fact 17 (f := .glo "is_found") rfl), F⟩
    split at e
    · rename_i hx
      cases e
      have hx := eq_of_beq hx; subst hx
      obtain ⟨fd, F⟩ := c.def_ 18 (d := ⟨("all_found", none), "all_found", "all_found", defArgs (top 31), defBody (top 31), defScope (top 31), [], []⟩) rfl
      exact ⟨d_all_found, _, fd, ok_all_found, rfl, rfl, rfl, He.glo_ok X G (c.fact 18 (f := .glo "all_found") rfl), F⟩
    split at e
    · rename_i hx
      cases e
      have hx := eq_of_beq hx; subst hx
      obtain ⟨fd, F⟩ := c.def_ 19 (d := ⟨("found", none), "found", "found", defArgs (top 32), defBody (top 32), defScope (top 32), [], []⟩) rfl
      exact ⟨d_found, _, fd, ok_found, rfl, rfl, rfl, He.glo_ok X G (c.fact 19 (f := .glo "found") rfl), F⟩
    split at e
    · rename_i hx
      cases e
      have hx := eq_of_beq hx; subst hx
      obtain ⟨fd, F⟩ := c.def_ 20 (d := ⟨("made", none), "made", "made", defArgs (top 34), defBody (top 34), defScope (top 34), [], []⟩) rfl
      exact ⟨d_made, _, fd, ok_made, rfl, rfl, rfl, He.glo_ok X G (c.fact 20 (f := .glo "made") rfl), F⟩
    split at e
    · rename_i hx
      cases e
      have hx := eq_of_beq hx; subst hx
      obtain ⟨fd, F⟩ := c.def_ 21 (d := ⟨("mend_of", none), "mend_of", "mend_of", defArgs (top 35), defBody (top 35), defScope (top 35), [], []⟩) rfl
      exact ⟨d_mend_of, _, fd, ok_mend_of, rfl, rfl, rfl, He.glo_ok X G (c.fact 21 (f := .glo "mend_of") rfl), F⟩
    split at e
    · rename_i hx
      cases e
      have hx := eq_of_beq hx; subst hx
      obtain ⟨fd, F⟩ := c.def_ 22 (d := ⟨("laid", none), "laid", "laid", defArgs (top 36), defBody (top 36), defScope (top 36), [], []⟩) rfl
      exact ⟨d_laid, _, fd, ok_laid, rfl, rfl, rfl, He.glo_ok X G (c.fact 22 (f := .glo "laid") rfl), F⟩
    split at e
    · rename_i hx
      cases e
      have hx := eq_of_beq hx; subst hx
      obtain ⟨fd, F⟩ := c.def_ 23 (d := ⟨("mended_by", none), "mended_by", "mended_by", defArgs (top 37), defBody (top 37), defScope (top 37), [], []⟩) rfl
      exact ⟨d_mended_by, _, fd, ok_mended_by, rfl, rfl, rfl, He.glo_ok X G (c.fact 23 (f := .glo "mended_by") rfl), F⟩
    split at e
    · rename_i hx
      cases e
      have hx := eq_of_beq hx; subst hx
      obtain ⟨fd, F⟩ := c.def_ 24 (d := ⟨("are_apart", none), "are_apart", "are_apart", defArgs (top 38), defBody (top 38), defScope (top 38), [], []⟩) rfl
      exact ⟨d_are_apart, _, fd, ok_are_apart, rfl, rfl, rfl, He.glo_ok X G (c.fact 24 (f := .glo "are_apart") rfl), F⟩
    split at e
    · rename_i hx
      cases e
      have hx := eq_of_beq hx; subst hx
      obtain ⟨fd, F⟩ := c.def_ 25 (d := ⟨("chosen", none), "chosen", "chosen", defArgs (top 39), defBody (top 39), defScope (top 39), [], []⟩) rfl
      exact ⟨d_chosen, _, fd, ok_chosen, rfl, rfl, rfl, He.glo_ok X G (c.fact 25 (f := .glo "chosen") rfl), F⟩
    split at e
    · rename_i hx
      cases e
      have hx := eq_of_beq hx; subst hx
      obtain ⟨fd, F⟩ := c.def_ 26 (d := ⟨("once", none), "once", "once", defArgs (top 40), defBody (top 40), defScope (top 40), [], []⟩) rfl
      exact ⟨d_once, _, fd, ok_once, rfl, rfl, rfl, He.glo_ok X G (c.fact 26 (f := .glo "once") rfl), F⟩
    split at e
    · rename_i hx
      cases e
      have hx := eq_of_beq hx; subst hx
      obtain ⟨fd, F⟩ := c.def_ 27 (d := ⟨("mended", none), "mended", "mended", defArgs (top 41), defBody (top 41), defScope (top 41), [], []⟩) rfl
      exact ⟨d_mended, _, fd, ok_mended, rfl, rfl, rfl, He.glo_ok X G (c.fact 27 (f := .glo "mended") rfl), F⟩
    split at e
    · rename_i hx
      cases e
      have hx := eq_of_beq hx; subst hx
      obtain ⟨fd, F⟩ := c.def_ 28 (d := ⟨("_law_cell", none), "_law_cell", "_law_cell", defArgs (top 43), defBody (top 43), defScope (top 43), [], []⟩) rfl
      exact ⟨d__law_cell, _, fd, ok__law_cell, rfl, rfl, rfl, He.glo_ok X G (c.fact 28 (f := .glo "_law_cell") rfl), F⟩
    split at e
    · rename_i hx
      cases e
      have hx := eq_of_beq hx; subst hx
      obtain ⟨fd, F⟩ := c.def_ 29 (d := ⟨("_law_mix", none), "_law_mix", "_law_mix", defArgs (top 44), defBody (top 44), defScope (top 44), [], []⟩) rfl
      exact ⟨d__law_mix, _, fd, ok__law_mix, rfl, rfl, rfl, He.glo_ok X G (c.fact 29 (f := .glo "_law_mix") rfl), F⟩
    split at e
    · rename_i hx
      cases e
      have hx := eq_of_beq hx; subst hx
      obtain ⟨fd, F⟩ := c.def_ 30 (d := ⟨("_law_leaf", none), "_law_leaf", "_law_leaf", defArgs (top 45), defBody (top 45), defScope (top 45), [], []⟩) rfl
      exact ⟨d__law_leaf, _, fd, ok__law_leaf, rfl, rfl, rfl, He.glo_ok X G (c.fact 30 (f := .glo "_law_leaf") rfl), F⟩
    split at e
    · rename_i hx
      cases e
      have hx := eq_of_beq hx; subst hx
      obtain ⟨fd, F⟩ := c.def_ 31 (d := ⟨("_law_tree", none), "_law_tree", "_law_tree", defArgs (top 46), defBody (top 46), defScope (top 46), [], []⟩) rfl
      exact ⟨d__law_tree, _, fd, ok__law_tree, rfl, rfl, rfl, He.glo_ok X G (c.fact 31 (f := .glo "_law_tree") rfl), F⟩
    split at e
    · rename_i hx
      cases e
      have hx := eq_of_beq hx; subst hx
      obtain ⟨fd, F⟩ := c.def_ 32 (d := ⟨("_law_pattern", none), "_law_pattern", "_law_pattern", defArgs (top 47), defBody (top 47), defScope (top 47), [], []⟩) rfl
      exact ⟨d__law_pattern, _, fd, ok__law_pattern, rfl, rfl, rfl, He.glo_ok X G (c.fact 32 (f := .glo "_law_pattern") rfl), F⟩
    split at e
    · rename_i hx
      cases e
      have hx := eq_of_beq hx; subst hx
      obtain ⟨fd, F⟩ := c.def_ 33 (d := ⟨("_law_holes", none), "_law_holes", "_law_holes", defArgs (top 48), defBody (top 48), defScope (top 48), [], []⟩) rfl
      exact ⟨d__law_holes, _, fd, ok__law_holes, rfl, rfl, rfl, He.glo_ok X G (c.fact 33 (f := .glo "_law_holes") rfl), F⟩
    split at e
    · rename_i hx
      cases e
      have hx := eq_of_beq hx; subst hx
      obtain ⟨fd, F⟩ := c.def_ 34 (d := ⟨("_law_fill", none), "_law_fill", "_law_fill", defArgs (top 49), defBody (top 49), defScope (top 49), [], []⟩) rfl
      exact ⟨d__law_fill, _, fd, ok__law_fill, rfl, rfl, rfl, He.glo_ok X G (c.fact 34 (f := .glo "_law_fill") rfl), F⟩
    split at e
    · rename_i hx
      cases e
      have hx := eq_of_beq hx; subst hx
      obtain ⟨fd, F⟩ := c.def_ 35 (d := ⟨("_law_mend", none), "_law_mend", "_law_mend", defArgs (top 53), defBody (top 53), defScope (top 53), [], []⟩) rfl
      exact ⟨d__law_mend, _, fd, ok__law_mend, rfl, rfl, rfl, He.glo_ok X G (c.fact 35 (f := .glo "_law_mend") rfl), F⟩
    split at e
    · rename_i hx
      cases e
      have hx := eq_of_beq hx; subst hx
      obtain ⟨fd, F⟩ := c.def_ 36 (d := ⟨("_law_nots", none), "_law_nots", "_law_nots", defArgs (top 54), defBody (top 54), defScope (top 54), [], []⟩) rfl
      exact ⟨d__law_nots, _, fd, ok__law_nots, rfl, rfl, rfl, He.glo_ok X G (c.fact 36 (f := .glo "_law_nots") rfl), F⟩
    split at e
    · rename_i hx
      cases e
      have hx := eq_of_beq hx; subst hx
      obtain ⟨fd, F⟩ := c.def_ 37 (d := ⟨("_law_book", none), "_law_book", "_law_book", defArgs (top 55), defBody (top 55), defScope (top 55), [], []⟩) rfl
      exact ⟨d__law_book, _, fd, ok__law_book, rfl, rfl, rfl, He.glo_ok X G (c.fact 37 (f := .glo "_law_book") rfl), F⟩
    split at e
    · rename_i hx
      cases e
      have hx := eq_of_beq hx; subst hx
      obtain ⟨fd, F⟩ := c.def_ 38 (d := ⟨("_law_program", none), "_law_program", "_law_program", defArgs (top 56), defBody (top 56), defScope (top 56), [], []⟩) rfl
      exact ⟨d__law_program, _, fd, ok__law_program, rfl, rfl, rfl, He.glo_ok X G (c.fact 38 (f := .glo "_law_program") rfl), F⟩
    split at e
    · rename_i hx
      cases e
      have hx := eq_of_beq hx; subst hx
      obtain ⟨fd, F⟩ := c.def_ 39 (d := ⟨("_law_is_road", none), "_law_is_road", "_law_is_road", defArgs (top 57), defBody (top 57), defScope (top 57), [], []⟩) rfl
      exact ⟨d__law_is_road, _, fd, ok__law_is_road, rfl, rfl, rfl, He.glo_ok X G (c.fact 39 (f := .glo "_law_is_road") rfl), F⟩
    split at e
    · rename_i hx
      cases e
      have hx := eq_of_beq hx; subst hx
      obtain ⟨fd, F⟩ := c.def_ 40 (d := ⟨("law", none), "law", "law", defArgs (top 58), defBody (top 58), defScope (top 58), [], []⟩) rfl
      exact ⟨d_law, _, fd, ok_law, rfl, rfl, rfl, He.glo_ok X G (c.fact 40 (f := .glo "law") rfl), F⟩
    · cases e
theorem facts {P : Program} {w : World} {K : PySem.W.Frag} {h : Heap} {mg : Str → Option Value} {f : Addr} (X : K.In h) (G : h.Ns mainGlobals mg) (hfa : mg ("law" : Str) = some (.ref f)) (c : He.SaysD fa fn K) :
    ∃ fd : FuncData, (∀ (s : Shared) (v : Value), BindsTo s fd ⟨[v], []⟩ [("script", v)]) ∧ ∀ base : Heap, K.In base → base.Ns mainGlobals mg → FnOk P w K mg base L2.CX0 230 f fd ["script"] (fun vs H Q _ => spF (fun _ => .none) K 1 (run Pt 230 101) vs H Q fun _ _ _ => False) := by
  have H := has X G c 
  obtain ⟨fd, F⟩ := c.def_ 40 (d := ⟨("law", none), "law", "law", defArgs (top 58), defBody (top 58), defScope (top 58), [], []⟩) rfl
  have e := hfa.symm.trans (He.glo_ok X G (c.fact 40 (f := .glo "law") rfl))
  cases e
  have b := FunD.bindsA (ps := ["script"]) F ok_law.bnd
  exact ⟨fd, fun s v => b s [v] rfl, fun base _ _ => fn_quiet (def_ok (kx := (fun _ => .none)) H 230 d_law _ fd ok_law rfl F)⟩
theorem closing (hlaw : ∀ ns : List Int, ns.length ≤ 63 → run Pt 230 101 [.scr ns] [] = .ok (.bl true) []) : PySem.Challenge.rw_mendrules_k10_whole_mends.Holds := by
  w_on; o_law
  refine HandSHeadRun.head_any (r := PySem.W.OpenLaw.row PySem.Challenge.rw_mendrules_k10_whole_mends) (q := PySem.W.view (PySem.W.OpenLaw.row PySem.Challenge.rw_mendrules_k10_whole_mends).prog [58]) (H := hk) (ob := ob) (M := 30000) (loose := [Str.ofString "MendError", Str.ofString "NoWay", Str.ofString "NoHole", Str.ofString "NoRule", Str.ofString "NoFinding", Str.ofString "LETTERS", Str.ofString "is_name", Str.ofString "is_hole", Str.ofString "parts_of", Str.ofString "size", Str.ofString "ways", Str.ofString "part_at", Str.ofString "put_at", Str.ofString "leaves", Str.ofString "holes", Str.ofString "rule_of", Str.ofString "match_into", Str.ofString "match", Str.ofString "with_holes", Str.ofString "filled", Str.ofString "GREAT", Str.ofString "is_great", Str.ofString "with_term", Str.ofString "holds", Str.ofString "is_found", Str.ofString "all_found", Str.ofString "found", Str.ofString "made", Str.ofString "mend_of", Str.ofString "laid", Str.ofString "mended_by", Str.ofString "are_apart", Str.ofString "chosen", Str.ofString "once", Str.ofString "mended", Str.ofString "_law_cell", Str.ofString "_law_mix", Str.ofString "_law_leaf", Str.ofString "_law_tree", Str.ofString "_law_pattern", Str.ofString "_law_holes", Str.ofString "_law_fill", Str.ofString "_law_match", Str.ofString "_law_ways", Str.ofString "_law_put", Str.ofString "_law_mend", Str.ofString "_law_nots", Str.ofString "_law_book", Str.ofString "_law_program", Str.ofString "_law_is_road"]) (d := HandSHeadRun.topDef (PySem.W.OpenLaw.row PySem.Challenge.rw_mendrules_k10_whole_mends).prog 58) (kwd := []) ob_eq
    (by kernel_rfl) (fun s => by kernel_rfl) hrun (by kernel_rfl) (by kernel_rfl) (by kernel_rfl) (by rfl) (by first | assumption | decide +kernel) (by decide +kernel) ⟨rfl, rfl, rfl, rfl, rfl, by decide +kernel⟩ ?hw ?hc
  case hw => w_witness2
  case hc =>
    refine L2.walk_ofE (l := PySem.Challenge.rw_mendrules_k10_whole_mends) (n := 63) (k := 230) (x := "script") (CX := L2.CX0) rfl (by decide) (by kernel_rfl) ⟨rfl, by decide, by decide⟩ ?F (fun _ _ _ _ z => z)
    intro w mg fa h Y G hmg0
    obtain ⟨K, KX, c⟩ := Y
    have hmg : mg ("law" : PySem.Str) = some (.ref fa) := by
      have e : (HandSHeadRun.topDef (PySem.W.OpenLaw.row PySem.Challenge.rw_mendrules_k10_whole_mends).prog 58).name = ("law" : PySem.Str) := by kernel_rfl
      rw [← e]
      exact hmg0
    obtain ⟨fd, hb, hF⟩ := facts (P := (PySem.Challenge.rw_mendrules_k10_whole_mends).prog) (w := w) KX G hmg c
    exact ⟨K, fd, fun vs H Q _ => spF (fun _ => .none) K 1 (run Pt 230 101) vs H Q fun _ _ _ => False, KX, hb, fun H a ns hl hO hS => law_sp hO hS (hlaw ns hl), hF⟩
end Eng.K10

/-! L10 -/
set_option linter.all false
set_option maxRecDepth 100000
set_option maxHeartbeats 1000000
/-! The law k10. -/
namespace Eng
variable {P : Nat → Option Fn} {S : Sto} {n : Nat}

structure Whl (P : Nat → Option Fn) : Prop extends Road P where
  h48 : P 48 = some F_mend_of
  h50 : P 50 = some F_mended_by
  h100 : P 100 = some F_law_is_road
/-! ### values -/
theorem p_neX {x y : D} (hx : x.neat = true) (hy : y.neat = true) (dx : x.dp ≤ 150) (dy : y.dp ≤ 150) (rx : rs S x = x) (ry : rs S y = y) : pr .ne [x, y] S = .ok (.bl (!decide (x = y))) S := by
  rw [p_ne (by rw [rx]; unfold dpL; omega) (by rw [ry]; unfold dpL; omega), rx, ry]
  congr 3
  rw [Bool.eq_iff_iff, eqv_iff hx hy, decide_eq_true_eq]
theorem neL {xs ys : List D} (hx : ∀ d ∈ xs, d.neat = true ∧ d.dp ≤ 100) (hy : ∀ d ∈ ys, d.neat = true ∧ d.dp ≤ 100) : pr .ne [.lst xs, .lst ys] S = .ok (.bl (!decide (xs = ys))) S := by
  have d1 : D.dps xs ≤ 100 := dps_le.mpr fun d hd => (hx d hd).2
  have d2 : D.dps ys ≤ 100 := dps_le.mpr fun d hd => (hy d hd).2
  rw [p_ne (by simp only [rs_lst, dp_lst, dpL]; omega) (by simp only [rs_lst, dp_lst, dpL]; omega)]
  congr 3
  simp only [rs_lst, D.eqv]
  rw [Bool.eq_iff_iff, eqvs_iff (neats_of fun d hd => (hx d hd).1) (neats_of fun d hd => (hy d hd).1), decide_eq_true_eq]
theorem eqL {xs ys : List D} (hx : ∀ d ∈ xs, d.neat = true ∧ d.dp ≤ 100) (hy : ∀ d ∈ ys, d.neat = true ∧ d.dp ≤ 100) : pr .eq [.lst xs, .lst ys] S = .ok (.bl (decide (xs = ys))) S := by
  have d1 : D.dps xs ≤ 100 := dps_le.mpr fun d hd => (hx d hd).2
  have d2 : D.dps ys ≤ 100 := dps_le.mpr fun d hd => (hy d hd).2
  rw [p_eq (by simp only [rs_lst, dp_lst, dpL]; omega) (by simp only [rs_lst, dp_lst, dpL]; omega)]
  congr 2
  simp only [rs_lst, D.eqv]
  rw [Bool.eq_iff_iff, eqvs_iff (neats_of fun d hd => (hx d hd).1) (neats_of fun d hd => (hy d hd).1), decide_eq_true_eq]
theorem neT {xs ys : List D} (hx : ∀ d ∈ xs, d.neat = true ∧ d.dp ≤ 100) (hy : ∀ d ∈ ys, d.neat = true ∧ d.dp ≤ 100) : pr .ne [.tup xs, .tup ys] S = .ok (.bl (!decide (xs = ys))) S := by
  have d1 : D.dps xs ≤ 100 := dps_le.mpr fun d hd => (hx d hd).2
  have d2 : D.dps ys ≤ 100 := dps_le.mpr fun d hd => (hy d hd).2
  rw [p_ne (by simp only [rs_tup, dp_tup, dpL]; omega) (by simp only [rs_tup, dp_tup, dpL]; omega)]
  congr 3
  simp only [rs_tup, D.eqv]
  rw [Bool.eq_iff_iff, eqvs_iff (neats_of fun d hd => (hx d hd).1) (neats_of fun d hd => (hy d hd).1), decide_eq_true_eq]
theorem neB {a c : Bool} : pr .ne [.bl a, .bl c] S = .ok (.bl (!(a == c))) S := by
  rw [p_ne (by simp [dpL]) (by simp [dpL])]
  simp [D.eqv]
theorem isin_T {x : D} {ds : List D} (hx : x.neat = true) (hp : x.dp ≤ 100) (hs : ∀ s, x ≠ .str s) (hd : ∀ d ∈ ds, d.neat = true ∧ d.dp ≤ 100) : pr .isin [x, .tup ds] S = .ok (.bl (decide (x ∈ ds))) S := by
  have d1 : D.dps ds ≤ 100 := dps_le.mpr fun d h => (hd d h).2
  have e : pr .isin [x, .tup ds] S = gd (x.dp ≤ dpL ∧ (D.tup ds).dp ≤ dpL) (.bl (ds.any fun y => y.eqv x)) S := by
    simp only [pr, rs_tup, pr.isIn]
    cases x with
    | str s => exact absurd rfl (hs s)
    | _ => rfl
  rw [e, any_mem hx fun d h => (hd d h).1]
  exact gd_y ⟨by unfold dpL; omega, by simp only [dp_tup, dpL]; omega⟩
theorem p_ixT {l : List Fd} {x : Fd} (h : x ∈ l) : pr .index [.tup (l.map Fd.d), x.d] S = .ok (.int (ixF l x : Nat)) S := by
  have e : (l.map Fd.d).findIdx? (fun y => y.eqv x.d) = some (ixF l x) := by
    rw [List.findIdx?_map, ← ix_some h]
    congr 1
    funext y
    simp only [Function.comp_apply]
    rw [Bool.eq_iff_iff, eqv_iff (Fd_neat y).1 (Fd_neat x).1, decide_eq_true_eq]
  have d0 : D.dps (l.map Fd.d) ≤ 100 := dps_le.mpr fun d hd => (Fds_neat _ d hd).2
  have d1 := (Fd_neat x).2
  simp only [pr, rs_tup, e]
  exact gd_y ⟨by unfold dpL; omega, by unfold dpL; omega⟩
theorem okIxT {xs : List D} : okM .index (.tup xs) S = true := rfl
/-! ### each found one -/
def b10 : List St := match F_law_v8.body[0]? with
  | some (St.for _ _ _ _ b) => b
  | _ => []
def b10a : List St := match b10[5]? with
  | some (St.for _ _ _ _ b) => b
  | _ => []
theorem lns_neat {l : Nat} (hl : l ≤ 90) {p : List Ln} (h : ∀ x ∈ p, tm l x.t = true) : ∀ d ∈ p.map Ln.d, d.neat = true ∧ d.dp ≤ 100 := fun d hd => by
  obtain ⟨x, hx, rfl⟩ := List.mem_map.mp hd
  exact ⟨ln_neat (h x hx), Nat.le_trans (ln_dp (h x hx)) (by omega)⟩
theorem each_turn (R : Whl P) (hn : 70 ≤ n) {b : List Rul} (hb : BkN b) {p : List Ln} (hp : PrOk p) {x : Fd} (hx : x ∈ fdP b p) {o0 o1 o2 o13 o14 o15 o16 o17 : Option D} (a8 a9 aa ab ac : Option D) :
    ∃ c8 c9 ca cb cc, exs (run P n) b10a [o0, o1, o2, some (bookD b), some (prgD p), some (.tup ((chF b p).map Fd.d)), some (.tup ((fdP b p).map Fd.d)), some x.d, a8, a9, aa, ab, ac, o13, o14, o15, o16, o17, none] S = .nx [o0, o1, o2, some (bookD b), some (prgD p), some (.tup ((chF b p).map Fd.d)), some (.tup ((fdP b p).map Fd.d)), some x.d, c8, c9, ca, cb, cc, o13, o14, o15, o16, o17, none] S := by
  have ok := fd_ok hx
  have lf := fd_len hb hp
  have cl : (chF b p).length ≤ 16000000 := Nat.le_trans (ch_sub b p).length_le lf
  have rmo := r_mendof_y (S := S) R.toLib2 R.h48 (n := n) (by omega) hb hp hx
  have tp := (hp.t _ (trm_mem ok.k)).1
  have rp := r_part (S := S) R.h13 R.h15 (n := n) (by omega) tp ok.w
  have pk := prg_at (S := S) (line_of ok.k)
  have mn := mk_non hb hp ok
  have nearE : ev (run P n) (.comp [18] [18] false .seq [.var 5] [.and (.pr .not [.call 51 [.var 7, .var 18]]) (.pr .le [.mth .index (.var 6) [.var 18], .mth .index (.var 6) [.var 7]])] (.var 18)) [o0, o1, o2, some (bookD b), some (prgD p), some (.tup ((chF b p).map Fd.d)), some (.tup ((fdP b p).map Fd.d)), some x.d, a8, a9, aa, ab, ac, o13, o14, o15, o16, o17, none] S = .ok (.lst ((nearF b p x).map Fd.d)) S := by
    unfold nearF
    refine ev_fmA (f := Fd.d) (g := Fd.d) (t := fun y => !apt x y && decide (ixF (fdP b p) y ≤ ixF (fdP b p) x)) (ds := [.tup ((chF b p).map Fd.d)]) (by simp [getV]) it_tup (by unfold szL; omega) rfl fun y hy => ⟨[o0, o1, o2, some (bookD b), some (prgD p), some (.tup ((chF b p).map Fd.d)), some (.tup ((fdP b p).map Fd.d)), some x.d, a8, a9, aa, ab, ac, o13, o14, o15, o16, o17, some y.d], rfl, ?_, fun _ => by simp [getV]⟩
    have hyf : y ∈ fdP b p := (ch_sub b p).subset hy
    have ra := r_apart (S := S) R.h51 (n := n) (by omega) (x := x) (y := y)
    have i1 := p_ixT (S := S) hyf
    have i2 := p_ixT (S := S) hx
    have q : decide ((ixF (fdP b p) y : Int) ≤ (ixF (fdP b p) x : Int)) = decide (ixF (fdP b p) y ≤ ixF (fdP b p) x) := decide_eq_decide.mpr (by omega)
    cases hA : apt x y with
    | true =>
      rw [hA] at ra
      simp only [ev_and, ev_pr, ev_call, evs_cons, evs_nil, ev_var, getV, List.getElem?_cons_succ, List.getElem?_cons_zero, bOk, ra, p_notB, tr_bl, Bool.not_true, tst_ok, oS, Bool.false_and]
    | false =>
      rw [hA] at ra
      simp only [ev_and, ev_pr, ev_call, ev_mth, evs_cons, evs_nil, ev_var, getV, List.getElem?_cons_succ, List.getElem?_cons_zero, bOk, ra, p_notB, tr_bl, Bool.not_false, okIxT, if_true, i1, i2, p_le, q, tst_ok, oS, Bool.true_and]
  have othE : ev (run P n) (.and (.pr (.isntc (.non)) [.var 9]) (.pr .ne [.var 9, .call 15 [.pr .idx [.pr .idx [.var 4, .pr .idx [.var 7, .con (.int 0)]], .con (.int 0)], .pr .idx [.var 7, .con (.int 1)]]])) [o0, o1, o2, some (bookD b), some (prgD p), some (.tup ((chF b p).map Fd.d)), some (.tup ((fdP b p).map Fd.d)), some x.d, some (.lst ((nearF b p x).map Fd.d)), some (mkF p x), aa, ab, ac, o13, o14, o15, o16, o17, none] S = .ok (.bl (oth p x)) S := by
    cases hme : mends x.r with
    | false =>
      rw [hme] at mn
      have ho : oth p x = false := by simp [oth, hme]
      rw [ev_and, ev_pr, evs_cons, ev_var]
      simp only [getV, List.getElem?_cons_succ, List.getElem?_cons_zero, bOk, evs_nil, p_isntN, mn, tr_bl, ho, Bool.not_false, Bool.not_true]
    | true =>
      rw [hme] at mn
      have nm := ne_mk (S := S) hb hp ok hme
      have ho : oth p x = !(mkF p x).eqv (partOf (trm p x.k) x.w) := by simp [oth, hme]
      rw [ev_and, ev_pr, evs_cons, ev_var]
      simp only [getV, List.getElem?_cons_succ, List.getElem?_cons_zero, bOk, evs_nil, p_isntN, mn, tr_bl, Bool.not_false, Bool.not_true]
      simp only [Fd.d, Ln.d] at pk ⊢
      simp only [ev_pr, ev_call, evs_cons, evs_nil, ev_var, ev_con, getV, List.getElem?_cons_succ, List.getElem?_cons_zero, bOk, p_idxT, at0, at1, oS, pk, rp, nm, ho]
  have near1 : pr .ne [.lst ((nearF b p x).map Fd.d), .lst []] S = .ok (.bl (!decide (nearF b p x = []))) S := by
    rw [neL (Fds_neat _) (by simp)]
    congr 3
    rw [decide_eq_decide, List.map_eq_nil_iff]
  have near2 : pr .eq [.lst ((nearF b p x).map Fd.d), .lst [x.d]] S = .ok (.bl (decide ((nearF b p x).map Fd.d = [x.d]))) S := eqL (Fds_neat _) (fun d hd => by rw [List.mem_singleton] at hd; subst hd; exact Fd_neat x)
  have condE : tst (ev (run P n) (.and (.pr .ne [.var 10, .pr .ne [.var 8, .lst []]]) (.or (.var 10) (.pr .eq [.var 8, .lst [.var 7]]))) [o0, o1, o2, some (bookD b), some (prgD p), some (.tup ((chF b p).map Fd.d)), some (.tup ((fdP b p).map Fd.d)), some x.d, some (.lst ((nearF b p x).map Fd.d)), some (mkF p x), some (.bl (oth p x)), ab, ac, o13, o14, o15, o16, o17, none] S) = .ok false S := by
    have l1 : ev (run P n) (.pr .ne [.var 10, .pr .ne [.var 8, .lst []]]) [o0, o1, o2, some (bookD b), some (prgD p), some (.tup ((chF b p).map Fd.d)), some (.tup ((fdP b p).map Fd.d)), some x.d, some (.lst ((nearF b p x).map Fd.d)), some (mkF p x), some (.bl (oth p x)), ab, ac, o13, o14, o15, o16, o17, none] S = .ok (.bl (!(oth p x == !decide (nearF b p x = [])))) S := by
      simp only [ev_pr, evs_cons, evs_nil, ev_var, ev_lst, getV, List.getElem?_cons_succ, List.getElem?_cons_zero, bOk, near1, neB]
    rw [ev_and, l1, bOk, tr_bl]
    cases ho : oth p x with
    | true =>
      have := near_oth hb hx ho
      simp [this]
    | false =>
      by_cases hz : nearF b p x = []
      · simp [hz]
      · have := near_not hb hx ho
        rw [decide_eq_false this] at near2
        simp only [hz, decide_false, Bool.not_false]
        simp only [show (!(false == true)) = true from rfl]
        simp only [ev_or, ev_pr, evs_cons, evs_nil, ev_var, ev_lst, getV, List.getElem?_cons_succ, List.getElem?_cons_zero, bOk, tr_bl, near2, tst_ok, oS]
  have s1 : ∀ r : List St, exs (run P n) (.set 8 (.comp [18] [18] false .seq [.var 5] [.and (.pr .not [.call 51 [.var 7, .var 18]]) (.pr .le [.mth .index (.var 6) [.var 18], .mth .index (.var 6) [.var 7]])] (.var 18)) :: .set 9 (.call 48 [.var 4, .var 3, .var 7]) :: .set 10 (.and (.pr (.isntc (.non)) [.var 9]) (.pr .ne [.var 9, .call 15 [.pr .idx [.pr .idx [.var 4, .pr .idx [.var 7, .con (.int 0)]], .con (.int 0)], .pr .idx [.var 7, .con (.int 1)]]])) :: .ite (.and (.pr .ne [.var 10, .pr .ne [.var 8, .lst []]]) (.or (.var 10) (.pr .eq [.var 8, .lst [.var 7]]))) [.ret (.con (.bl false))] [] :: r) [o0, o1, o2, some (bookD b), some (prgD p), some (.tup ((chF b p).map Fd.d)), some (.tup ((fdP b p).map Fd.d)), some x.d, a8, a9, aa, ab, ac, o13, o14, o15, o16, o17, none] S
      = exs (run P n) r [o0, o1, o2, some (bookD b), some (prgD p), some (.tup ((chF b p).map Fd.d)), some (.tup ((fdP b p).map Fd.d)), some x.d, some (.lst ((nearF b p x).map Fd.d)), some (mkF p x), some (.bl (oth p x)), ab, ac, o13, o14, o15, o16, o17, none] S := fun r => by
    refine (xs_nx (s2 := [o0, o1, o2, some (bookD b), some (prgD p), some (.tup ((chF b p).map Fd.d)), some (.tup ((fdP b p).map Fd.d)), some x.d, some (.lst ((nearF b p x).map Fd.d)), a9, aa, ab, ac, o13, o14, o15, o16, o17, none]) (S2 := S) (by rw [ex_set, nearE]; rfl)).trans ?_
    refine (xs_nx (s2 := [o0, o1, o2, some (bookD b), some (prgD p), some (.tup ((chF b p).map Fd.d)), some (.tup ((fdP b p).map Fd.d)), some x.d, some (.lst ((nearF b p x).map Fd.d)), some (mkF p x), aa, ab, ac, o13, o14, o15, o16, o17, none]) (S2 := S) (by simp [getV, rmo])).trans ?_
    refine (xs_nx (s2 := [o0, o1, o2, some (bookD b), some (prgD p), some (.tup ((chF b p).map Fd.d)), some (.tup ((fdP b p).map Fd.d)), some x.d, some (.lst ((nearF b p x).map Fd.d)), some (mkF p x), some (.bl (oth p x)), ab, ac, o13, o14, o15, o16, o17, none]) (S2 := S) (by rw [ex_set, othE]; rfl)).trans ?_
    exact xs_nx ((ex_itF condE).trans exs_nil)
  cases hme : mends x.r with
  | false =>
    rw [hme] at mn
    refine ⟨some (.lst ((nearF b p x).map Fd.d)), some (mkF p x), some (.bl (oth p x)), ab, ac, (s1 _).trans ((xs_nx ((ex_itF (S1 := S) ?_).trans exs_nil)).trans exs_nil)⟩
    simp only [ev_pr, evs_cons, evs_nil, ev_var, getV, List.getElem?_cons_succ, List.getElem?_cons_zero, bOk, p_isntN, mn, tst_ok, tr_bl, oS, Bool.not_false, Bool.not_true]
  | true =>
    rw [hme] at mn
    obtain ⟨t1, t2⟩ := mk_tm hb (fun y hy => (hp.t y hy).1) ok hme
    have tm42 : tm 42 (ptt (trm p x.k) x.w (mkF p x)) = true := tm_put tp ok.w t1 (by omega) (by omega)
    have rmb := r_mendby_y (S := S) R.toLib2 R.h48 R.h49 R.h50 (n := n) (by omega) hb hp hx hme
    have rpt := r_put (S := S) R.h13 R.h15 R.h16 (n := n) tp ok.w (x := mkF p x) (by omega)
    have pa : pr .idx [prgD (layF p x (mkF p x)), .int x.k] S = .ok (.tup [ptt (trm p x.k) x.w (mkF p x), .tup ((hsh p x.k).map D.str)]) S := prg_at (y := ⟨ptt (trm p x.k) x.w (mkF p x), hsh p x.k⟩) (by unfold layF; rw [List.getElem?_set_self ok.k])
    have lnE : (⟨ptt (trm p x.k) x.w (mkF p x), hsh p x.k⟩ : Ln).d = .tup [ptt (trm p x.k) x.w (mkF p x), .tup ((hsh p x.k).map D.str)] := rfl
    have ne1 : pr .ne [.tup [ptt (trm p x.k) x.w (mkF p x), .tup ((hsh p x.k).map D.str)], .tup [ptt (trm p x.k) x.w (mkF p x), .tup ((hsh p x.k).map D.str)]] S = .ok (.bl false) S := by
      rw [← lnE, p_neX (ln_neat (l := 42) tm42) (ln_neat (l := 42) tm42) (Nat.le_trans (ln_dp (l := 42) tm42) (by omega)) (Nat.le_trans (ln_dp (l := 42) tm42) (by omega)) rfl rfl]
      simp
    have lnk := lns_neat (l := 40) (by omega) hp.tt
    have sub1 : ∀ k, ∀ d ∈ (p.map Ln.d).take k, d.neat = true ∧ d.dp ≤ 100 := fun k d hd => lnk d (List.mem_of_mem_take hd)
    have sub2 : ∀ k, ∀ d ∈ (p.map Ln.d).drop k, d.neat = true ∧ d.dp ≤ 100 := fun k d hd => lnk d (List.mem_of_mem_drop hd)
    have e1 : ((layF p x (mkF p x)).map Ln.d).take x.k = (p.map Ln.d).take x.k := by
      unfold layF
      rw [← List.map_take, ← List.map_take, List.take_set_of_le (Nat.le_refl _)]
    have e2 : ((layF p x (mkF p x)).map Ln.d).drop (x.k + 1) = (p.map Ln.d).drop (x.k + 1) := by
      unfold layF
      rw [← List.map_drop, ← List.map_drop, List.drop_set_of_lt (by omega)]
    have c1 : pr (.slc false true) [prgD (layF p x (mkF p x)), .int x.k] S = .ok (.tup ((p.map Ln.d).take x.k)) S := by unfold prgD; rw [p_slT1, cut_to, e1]
    have c2 : pr (.slc false true) [prgD p, .int x.k] S = .ok (.tup ((p.map Ln.d).take x.k)) S := by unfold prgD; rw [p_slT1, cut_to]
    have c3 : pr (.slc true false) [prgD (layF p x (mkF p x)), .int ((x.k : Int) + 1)] S = .ok (.tup ((p.map Ln.d).drop (x.k + 1))) S := by
      unfold prgD; rw [p_slT0, show ((x.k : Int) + 1) = ((x.k + 1 : Nat) : Int) by omega, cut_from, e2]
    have c4 : pr (.slc true false) [prgD p, .int ((x.k : Int) + 1)] S = .ok (.tup ((p.map Ln.d).drop (x.k + 1))) S := by
      unfold prgD; rw [p_slT0, show ((x.k : Int) + 1) = ((x.k + 1 : Nat) : Int) by omega, cut_from]
    have ne2 := neT (S := S) (sub1 x.k) (sub1 x.k)
    have ne3 := neT (S := S) (sub2 (x.k + 1)) (sub2 (x.k + 1))
    rw [decide_eq_true rfl] at ne2 ne3
    refine ⟨some (.lst ((nearF b p x).map Fd.d)), some (mkF p x), some (.bl (oth p x)), some (prgD (layF p x (mkF p x))), some (.int x.k), (s1 _).trans ((xs_nx ((ex_itT (S1 := S) ?_).trans ?_)).trans exs_nil)⟩
    · simp only [ev_pr, evs_cons, evs_nil, ev_var, getV, List.getElem?_cons_succ, List.getElem?_cons_zero, bOk, p_isntN, mn, tst_ok, tr_bl, oS, Bool.not_false, Bool.not_true]
    refine (xs_nx (s2 := [o0, o1, o2, some (bookD b), some (prgD p), some (.tup ((chF b p).map Fd.d)), some (.tup ((fdP b p).map Fd.d)), some x.d, some (.lst ((nearF b p x).map Fd.d)), some (mkF p x), some (.bl (oth p x)), some (prgD (layF p x (mkF p x))), ac, o13, o14, o15, o16, o17, none]) (S2 := S) (by simp [getV, rmb])).trans ?_
    refine (xs_nx ((ex_itF (S1 := S) ?_).trans exs_nil)).trans ?_
    · simp only [Fd.d, Ln.d] at pk ⊢
      simp only [ev_pr, ev_call, ev_tup, evs_cons, evs_nil, ev_var, ev_con, getV, List.getElem?_cons_succ, List.getElem?_cons_zero, bOk, p_idxT, at0, at1, oS, pk, pa, rpt, ne1, tst_ok, tr_bl]
    refine (xs_nx (s2 := [o0, o1, o2, some (bookD b), some (prgD p), some (.tup ((chF b p).map Fd.d)), some (.tup ((fdP b p).map Fd.d)), some x.d, some (.lst ((nearF b p x).map Fd.d)), some (mkF p x), some (.bl (oth p x)), some (prgD (layF p x (mkF p x))), some (.int x.k), o13, o14, o15, o16, o17, none]) (S2 := S) (by simp [getV, Fd.d])).trans ?_
    refine (xs_nx ((ex_itF (S1 := S) ?_).trans exs_nil)).trans exs_nil
    simp only [ev_or, ev_pr, evs_cons, evs_nil, ev_var, ev_con, getV, List.getElem?_cons_succ, List.getElem?_cons_zero, bOk, c1, c2, ne2, tr_bl, p_addI, c3, c4, ne3, tst_ok, oS, Bool.not_true]
theorem each_loop (R : Whl P) (hn : 70 ≤ n) {b : List Rul} (hb : BkN b) {p : List Ln} (hp : PrOk p) {o0 o1 o2 o13 o14 o15 o16 o17 : Option D} {kc : Sto → Bool} (hkc : ∀ S, kc S = true) : ∀ (xs : List Fd) (a7 a8 a9 aa ab ac : Option D), (∀ x ∈ xs, x ∈ fdP b p) →
    ∃ c7 c8 c9 ca cb cc, forL (fun d s => bindT [7] false d s) (fun s S => exs (run P n) b10a s S) kc (xs.map Fd.d) [o0, o1, o2, some (bookD b), some (prgD p), some (.tup ((chF b p).map Fd.d)), some (.tup ((fdP b p).map Fd.d)), a7, a8, a9, aa, ab, ac, o13, o14, o15, o16, o17, none] S = .nx [o0, o1, o2, some (bookD b), some (prgD p), some (.tup ((chF b p).map Fd.d)), some (.tup ((fdP b p).map Fd.d)), c7, c8, c9, ca, cb, cc, o13, o14, o15, o16, o17, none] S
  | [], a7, a8, a9, aa, ab, ac, _ => ⟨a7, a8, a9, aa, ab, ac, by simp [forL]⟩
  | x :: xs, a7, a8, a9, aa, ab, ac, h => by
    obtain ⟨c8, c9, ca, cb, cc, q⟩ := each_turn (S := S) R hn hb hp (h x List.mem_cons_self) (o0 := o0) (o1 := o1) (o2 := o2) (o13 := o13) (o14 := o14) (o15 := o15) (o16 := o16) (o17 := o17) a8 a9 aa ab ac
    obtain ⟨d7, d8, d9, da, db, dc, ih⟩ := each_loop R hn hb hp (o0 := o0) (o1 := o1) (o2 := o2) (o13 := o13) (o14 := o14) (o15 := o15) (o16 := o16) (o17 := o17) hkc xs (some x.d) c8 c9 ca cb cc fun y hy => h y (List.mem_cons_of_mem _ hy)
    exact ⟨d7, d8, d9, da, db, dc, forL_nx _ S rfl q (hkc _) ih⟩
/-! ### orders -/
def b10b : List St := match b10[6]? with
  | some (St.for _ _ _ _ b) => b
  | _ => []
def b10c : List St := match b10b[1]? with
  | some (St.for _ _ _ _ b) => b
  | _ => []
theorem order_loop (R : Whl P) (hn : 70 ≤ n) {b : List Rul} (hb : BkN b) {p : List Ln} (hp : PrOk p) {o0 o1 o2 o5 o6 o7 o8 oa oc od : Option D} {kc : Sto → Bool} (hkc : ∀ S, kc S = true) : ∀ (xs : List Fd) (q : List Ln) (a9 ae af ag ah : Option D), OkQ b 40 p q xs → (∀ x ∈ xs, x ∈ fdP b p) →
    ∃ c9 ce cf cg ch, forL (fun d s => bindT [14, 15, 16] true d s) (fun s S => exs (run P n) b10c s S) kc (xs.map Fd.d) [o0, o1, o2, some (bookD b), some (prgD p), o5, o6, o7, o8, a9, oa, some (prgD q), oc, od, ae, af, ag, ah, none] S = .nx [o0, o1, o2, some (bookD b), some (prgD p), o5, o6, o7, o8, c9, oa, some (prgD (onc p xs q)), oc, od, ce, cf, cg, ch, none] S
  | [], q, a9, ae, af, ag, ah, _, _ => ⟨a9, ae, af, ag, ah, by simp [forL, onc]⟩
  | x :: xs, q, a9, ae, af, ag, ah, h, hf => by
    obtain ⟨hx, hm, hw⟩ := h.ok x List.mem_cons_self
    have hxf := hf x List.mem_cons_self
    have hk : x.k < q.length := by rw [h.len]; exact hx.k
    have lq : q.length ≤ 64 := by rw [h.len]; exact hp.len
    obtain ⟨c9, ce, cf, cg, ch, ih⟩ := order_loop R hn hb hp (o0 := o0) (o1 := o1) (o2 := o2) (o5 := o5) (o6 := o6) (o7 := o7) (o8 := o8) (oa := oa) (oc := oc) (od := od) hkc xs (layF q x (mkF p x)) (some (mkF p x)) (some (.int x.k)) (some (wayD x.w)) (some (.str x.r.code)) (some (.tup [ptt (trm q x.k) x.w (mkF p x), .tup ((hsh q x.k).map D.str)])) (h.next hb fun y hy => (hp.t y hy).1) fun y hy => hf y (List.mem_cons_of_mem _ hy)
    have rmo := r_mendof_y (S := S) R.toLib2 R.h48 (n := n) (by omega) hb hp hxf
    have tq := h.tm _ hx.k
    have rpt := r_put (S := S) R.h13 R.h15 R.h16 (n := n) tq hw (x := mkF p x) (by have := (tm_prt tq hw).1; omega)
    have pk := prg_at (S := S) (line_of hk)
    have se := set_eq hk (y := ⟨ptt (trm q x.k) x.w (mkF p x), hsh q x.k⟩)
    have c1 : pr (.slc false true) [prgD q, .int x.k] S = .ok (.tup ((q.map Ln.d).take x.k)) S := by unfold prgD; rw [p_slT1, cut_to]
    have c2 : pr (.slc true false) [prgD q, .int ((x.k : Int) + 1)] S = .ok (.tup ((q.map Ln.d).drop (x.k + 1))) S := by
      unfold prgD; rw [p_slT0, show ((x.k : Int) + 1) = ((x.k + 1 : Nat) : Int) by omega, cut_from]
    simp only [Ln.d] at pk se
    have a1 : pr .add [.tup ((q.map Ln.d).take x.k), .tup [.tup [ptt (trm q x.k) x.w (mkF p x), .tup ((hsh q x.k).map D.str)]]] S = .ok (.tup ((q.map Ln.d).take x.k ++ [.tup [ptt (trm q x.k) x.w (mkF p x), .tup ((hsh q x.k).map D.str)]])) S := p_addT (by simp [szL]; omega)
    have a2 : pr .add [.tup ((q.map Ln.d).take x.k ++ [.tup [ptt (trm q x.k) x.w (mkF p x), .tup ((hsh q x.k).map D.str)]]), .tup ((q.map Ln.d).drop (x.k + 1))] S = .ok (prgD (layF q x (mkF p x))) S := by
      rw [p_addT (by simp [szL]; omega)]
      unfold prgD layF
      congr 2
    rw [List.map_cons]
    refine ⟨c9, ce, cf, cg, ch, forL_nx [o0, o1, o2, some (bookD b), some (prgD p), o5, o6, o7, o8, some (mkF p x), oa, some (prgD (layF q x (mkF p x))), oc, od, some (.int x.k), some (wayD x.w), some (.str x.r.code), some (.tup [ptt (trm q x.k) x.w (mkF p x), .tup ((hsh q x.k).map D.str)]), none] S (s1 := [o0, o1, o2, some (bookD b), some (prgD p), o5, o6, o7, o8, a9, oa, some (prgD q), oc, od, some (.int x.k), some (wayD x.w), some (.str x.r.code), ah, none]) rfl ?_ (hkc _) ih⟩
    refine (xs_nx (s2 := [o0, o1, o2, some (bookD b), some (prgD p), o5, o6, o7, o8, some (mkF p x), oa, some (prgD q), oc, od, some (.int x.k), some (wayD x.w), some (.str x.r.code), ah, none]) (S2 := S) ?_).trans ?_
    · simp only [Fd.d] at rmo
      simp [getV, rmo]
    refine (xs_nx (s2 := [o0, o1, o2, some (bookD b), some (prgD p), o5, o6, o7, o8, some (mkF p x), oa, some (prgD q), oc, od, some (.int x.k), some (wayD x.w), some (.str x.r.code), some (.tup [ptt (trm q x.k) x.w (mkF p x), .tup ((hsh q x.k).map D.str)]), none]) (S2 := S) ?_).trans ?_
    · simp only [ex_set, ev_pr, ev_call, ev_tup, evs_cons, evs_nil, ev_var, ev_con, getV, List.getElem?_cons_succ, List.getElem?_cons_zero, bOk, p_idxT, at0, at1, oS, pk, rpt, outE_ok]
      rfl
    refine (xs_nx ?_).trans exs_nil
    simp only [ex_set, ev_pr, ev_tup, evs_cons, evs_nil, ev_var, ev_con, getV, List.getElem?_cons_succ, List.getElem?_cons_zero, bOk, c1, p_addI, c2, a1, a2, outE_ok]
    rfl
theorem bk0 : BkN [] := bkB_ok (by decide)
theorem once_none (p : List Ln) : oncF [] p = p := by
  refine once_nil (ch_mute (fd_mute fun x _ r hr => by simp at hr))
theorem k10_turn (R : Whl P) (W : Dr P) (hn : 80 ≤ n) (ns : List Int) (k : Nat) (o2 o3 o4 o5 o6 o7 o8 o9 oa ob oc od oe of og oh : Option D) :
    ∃ p2 p3 p4 p5 p6 p7 p8 p9 pa pb pc pd pe pf pg ph, exs (run P n) b10 [some (.scr ns), some (.int k), o2, o3, o4, o5, o6, o7, o8, o9, oa, ob, oc, od, oe, of, og, oh, none] S = .nx [some (.scr ns), some (.int k), p2, p3, p4, p5, p6, p7, p8, p9, pa, pb, pc, pd, pe, pf, pg, ph, none] S := by
  have c9 : run P n 6 [.scr ns, .int 9] S = .ok (.int (lawCell ns 9)) S := W.cell (by omega) 9
  have ck : run P n 6 [.scr ns, .int ((k : Int) % 9)] S = .ok (.int (lawCell ns (k % 9))) S := W.cellm (m := 9) (by omega)
  have m31 : pr .mul [.int 31, .int k] S = .ok (.int (31 * (k : Int))) S := p_mulI (.inl (by omega))
  have m7 : pr .mul [.int 7, .int k] S = .ok (.int (7 * (k : Int))) S := p_mulI (.inl (by omega))
  have g9 : pr .mod [.int k, .int 9] S = .ok (.int ((k : Int) % 9)) S := p_mod (by decide)
  have g2 : pr .mod [.int k, .int 2] S = .ok (.int ((k : Int) % 2)) S := p_mod (by decide)
  generalize hc : lawCell ns (k % 9) + 31 * (k : Int) = c
  generalize hf : ((k : Int) % 2 == 0) = free
  have bk := W.book (S := S) (n := n) (by omega) (c := c) (free := free)
  have hb := bookN_bk c free
  have h4 := bookN_le c free
  generalize bookN c free = b at bk hb h4
  have pg := W.prog (S := S) (n := n) (by omega) (c := lawCell ns 9 + 7 * (k : Int))
  have hp := prog_ok (lawCell ns 9 + 7 * (k : Int))
  have hz := prog_sz (lawCell ns 9 + 7 * (k : Int))
  have ht := prog_tm (lawCell ns 9 + 7 * (k : Int))
  generalize lawProg (lawCell ns 9 + 7 * (k : Int)) = p at pg hp hz ht
  have lf := fd_len hb hp
  have cl : (chF b p).length ≤ 16000000 := Nat.le_trans (ch_sub b p).length_le lf
  have rc := r_chosen (S := S) R.toLib2 R.h51 R.h52 (n := n) (by omega) hb hp
  have rf := r_found (S := S) R.toLibF R.h43 R.h44 R.h45 R.h46 (n := n) (by omega) hb hp
  have ro := r_once (S := S) R.toLib2 R.h49 R.h51 R.h52 R.h53 (n := n) (by omega) hb hp
  have po := prok_once hb h4 (l := 4) (by omega) hp ht (by omega)
  -- chosen ones are found, in order
  have q1 : ev (run P n) (.comp [7] [7] false .seq [.var 5] [.pr .notin [.var 7, .var 6]] (.var 7)) [some (.scr ns), some (.int k), some (.int c), some (bookD b), some (prgD p), some (.tup ((chF b p).map Fd.d)), some (.tup ((fdP b p).map Fd.d)), o7, o8, o9, oa, ob, oc, od, oe, of, og, oh, none] S = .ok (.lst []) S := by
    have key := ev_fmA (G := run P n) (S := S) (s := [some (.scr ns), some (.int k), some (.int c), some (bookD b), some (prgD p), some (.tup ((chF b p).map Fd.d)), some (.tup ((fdP b p).map Fd.d)), o7, o8, o9, oa, ob, oc, od, oe, of, og, oh, none]) (own := [7]) (tg := [7]) (un := false) (k := .seq) (srcs := [.var 5]) (elt := .var 7) (c := .pr .notin [.var 7, .var 6]) (f := Fd.d) (g := Fd.d) (t := fun _ => false) (xs := chF b p) (ds := [.tup ((chF b p).map Fd.d)]) (l := none) (by simp [getV]) it_tup (by unfold szL; omega) rfl (fun x hx => ⟨[some (.scr ns), some (.int k), some (.int c), some (bookD b), some (prgD p), some (.tup ((chF b p).map Fd.d)), some (.tup ((fdP b p).map Fd.d)), some x.d, o8, o9, oa, ob, oc, od, oe, of, og, oh, none], rfl, ?_, fun z => by cases z⟩)
    · rw [show (chF b p).filter (fun _ => false) = [] from List.filter_eq_nil_iff.mpr (by simp)] at key
      exact key
    · have ni := notin_T (S := S) (Fd_askd x).neat (Fd_askd x).dp (Fd_askd x).ns (Fds_neat (fdP b p))
      rw [fd_d ((ch_sub b p).subset hx)] at ni
      simp only [ev_pr, evs_cons, evs_nil, ev_var, getV, List.getElem?_cons_succ, List.getElem?_cons_zero, bOk, ni, tst_ok, tr_bl, oS, Bool.not_true]
  have q2 : ev (run P n) (.comp [7] [7] false .seq [.var 6] [.pr .isin [.var 7, .var 5]] (.var 7)) [some (.scr ns), some (.int k), some (.int c), some (bookD b), some (prgD p), some (.tup ((chF b p).map Fd.d)), some (.tup ((fdP b p).map Fd.d)), o7, o8, o9, oa, ob, oc, od, oe, of, og, oh, none] S = .ok (.lst ((chF b p).map Fd.d)) S := by
    have key := ev_fmA (G := run P n) (S := S) (s := [some (.scr ns), some (.int k), some (.int c), some (bookD b), some (prgD p), some (.tup ((chF b p).map Fd.d)), some (.tup ((fdP b p).map Fd.d)), o7, o8, o9, oa, ob, oc, od, oe, of, og, oh, none]) (own := [7]) (tg := [7]) (un := false) (k := .seq) (srcs := [.var 6]) (elt := .var 7) (c := .pr .isin [.var 7, .var 5]) (f := Fd.d) (g := Fd.d) (t := fun x => decide (x.d ∈ (chF b p).map Fd.d)) (xs := fdP b p) (ds := [.tup ((fdP b p).map Fd.d)]) (l := none) (by simp [getV]) it_tup (by unfold szL; omega) rfl (fun x hx => ⟨[some (.scr ns), some (.int k), some (.int c), some (bookD b), some (prgD p), some (.tup ((chF b p).map Fd.d)), some (.tup ((fdP b p).map Fd.d)), some x.d, o8, o9, oa, ob, oc, od, oe, of, og, oh, none], rfl, ?_, fun z => by simp [getV]⟩)
    · rw [ch_filter hb p] at key
      exact key
    · have ni := isin_T (S := S) (Fd_askd x).neat (Fd_askd x).dp (Fd_askd x).ns (Fds_neat (chF b p))
      simp only [ev_pr, evs_cons, evs_nil, ev_var, getV, List.getElem?_cons_succ, List.getElem?_cons_zero, bOk, ni, tst_ok, tr_bl, oS]
  have n1 : pr .ne [.lst [], .lst []] S = .ok (.bl false) S := rfl
  have n2 := neL (S := S) (Fds_neat (chF b p)) (Fds_neat (chF b p))
  rw [decide_eq_true rfl] at n2
  have cond4 : tst (ev (run P n) (.or (.pr .ne [.comp [7] [7] false .seq [.var 5] [.pr .notin [.var 7, .var 6]] (.var 7), .lst []]) (.pr .ne [.pr .list [.var 5], .comp [7] [7] false .seq [.var 6] [.pr .isin [.var 7, .var 5]] (.var 7)])) [some (.scr ns), some (.int k), some (.int c), some (bookD b), some (prgD p), some (.tup ((chF b p).map Fd.d)), some (.tup ((fdP b p).map Fd.d)), o7, o8, o9, oa, ob, oc, od, oe, of, og, oh, none] S) = .ok false S := by
    generalize hE : [some (D.scr ns), some (D.int k), some (D.int c), some (bookD b), some (prgD p), some (D.tup ((chF b p).map Fd.d)), some (D.tup ((fdP b p).map Fd.d)), o7, o8, o9, oa, ob, oc, od, oe, of, og, oh, none] = E at q1 q2 ⊢
    have v5 : ev (run P n) (.pr .list [.var 5]) E S = .ok (.lst ((chF b p).map Fd.d)) S := by rw [← hE]; simp [getV]
    have l1 : ev (run P n) (.pr .ne [.comp [7] [7] false .seq [.var 5] [.pr .notin [.var 7, .var 6]] (.var 7), .lst []]) E S = .ok (.bl false) S := by
      rw [ev_pr, evs_cons, q1]
      simp only [bOk, evs_cons, evs_nil, ev_lst, n1]
    have l2 : ev (run P n) (.pr .ne [.pr .list [.var 5], .comp [7] [7] false .seq [.var 6] [.pr .isin [.var 7, .var 5]] (.var 7)]) E S = .ok (.bl false) S := by
      rw [ev_pr, evs_cons, v5]
      simp only [bOk]
      rw [evs_cons, q2]
      simp only [bOk, evs_nil, n2, Bool.not_true]
    rw [ev_or, l1, bOk, tr_bl]
    show tst (ev _ _ _ _) = _
    rw [l2]; rfl
  obtain ⟨c7, c8, c9', ca, cb, cc, el⟩ := each_loop (S := S) R (n := n) (by omega) hb hp (o0 := some (.scr ns)) (o1 := some (.int k)) (o2 := some (.int c)) (o13 := od) (o14 := oe) (o15 := of) (o16 := og) (o17 := oh) (kc := chk ((fdP b p).map Fd.d) none) (fun _ => rfl) (fdP b p) o7 o8 o9 oa ob oc fun x h => h
  obtain ⟨x9, xe, xf, xg, xh, ol⟩ := order_loop (S := S) R (n := n) (by omega) hb hp (o0 := some (.scr ns)) (o1 := some (.int k)) (o2 := some (.int c)) (o5 := some (.tup ((chF b p).map Fd.d))) (o6 := some (.tup ((fdP b p).map Fd.d))) (o7 := c7) (o8 := c8) (oa := ca) (oc := cc) (od := some (.tup ((chF b p).map Fd.d))) (kc := chk ((chF b p).map Fd.d) none) (fun _ => rfl) (chF b p) p c9' oe of og oh (OkQ.init fun y hy => (hp.t y hy).1) fun x h => (ch_sub b p).subset h
  obtain ⟨y9, ye, yf, yg, yh, ol2⟩ := order_loop (S := S) R (n := n) (by omega) hb hp (o0 := some (.scr ns)) (o1 := some (.int k)) (o2 := some (.int c)) (o5 := some (.tup ((chF b p).map Fd.d))) (o6 := some (.tup ((fdP b p).map Fd.d))) (o7 := c7) (o8 := c8) (oa := ca) (oc := cc) (od := some (.tup ((chF b p).reverse.map Fd.d))) (kc := chk ((chF b p).reverse.map Fd.d) none) (fun _ => rfl) (chF b p).reverse p x9 xe xf xg xh (OkQ.rev fun y hy => (hp.t y hy).1) fun x h => (ch_sub b p).subset (List.mem_reverse.mp h)
  rw [once_rev] at ol2
  rw [show onc p (chF b p) p = oncF b p from rfl] at ol
  have nP := p_neP (S := S) po po
  rw [decide_eq_true rfl] at nP
  have rv : pr .rev [.tup ((chF b p).map Fd.d)] S = .ok (.tup ((chF b p).reverse.map Fd.d)) S := by rw [p_revT, ← List.map_reverse]
  have ord : ∀ (xs : List Fd) (a9 ab ad ae af ag ah z9 ze zf zg zh : Option D), forL (fun d s => bindT [14, 15, 16] true d s) (fun s S => exs (run P n) b10c s S) (chk (xs.map Fd.d) none) (xs.map Fd.d) [some (.scr ns), some (.int k), some (.int c), some (bookD b), some (prgD p), some (.tup ((chF b p).map Fd.d)), some (.tup ((fdP b p).map Fd.d)), c7, c8, a9, ca, some (prgD p), cc, some (.tup (xs.map Fd.d)), ae, af, ag, ah, none] S = .nx [some (.scr ns), some (.int k), some (.int c), some (bookD b), some (prgD p), some (.tup ((chF b p).map Fd.d)), some (.tup ((fdP b p).map Fd.d)), c7, c8, z9, ca, some (prgD (oncF b p)), cc, some (.tup (xs.map Fd.d)), ze, zf, zg, zh, none] S →
      exs (run P n) b10b [some (.scr ns), some (.int k), some (.int c), some (bookD b), some (prgD p), some (.tup ((chF b p).map Fd.d)), some (.tup ((fdP b p).map Fd.d)), c7, c8, a9, ca, ab, cc, some (.tup (xs.map Fd.d)), ae, af, ag, ah, none] S = .nx [some (.scr ns), some (.int k), some (.int c), some (bookD b), some (prgD p), some (.tup ((chF b p).map Fd.d)), some (.tup ((fdP b p).map Fd.d)), c7, c8, z9, ca, some (prgD (oncF b p)), cc, some (.tup (xs.map Fd.d)), ze, zf, zg, zh, none] S := by
    intro xs a9 ab ad ae af ag ah z9 ze zf zg zh lp
    refine (xs_nx (s2 := [some (.scr ns), some (.int k), some (.int c), some (bookD b), some (prgD p), some (.tup ((chF b p).map Fd.d)), some (.tup ((fdP b p).map Fd.d)), c7, c8, a9, ca, some (prgD p), cc, some (.tup (xs.map Fd.d)), ae, af, ag, ah, none]) (S2 := S) (by simp [getV])).trans ?_
    refine (xs_nx (ex_forE (ds := [.tup (xs.map Fd.d)]) (S1 := S) (xs := xs.map Fd.d) (l := none) (by simp [getV]) rfl lp)).trans ?_
    refine (xs_nx ((ex_itF (S1 := S) ?_).trans exs_nil)).trans exs_nil
    simp only [ev_pr, ev_call, evs_cons, evs_nil, ev_var, getV, List.getElem?_cons_succ, List.getElem?_cons_zero, bOk, ro, nP, tst_ok, tr_bl, oS, Bool.not_true]
  have o1_ := ord (chF b p) c9' cb od oe of og oh x9 xe xf xg xh ol
  have o2_ := ord (chF b p).reverse x9 (some (prgD (oncF b p))) none xe xf xg xh y9 ye yf yg yh ol2
  obtain ⟨m, hm⟩ : ∃ m : Nat, (3 : Int) + (k : Int) % 2 = (m : Int) := ⟨(3 + (k : Int) % 2).toNat, by omega⟩
  have hm4 : m ≤ 4 := by omega
  have ri := r_isroad (S := S) R.toRoad R.h100 (n := n) (by omega) hb h4 hp ht (most := m) (by omega)
  have rn : run P n 53 [prgD p, .tup []] S = .ok (prgD p) S := by
    have := r_once (S := S) R.toLib2 R.h49 R.h51 R.h52 R.h53 (n := n) (by omega) bk0 hp
    rw [once_none] at this
    exact this
  have nQ := p_neP (S := S) hp hp
  rw [decide_eq_true rfl] at nQ
  refine ⟨some (.int c), some (bookD b), some (prgD p), some (.tup ((chF b p).map Fd.d)), some (.tup ((fdP b p).map Fd.d)), c7, c8, y9, ca, some (prgD (oncF b p)), cc, some (.tup ((chF b p).reverse.map Fd.d)), ye, yf, yg, yh, ?_⟩
  refine (xs_nx (s2 := [some (.scr ns), some (.int k), some (.int c), o3, o4, o5, o6, o7, o8, o9, oa, ob, oc, od, oe, of, og, oh, none]) (S2 := S) (by simp [getV, g9, ck, m31, hc, -g_mod, -g_mulI])).trans ?_
  refine (xs_nx (s2 := [some (.scr ns), some (.int k), some (.int c), some (bookD b), o4, o5, o6, o7, o8, o9, oa, ob, oc, od, oe, of, og, oh, none]) (S2 := S) (by simp [getV, g2, hf, bk, -g_mod])).trans ?_
  refine (xs_nx (s2 := [some (.scr ns), some (.int k), some (.int c), some (bookD b), some (prgD p), o5, o6, o7, o8, o9, oa, ob, oc, od, oe, of, og, oh, none]) (S2 := S) (by simp [getV, c9, m7, pg, -g_mulI])).trans ?_
  refine (xs_nx (s2 := [some (.scr ns), some (.int k), some (.int c), some (bookD b), some (prgD p), some (.tup ((chF b p).map Fd.d)), some (.tup ((fdP b p).map Fd.d)), o7, o8, o9, oa, ob, oc, od, oe, of, og, oh, none]) (S2 := S) (by simp [getV, rc, rf, sets])).trans ?_
  refine (xs_nx ((ex_itF cond4).trans exs_nil)).trans ?_
  refine (xs_nx (s2 := [some (.scr ns), some (.int k), some (.int c), some (bookD b), some (prgD p), some (.tup ((chF b p).map Fd.d)), some (.tup ((fdP b p).map Fd.d)), c7, c8, c9', ca, cb, cc, od, oe, of, og, oh, none]) (S2 := S) (ex_forE (ds := [.tup ((fdP b p).map Fd.d)]) (S1 := S) (xs := (fdP b p).map Fd.d) (l := none) (by simp [getV]) rfl el)).trans ?_
  refine (xs_nx (s2 := [some (.scr ns), some (.int k), some (.int c), some (bookD b), some (prgD p), some (.tup ((chF b p).map Fd.d)), some (.tup ((fdP b p).map Fd.d)), c7, c8, y9, ca, some (prgD (oncF b p)), cc, some (.tup ((chF b p).reverse.map Fd.d)), ye, yf, yg, yh, none]) (S2 := S) (ex_forE (ds := [.tup [.tup ((chF b p).map Fd.d), .tup ((chF b p).reverse.map Fd.d)]]) (S1 := S) (xs := [.tup ((chF b p).map Fd.d), .tup ((chF b p).reverse.map Fd.d)]) (l := none) ?_ rfl (forL_nx _ _ rfl o1_ rfl (forL_nx _ _ rfl o2_ rfl rfl)))).trans ?_
  · simp only [evs_cons, evs_nil, ev_tup, ev_var, ev_pr, getV, List.getElem?_cons_succ, List.getElem?_cons_zero, bOk, rv]
  refine (xs_nx ((ex_itF (S1 := S) ?_).trans exs_nil)).trans exs_nil
  simp only [ev_or, ev_pr, ev_call, ev_tup, evs_cons, evs_nil, ev_var, ev_con, getV, List.getElem?_cons_succ, List.getElem?_cons_zero, bOk, g2, p_addI, hm, ri, p_notB, tr_bl, rn, nQ, tst_ok, oS, Bool.not_true]
theorem k10 (R : Whl P) (W : Dr P) (h : P 101 = some F_law_v8) (hn : 90 ≤ n) (ns : List Int) : run P n 101 [.scr ns] [] = .ok (.bl true) [] := by
  obtain ⟨n, rfl⟩ : ∃ k, n = k + 1 := ⟨n - 1, by omega⟩
  obtain ⟨s', S', e, hs', hS'⟩ := forL_inv (b := fun d s => bindT [1] false d s) (f := fun s S => exs (run P n) b10 s S) (k := fun _ => true)
    (fun s S => (∃ o1 o2 o3 o4 o5 o6 o7 o8 o9 oa ob oc od oe of og oh, s = [some (.scr ns), o1, o2, o3, o4, o5, o6, o7, o8, o9, oa, ob, oc, od, oe, of, og, oh, none]) ∧ S = []) ((List.range 12).map fun (i : Nat) => .int i) (by
      intro d hd s S hI
      obtain ⟨k, hk, rfl⟩ := List.mem_map.mp hd
      obtain ⟨⟨o1, o2, o3, o4, o5, o6, o7, o8, o9, oa, ob, oc, od, oe, of, og, oh, rfl⟩, rfl⟩ := hI
      obtain ⟨p2, p3, p4, p5, p6, p7, p8, p9, pa, pb, pc, pd, pe, pf, pg, ph, q⟩ := k10_turn (S := []) R W (n := n) (by omega) ns k o2 o3 o4 o5 o6 o7 o8 o9 oa ob oc od oe of og oh
      exact ⟨_, rfl, _, _, q, ⟨⟨_, _, _, _, _, _, _, _, _, _, _, _, _, _, _, _, _, rfl⟩, rfl⟩, rfl⟩) [some (.scr ns), none, none, none, none, none, none, none, none, none, none, none, none, none, none, none, none, none, none] [] ⟨⟨none, none, none, none, none, none, none, none, none, none, none, none, none, none, none, none, none, rfl⟩, rfl⟩
  subst hS'
  rw [run_e h _ _ [some (.scr ns), none, none, none, none, none, none, none, none, none, none, none, none, none, none, none, none, none, none] rfl rfl]
  refine fx_nx _ [] (ex_forE (ds := [.int 12]) (S1 := []) (xs := (List.range 12).map fun (i : Nat) => .int i) (l := none) (by simp) rfl e) ?_
  exact fx_rt (.bl true) [] (by simp) retD_self
end Eng

theorem PySem.Challenge.cw_mendrules_k10_whole_mends_holds : PySem.Challenge.rw_mendrules_k10_whole_mends.Holds := by
  exact Eng.K10.closing fun ns _ => Eng.k10 ⟨⟨⟨⟨⟨rfl, rfl, rfl, rfl, rfl, rfl, rfl⟩, rfl, rfl, rfl, rfl, rfl⟩, rfl, rfl, rfl, rfl, rfl, rfl, rfl⟩, rfl, rfl, rfl, rfl, rfl, rfl, rfl⟩, rfl, rfl, rfl⟩ ⟨rfl, rfl, rfl, rfl, rfl, rfl, rfl, rfl, rfl, rfl, rfl⟩ rfl (by decide) ns
