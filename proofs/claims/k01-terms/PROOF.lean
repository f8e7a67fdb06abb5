import PyProof.Rows.All
import Wide.All
import OpenK.AllK
import Wide.FinOn
import PyProof.EqAt
import PyProof.EqKinds
import PyProof.TupleCall
import HandS.ForMost
import HandS.ForExc
import HandS.Walk
import HandS.Zip
import HandS.TupAny
import HandS.TupMul
import HandS.Style
import HandS.IsInst
import HandS.Deep
import HandS.Codes
import HandS.CallSlots
import HandS.SetKeys
import HandS.Flow
import HandS.Comp
import HandS.Lambda
import HandS.Words
import HandS.Ends
import HandS.Defaults
import KE.KStateDown
import Lean
import HandS.Base
import HandS.Call
import HandS.More
import HandS.WordsExc
import HandS.Head0
import HandS.Head1
import HandS.Head2
import HandS.HeadEnd
import HandS.HeadHook1
import HandS.HeadHook2
import PySem.Challenge.RW_mendrules_k01_terms
/-! Eng1 -/
set_option linter.all false
/-! The evaluator: plain Lean, no library. -/
namespace Eng

def szL : Nat := 16777216
def dpL : Nat := 190

/-- values; texts are lists of code points; lst: a list that is not changed any more; loc: an object of the store; scr: the law's script -/
inductive D where
  | non
  | bl (b : Bool)
  | int (i : Int)
  | str (s : List Nat)
  | tup (xs : List D)
  | lst (xs : List D)
  | loc (n : Nat)
  | scr (ns : List Int)

mutual
def D.dec : (a b : D) → Decidable (a = b)
  | .non, .non => isTrue rfl
  | .bl a, .bl b => if h : a = b then isTrue (by rw [h]) else isFalse (fun e => h (D.bl.inj e))
  | .int a, .int b => if h : a = b then isTrue (by rw [h]) else isFalse (fun e => h (D.int.inj e))
  | .str a, .str b => if h : a = b then isTrue (by rw [h]) else isFalse (fun e => h (D.str.inj e))
  | .loc a, .loc b => if h : a = b then isTrue (by rw [h]) else isFalse (fun e => h (D.loc.inj e))
  | .tup a, .tup b => match D.decs a b with
    | isTrue h => isTrue (by rw [h])
    | isFalse h => isFalse (fun e => h (D.tup.inj e))
  | .lst a, .lst b => match D.decs a b with
    | isTrue h => isTrue (by rw [h])
    | isFalse h => isFalse (fun e => h (D.lst.inj e))
  | .scr a, .scr b => if h : a = b then isTrue (by rw [h]) else isFalse (fun e => h (D.scr.inj e))
  | .non, .bl _ | .non, .int _ | .non, .str _ | .non, .tup _ | .non, .lst _ | .non, .loc _ | .non, .scr _ => isFalse (fun e => nomatch e)
  | .bl _, .non | .bl _, .int _ | .bl _, .str _ | .bl _, .tup _ | .bl _, .lst _ | .bl _, .loc _ | .bl _, .scr _ => isFalse (fun e => nomatch e)
  | .int _, .non | .int _, .bl _ | .int _, .str _ | .int _, .tup _ | .int _, .lst _ | .int _, .loc _ | .int _, .scr _ => isFalse (fun e => nomatch e)
  | .str _, .non | .str _, .bl _ | .str _, .int _ | .str _, .tup _ | .str _, .lst _ | .str _, .loc _ | .str _, .scr _ => isFalse (fun e => nomatch e)
  | .tup _, .non | .tup _, .bl _ | .tup _, .int _ | .tup _, .str _ | .tup _, .lst _ | .tup _, .loc _ | .tup _, .scr _ => isFalse (fun e => nomatch e)
  | .lst _, .non | .lst _, .bl _ | .lst _, .int _ | .lst _, .str _ | .lst _, .tup _ | .lst _, .loc _ | .lst _, .scr _ => isFalse (fun e => nomatch e)
  | .loc _, .non | .loc _, .bl _ | .loc _, .int _ | .loc _, .str _ | .loc _, .tup _ | .loc _, .lst _ | .loc _, .scr _ => isFalse (fun e => nomatch e)
  | .scr _, .non | .scr _, .bl _ | .scr _, .int _ | .scr _, .str _ | .scr _, .tup _ | .scr _, .lst _ | .scr _, .loc _ => isFalse (fun e => nomatch e)
def D.decs : (a b : List D) → Decidable (a = b)
  | [], [] => isTrue rfl
  | [], _ :: _ => isFalse (fun e => nomatch e)
  | _ :: _, [] => isFalse (fun e => nomatch e)
  | x :: xs, y :: ys => match D.dec x y with
    | isFalse h => isFalse (fun e => h (List.cons.inj e).1)
    | isTrue h => match D.decs xs ys with
      | isTrue h' => isTrue (by rw [h, h'])
      | isFalse h' => isFalse (fun e => h' (List.cons.inj e).2)
end
instance : DecidableEq D := D.dec

/-- a changeable object: a list, a dict with text keys, a dict with keys that are tuples of texts -/
inductive MO where
  | lst (xs : List D)
  | dct (kvs : List (List Nat × D))
  | dtt (kvs : List (List (List Nat) × D))
  deriving DecidableEq

abbrev Sto := List MO
abbrev Env := List (Option D)

inductive Res (a : Type) where
  | ok (x : a) (S : Sto)
  | exc (c : Nat) (S : Sto)
  | no

def Res.bind {a b : Type} : Res a → (a → Sto → Res b) → Res b
  | .ok x S, f => f x S
  | .exc c S, _ => .exc c S
  | .no, _ => .no
/-- within a comprehension nothing is raised -/
def Res.calm {a : Type} : Res a → Res a
  | .exc _ _ => .no
  | r => r
def ofO {a : Type} (o : Option a) (S : Sto) : Res a := match o with
  | some x => .ok x S
  | none => .no

/- how deep; a loc is too deep for any comparison -/
mutual
def D.dp : D → Nat
  | .tup xs => D.dps xs + 1
  | .lst xs => D.dps xs + 1
  | .loc _ => 1000
  | .scr _ => 1000
  | _ => 0
def D.dps : List D → Nat
  | [] => 0
  | x :: xs => max x.dp (D.dps xs)
end
/- no loc within -/
mutual
def D.pure : D → Bool
  | .tup xs => D.pures xs
  | .lst xs => D.pures xs
  | .loc _ => false
  | _ => true
def D.pures : List D → Bool
  | [] => true
  | x :: xs => x.pure && D.pures xs
end
/- == -/
mutual
def D.eqv : D → D → Bool
  | .non, .non => true
  | .bl a, .bl b => a == b
  | .bl a, .int i => (if a then 1 else 0) == i
  | .int i, .bl a => i == (if a then 1 else 0)
  | .int i, .int j => i == j
  | .str a, .str b => a == b
  | .tup xs, .tup ys => D.eqvs xs ys
  | .lst xs, .lst ys => D.eqvs xs ys
  | _, _ => false
def D.eqvs : List D → List D → Bool
  | [], [] => true
  | x :: xs, y :: ys => x.eqv y && D.eqvs xs ys
  | _, _ => false
end

inductive Ty where
  | str | tup | int | bool | list
  deriving DecidableEq

def isT : D → Ty → Option Bool
  | .loc _, _ => none
  | .scr _, _ => none
  | .str _, .str => some true
  | .tup _, .tup => some true
  | .int _, .int => some true
  | .bl _, .int => some true
  | .bl _, .bool => some true
  | .lst _, .list => some true
  | _, _ => some false
def isTs (d : D) : List Ty → Option Bool
  | [] => some false
  | t :: ts => match isT d t with
    | some true => some true
    | some false => isTs d ts
    | none => none

inductive Pr where
  | add | sub | mul | fdiv | mod | neg
  | eq | ne | lt | le | gt | ge | isin | notin
  | isc (c : D) | isntc (c : D)
  | not
  | idx | slc (lo hi : Bool) | rev
  | len | all | any | sum | tuple | list | sorted | sset | lset | min2 | max2 | maxl | int
  | isi (ts : List Ty)
  | upper | join | split | count | index
  | get | setd | dnew | dictp | app | ext | pop | seti | asint
  deriving DecidableEq

inductive SK where
  | seq | rng | enum | zip
  deriving DecidableEq

inductive E where
  | var (i : Nat)
  | con (d : D)
  | tup (es : List E)
  | lst (es : List E)
  | pr (p : Pr) (es : List E)
  | and (a b : E)
  | or (a b : E)
  | ite (c a b : E)
  | chn (o1 o2 : Pr) (a b c : E)
  | call (f : Nat) (es : List E)
  | mth (p : Pr) (o : E) (es : List E)
  | comp (own : List Nat) (tg : List Nat) (un : Bool) (k : SK) (srcs : List E) (ifs : List E) (elt : E)

inductive St where
  | set (i : Nat) (e : E)
  | setM (i : Nat) (e : E)
  | par (tg : List Nat) (es : List E)
  | unp (tg : List Nat) (e : E)
  | ret (e : E)
  | retN
  | expr (e : E)
  | pass
  | ite (c : E) (a b : List St)
  | for (tg : List Nat) (un : Bool) (k : SK) (srcs : List E) (body : List St)
  | while (c : E) (body : List St)
  | raise (c : Nat)
  | setI (o k e : E)

/-- a list of the store, seen as one -/
def rs (S : Sto) : D → D
  | .loc n => match S[n]? with
    | some (.lst xs) => .lst xs
    | _ => .loc n
  | d => d

def truth (S : Sto) : D → Option Bool
  | .non => some false
  | .bl b => some b
  | .int i => some (i != 0)
  | .str s => some (!s.isEmpty)
  | .tup xs => some (!xs.isEmpty)
  | .lst xs => some (!xs.isEmpty)
  | .loc n => match S[n]? with
    | some (.lst xs) => some (!xs.isEmpty)
    | some (.dct kvs) => some (!kvs.isEmpty)
    | _ => none
  | .scr _ => none

def sIx (n d : Nat) : Option Int → Nat
  | none => d
  | some i => if i < 0 then (i + n).toNat else min i.toNat n
def cut {a : Type} (xs : List a) (lo hi : Option Int) : List a := (xs.drop (sIx xs.length 0 lo)).take (sIx xs.length xs.length hi - sIx xs.length 0 lo)
def ixN (n : Nat) (i : Int) : Option Nat := if 0 ≤ i then (if i < n then some i.toNat else none) else if -(n : Int) ≤ i then some (i + n).toNat else none
def atI {a : Type} (xs : List a) (i : Int) : Option a := (ixN xs.length i).bind fun j => xs[j]?

def boolsD : List D → Option (List Bool)
  | [] => some []
  | .bl b :: r => (boolsD r).map (b :: ·)
  | _ => none
def intsD : List D → Option (List Int)
  | [] => some []
  | .int i :: r => (intsD r).map (i :: ·)
  | _ => none
def strsD : List D → Option (List (List Nat))
  | [] => some []
  | .str s :: r => (strsD r).map (s :: ·)
  | _ => none

def strLt (x y : List Nat) : Bool := decide (x < y)

def insS (x : List Nat) : List (List Nat) → List (List Nat)
  | [] => [x]
  | y :: ys => if strLt y x then y :: insS x ys else x :: y :: ys
/-- rising by code points; equal ones stay beside one another -/
def sortS : List (List Nat) → List (List Nat)
  | [] => []
  | x :: xs => insS x (sortS xs)
def nubS : List (List Nat) → List (List Nat)
  | [] => []
  | x :: xs => x :: (nubS xs).filter (fun y => y != x)

def lookD {k : Type} [DecidableEq k] (x : k) : List (k × D) → Option D
  | [] => none
  | (y, d) :: r => if y = x then some d else lookD x r
def putD {k : Type} [DecidableEq k] (x : k) (d : D) (kvs : List (k × D)) : List (k × D) :=
  if (lookD x kvs).isSome = true then kvs.map (fun kv => if kv.1 = x then (kv.1, d) else kv) else kvs ++ [(x, d)]

def joinS (sep : List Nat) : List (List Nat) → List Nat
  | [] => []
  | [x] => x
  | x :: y :: r => x ++ sep ++ joinS sep (y :: r)
def splitS (c : Nat) : List Nat → List Nat → List (List Nat)
  | acc, [] => [acc]
  | acc, x :: r => if x = c then acc :: splitS c [] r else splitS c (acc ++ [x]) r

def upC (c : Nat) : Nat := if 97 ≤ c ∧ c ≤ 122 then c - 32 else c

def gd {a : Type} (c : Prop) [Decidable c] (x : a) (S : Sto) : Res a := if c then .ok x S else .no

def maxL : List Int → Int
  | [] => 0
  | [x] => x
  | x :: y :: r => max x (maxL (y :: r))

/-- one operation, by the values -/
def pr : Pr → List D → Sto → Res D
  | .add, [a, b], S => match rs S a, rs S b with
    | .int i, .int j => .ok (.int (i + j)) S
    | .str x, .str y => gd (x.length + y.length ≤ szL) (.str (x ++ y)) S
    | .tup x, .tup y => gd (x.length + y.length ≤ szL) (.tup (x ++ y)) S
    | .lst x, .lst y => gd (x.length + y.length ≤ szL) (.lst (x ++ y)) S
    | _, _ => .no
  | .sub, [.int i, .int j], S => .ok (.int (i - j)) S
  | .mul, [a, b], S => match rs S a, rs S b with
    | .int i, .int j => gd ((-(2 ^ 64) < i ∧ i < 2 ^ 64) ∨ (-(2 ^ 64) < j ∧ j < 2 ^ 64)) (.int (i * j)) S
    | .str x, .int j => gd (2 ≤ j ∧ j ≤ 1000 ∧ x.length ≤ 1000) (.str (List.replicate j.toNat x).flatten) S
    | .tup x, .int j => gd (x ≠ [] ∧ 2 ≤ j ∧ j ≤ 1000 ∧ x.length ≤ 1000) (.tup (List.replicate j.toNat x).flatten) S
    | .lst x, .int j => gd (0 ≤ j ∧ j ≤ 1000 ∧ x.length ≤ 1000) (.lst (List.replicate j.toNat x).flatten) S
    | _, _ => .no
  | .fdiv, [.int i, .int j], S => gd (0 < j ∧ j < 1073741824) (.int (i / j)) S
  | .mod, [.int i, .int j], S => gd (0 < j) (.int (i % j)) S
  | .neg, [.int i], S => .ok (.int (-i)) S
  | .eq, [a, b], S => gd ((rs S a).dp ≤ dpL ∧ (rs S b).dp ≤ dpL) (.bl ((rs S a).eqv (rs S b))) S
  | .ne, [a, b], S => gd ((rs S a).dp ≤ dpL ∧ (rs S b).dp ≤ dpL) (.bl (!(rs S a).eqv (rs S b))) S
  | .lt, [.int i, .int j], S => .ok (.bl (decide (i < j))) S
  | .lt, [.str x, .str y], S => .ok (.bl (strLt x y)) S
  | .le, [.int i, .int j], S => .ok (.bl (decide (i ≤ j))) S
  | .le, [.str x, .str y], S => .ok (.bl (!strLt y x)) S
  | .gt, [.int i, .int j], S => .ok (.bl (decide (j < i))) S
  | .ge, [.int i, .int j], S => .ok (.bl (decide (j ≤ i))) S
  | .isin, [a, b], S => isIn a (rs S b) S true
  | .notin, [a, b], S => isIn a (rs S b) S false
  | .isc c, [a], S => isC a c S true
  | .isntc c, [a], S => isC a c S false
  | .not, [a], S => ofO ((truth S a).map fun b => .bl (!b)) S
  | .idx, [a, i], S => match rs S a, i with
    | .tup xs, .int i => ofO (atI xs i) S
    | .lst xs, .int i => ofO (atI xs i) S
    | .str x, .int i => ofO ((atI x i).map fun c => .str [c]) S
    | .scr ns, .int i => ofO ((atI ns i).map fun n => .int n) S
    | .loc n, .str k => match S[n]? with
      | some (.dct kvs) => ofO (lookD k kvs) S
      | _ => .no
    | .loc n, .tup ks => match S[n]?, strsD ks with
      | some (.dtt kvs), some k => ofO (lookD k kvs) S
      | _, _ => .no
    | _, _ => .no
  | .slc lo hi, a :: r, S => match lo, hi, r with
    | false, false, [] => cutD (rs S a) none none S
    | true, false, [.int i] => cutD (rs S a) (some i) none S
    | false, true, [.int j] => cutD (rs S a) none (some j) S
    | true, true, [.int i, .int j] => cutD (rs S a) (some i) (some j) S
    | _, _, _ => .no
  | .rev, [a], S => match rs S a with
    | .tup xs => .ok (.tup xs.reverse) S
    | .lst xs => .ok (.lst xs.reverse) S
    | _ => .no
  | .len, [a], S => match rs S a with
    | .tup xs => .ok (.int xs.length) S
    | .lst xs => .ok (.int xs.length) S
    | .str s => .ok (.int s.length) S
    | .scr ns => .ok (.int ns.length) S
    | .loc n => match S[n]? with
      | some (.dct kvs) => .ok (.int kvs.length) S
      | _ => .no
    | _ => .no
  | .all, [a], S => match rs S a with
    | .lst xs => ofO ((boolsD xs).map fun bs => .bl (bs.all id)) S
    | _ => .no
  | .any, [a], S => match rs S a with
    | .lst xs => ofO ((boolsD xs).map fun bs => .bl (bs.any id)) S
    | _ => .no
  | .sum, [a], S => match rs S a with
    | .lst xs => ofO ((intsD xs).map fun ns => .int ns.sum) S
    | _ => .no
  | .tuple, [a], S => match rs S a with
    | .lst xs => .ok (.tup xs) S
    | .tup xs => .ok (.tup xs) S
    | _ => .no
  | .list, [a], S => match rs S a with
    | .lst xs => .ok (.lst xs) S
    | .tup xs => .ok (.lst xs) S
    | _ => .no
  | .upper, [.str s], S => gd (s.all (· < 128) = true ∧ s.length ≤ 5592405) (.str (s.map upC)) S
  | .int, [.bl b], S => .ok (.int (if b then 1 else 0)) S
  | .int, [.int i], S => .ok (.int i) S
  | .min2, [.int i, .int j], S => .ok (.int (if j < i then j else i)) S
  | .max2, [.int i, .int j], S => .ok (.int (if j > i then j else i)) S
  | .maxl, [a], S => match rs S a with
    | .lst xs => match intsD xs with
      | some (n :: ns) => .ok (.int (maxL (n :: ns))) S
      | _ => .no
    | _ => .no
  | .isi ts, [a], S => ofO ((isTs (rs S a) ts).map D.bl) S
  | .app, [.loc n, x], S => match S[n]? with
    | some (.lst xs) => gd (xs.length < szL) .non (S.set n (.lst (xs ++ [x])))
    | _ => .no
  | .ext, [.loc n, y], S => match S[n]?, rs S y with
    | some (.lst xs), .lst ys => gd (xs.length + ys.length ≤ szL) .non (S.set n (.lst (xs ++ ys)))
    | _, _ => .no
  | .asint, [.int i], S => .ok (.int i) S
  | .dnew, [], S => .ok (.loc S.length) (S ++ [.dct []])
  | .get, [.loc n, .str k, d], S => match S[n]? with
    | some (.dct kvs) => .ok ((lookD k kvs).getD d) S
    | _ => .no
  | .setd, [.loc n, .str k, d], S => match S[n]? with
    | some (.dct kvs) => if kvs.length < szL then (match lookD k kvs with
      | some e => .ok e S
      | none => .ok d (S.set n (.dct (putD k d kvs)))) else .no
    | _ => .no
  | .seti, [.loc n, .str k, d], S => match S[n]? with
    | some (.dct kvs) => gd (kvs.length < szL) .non (S.set n (.dct (putD k d kvs)))
    | _ => .no
  | _, _, _ => .no
where
  isIn (a b : D) (S : Sto) (pos : Bool) : Res D := match a, b with
    | .str [c], .str s => .ok (.bl (if pos then decide (c ∈ s) else !decide (c ∈ s))) S
    | a, .lst xs => gd (a.dp ≤ dpL ∧ (D.lst xs).dp ≤ dpL) (.bl (if pos then xs.any (fun y => y.eqv a) else !xs.any (fun y => y.eqv a))) S
    | a, .tup xs => gd (a.dp ≤ dpL ∧ (D.tup xs).dp ≤ dpL) (.bl (if pos then xs.any (fun y => y.eqv a) else !xs.any (fun y => y.eqv a))) S
    | .str k, .loc n => match S[n]? with
      | some (.dct kvs) => .ok (.bl (if pos then (lookD k kvs).isSome else !(lookD k kvs).isSome)) S
      | _ => .no
    | _, _ => .no
  isC (a c : D) (S : Sto) (pos : Bool) : Res D := match c with
    | .non => .ok (.bl (if pos then decide (a = .non) else !decide (a = .non))) S
    | .bl b => match a with
      | .bl b' => .ok (.bl (if pos then decide (b' = b) else !decide (b' = b))) S
      | _ => .no
    | _ => .no
  cutD (a : D) (lo hi : Option Int) (S : Sto) : Res D := match a with
    | .tup xs => .ok (.tup (cut xs lo hi)) S
    | .lst xs => .ok (.lst (cut xs lo hi)) S
    | .str x => .ok (.str (cut x lo hi)) S
    | _ => .no

/-- the receiver of a method, ahead of the arguments -/
def okM : Pr → D → Sto → Bool
  | .app, d, S => match rs S d with
    | .lst _ => true
    | _ => false
  | .ext, d, S => match rs S d with
    | .lst _ => true
    | _ => false
  | .get, .loc n, S => match S[n]? with
    | some (.dct _) => true
    | _ => false
  | .setd, .loc n, S => match S[n]? with
    | some (.dct _) => true
    | _ => false
  | .upper, .str _, _ => true
  | _, _, _ => false

/-- what a for walks: its items, and the store's list that must stay -/
def items : SK → List D → Sto → Option (List D × Option Nat)
  | .seq, [.loc n], S => match S[n]? with
    | some (.lst xs) => some (xs, some n)
    | _ => none
  | .seq, [.lst xs], _ => some (xs, none)
  | .seq, [.tup xs], _ => some (xs, none)
  | .seq, [.str s], _ => some (s.map fun c => .str [c], none)
  | .rng, [.int j], _ => if -(2 ^ 62) ≤ j ∧ j < 2 ^ 62 then some ((List.range j.toNat).map fun (i : Nat) => .int i, none) else none
  | .rng, [.int i, .int j], _ => if -(2 ^ 62) ≤ i ∧ i < 2 ^ 62 ∧ -(2 ^ 62) ≤ j ∧ j < 2 ^ 62 then some ((List.range (j - i).toNat).map fun (k : Nat) => .int (i + k), none) else none
  | .enum, [.lst xs], _ => some (xs.zipIdx.map fun p => .tup [.int p.2, p.1], none)
  | .zip, [.tup xs, .tup ys], _ => some ((xs.zip ys).map fun p => .tup [p.1, p.2], none)
  | .zip, [.lst xs, .lst ys], _ => some ((xs.zip ys).map fun p => .tup [p.1, p.2], none)
  | _, _, _ => none
def chk (xs : List D) : Option Nat → Sto → Bool
  | none, _ => true
  | some n, S => decide (S[n]? = some (.lst xs))

def sets : List Nat → List D → Env → Env
  | i :: is, d :: ds, s => sets is ds (s.set i (some d))
  | _, _, s => s
def bindT (tg : List Nat) (un : Bool) (d : D) (s : Env) : Option Env := match un with
  | false => match tg with
    | [i] => some (s.set i (some d))
    | _ => none
  | true => match d with
    | .tup xs => if xs.length = tg.length then some (sets tg xs s) else none
    | _ => none
def wipe (s : Env) : List Nat → Env
  | [] => s
  | v :: vs => (wipe s vs).set v none

inductive Out where
  | nx (s : Env) (S : Sto)
  | rt (d : D) (S : Sto)
  | exc (c : Nat) (s : Env) (S : Sto)
  | no

def getV (s : Env) (i : Nat) (S : Sto) : Res D := match s[i]? with
  | some (some d) => .ok d S
  | _ => .no

/-- a comprehension's loop -/
def compL (b : D → Option Env) (c : Env → Sto → Res Bool) (e : Env → Sto → Res D) (k : Sto → Bool) : List D → Sto → Res (List D)
  | [], S => .ok [] S
  | d :: ds, S => match b d with
    | none => .no
    | some s1 => (c s1 S).calm.bind fun t S1 => match t with
      | true => (e s1 S1).calm.bind fun y S2 => if k S2 = true then (compL b c e k ds S2).bind fun ys S3 => .ok (y :: ys) S3 else .no
      | false => if k S1 = true then compL b c e k ds S1 else .no
/-- a for's loop -/
def forL (b : D → Env → Option Env) (f : Env → Sto → Out) (k : Sto → Bool) : List D → Env → Sto → Out
  | [], s, S => .nx s S
  | d :: ds, s, S => match b d s with
    | none => .no
    | some s1 => match f s1 S with
      | .nx s2 S2 => if k S2 = true then forL b f k ds s2 S2 else .no
      | o => o
def whileL (c : Env → Sto → Res Bool) (f : Env → Sto → Out) : Nat → Env → Sto → Out
  | 0, _, _ => .no
  | n + 1, s, S => match c s S with
    | .ok false S1 => .nx s S1
    | .ok true S1 => match f s S1 with
      | .nx s2 S2 => whileL c f n s2 S2
      | o => o
    | .exc x S1 => .exc x s S1
    | .no => .no
def whileMost : Nat := 4096

def tst (r : Res D) : Res Bool := r.bind fun d S => ofO (truth S d) S

section
variable (G : Nat → List D → Sto → Res D)
mutual
def ev : E → Env → Sto → Res D
  | .var i, s, S => getV s i S
  | .con d, _, S => .ok d S
  | .tup es, s, S => (evs es s S).bind fun ds S => .ok (.tup ds) S
  | .lst es, s, S => (evs es s S).bind fun ds S => .ok (.lst ds) S
  | .pr p es, s, S => (evs es s S).bind fun ds S => pr p ds S
  | .and a b, s, S => (ev a s S).bind fun d S1 => match truth S1 d with
    | some true => ev b s S1
    | some false => .ok d S1
    | none => .no
  | .or a b, s, S => (ev a s S).bind fun d S1 => match truth S1 d with
    | some true => .ok d S1
    | some false => ev b s S1
    | none => .no
  | .ite c a b, s, S => (tst (ev c s S)).bind fun t S1 => match t with
    | true => ev a s S1
    | false => ev b s S1
  | .chn o1 o2 a b c, s, S => (ev a s S).bind fun x S1 => (ev b s S1).bind fun y S2 => (pr o1 [x, y] S2).bind fun t S3 => match t with
    | .bl true => (ev c s S3).bind fun z S4 => pr o2 [y, z] S4
    | .bl false => .ok (.bl false) S3
    | _ => .no
  | .call f es, s, S => (evs es s S).bind fun ds S => G f ds S
  | .mth p o es, s, S => (ev o s S).bind fun d S1 => if okM p d S1 = true then (evs es s S1).bind fun ds S2 => pr p (d :: ds) S2 else .no
  | .comp own tg un k srcs ifs elt, s, S => (evs srcs s S).bind fun ds S1 => match items k ds S1 with
    | none => .no
    | some (xs, l) => if xs.length ≤ szL then (compL (fun d => bindT tg un d (wipe s own)) (fun s S => evT ifs s S) (fun s S => ev elt s S) (chk xs l) xs S1).bind fun ys S2 => .ok (.lst ys) S2 else .no
def evs : List E → Env → Sto → Res (List D)
  | [], _, S => .ok [] S
  | e :: es, s, S => (ev e s S).bind fun d S1 => (evs es s S1).bind fun ds S2 => .ok (d :: ds) S2
/-- the tests of a comprehension: none or one -/
def evT : List E → Env → Sto → Res Bool
  | [], _, S => .ok true S
  | [e], s, S => tst (ev e s S)
  | _, _, _ => .no
end

def outE (s : Env) (r : Res D) (f : D → Sto → Out) : Out := match r with
  | .ok d S => f d S
  | .exc c S => .exc c s S
  | .no => .no
def outB (s : Env) (r : Res Bool) (f : Bool → Sto → Out) : Out := match r with
  | .ok d S => f d S
  | .exc c S => .exc c s S
  | .no => .no
def outL (s : Env) (r : Res (List D)) (f : List D → Sto → Out) : Out := match r with
  | .ok d S => f d S
  | .exc c S => .exc c s S
  | .no => .no

mutual
def ex : St → Env → Sto → Out
  | .set i e, s, S => outE s (ev G e s S) fun d S => .nx (s.set i (some d)) S
  | .setM i e, s, S => outE s (ev G e s S) fun d S => match d with
    | .lst xs => .nx (s.set i (some (.loc S.length))) (S ++ [.lst xs])
    | _ => .no
  | .par tg es, s, S => outL s (evs G es s S) fun ds S => if ds.length = tg.length then .nx (sets tg ds s) S else .no
  | .unp tg e, s, S => outE s (ev G e s S) fun d S => match bindT tg true d s with
    | some s1 => .nx s1 S
    | none => .no
  | .ret e, s, S => outE s (ev G e s S) fun d S => .rt d S
  | .retN, _, S => .rt .non S
  | .expr e, s, S => outE s (ev G e s S) fun _ S => .nx s S
  | .pass, s, S => .nx s S
  | .ite c a b, s, S => outB s (tst (ev G c s S)) fun t S => match t with
    | true => exs a s S
    | false => exs b s S
  | .for tg un k srcs body, s, S => outL s (evs G srcs s S) fun ds S1 => match items k ds S1 with
    | none => .no
    | some (xs, l) => forL (fun d s => bindT tg un d s) (fun s S => exs body s S) (chk xs l) xs s S1
  | .while c body, s, S => whileL (fun s S => tst (ev G c s S)) (fun s S => exs body s S) whileMost s S
  | .raise c, s, S => .exc c s S
  | .setI o k e, s, S => outE s (ev G e s S) fun d S1 => outE s (ev G o s S1) fun x S2 => outE s (ev G k s S2) fun y S3 => outE s (pr .seti [x, y, d] S3) fun _ S4 => .nx s S4
def exs : List St → Env → Sto → Out
  | [], s, S => .nx s S
  | t :: ts, s, S => match ex t s S with
    | .nx s1 S1 => exs ts s1 S1
    | o => o
end
end

structure Fn where
  np : Nat
  ns : Nat
  body : List St

def start (n : Nat) (ds : List D) : Env := ds.map some ++ List.replicate (n - ds.length) none

def vals {k : Type} (kvs : List (k × D)) : List D := kvs.map (·.2)
def MO.pure : MO → Bool
  | .lst xs => D.pures xs
  | .dct kvs => D.pures (vals kvs)
  | .dtt kvs => D.pures (vals kvs)
def keepS (S S' : Sto) : Bool := decide (S'.take S.length = S) || (S'.take S.length).all MO.pure
/-- a def ends: its own objects are left behind; a list that it hands back is a plain one from there on, a dict goes over to the caller -/
def retD (S : Sto) (d : D) (S' : Sto) : Res D :=
  if S'.length = S.length then .ok d S'
  else if keepS S S' = true then (match d with
    | .loc l => if l < S.length then .ok (.loc l) (S'.take S.length) else match S'[l]? with
      | some (.lst xs) => if D.pures xs = true then .ok (.lst xs) (S'.take S.length) else .no
      | some (.dct kvs) => if D.pures (vals kvs) = true then .ok (.loc S.length) (S'.take S.length ++ [.dct kvs]) else .no
      | some (.dtt kvs) => if D.pures (vals kvs) = true then .ok (.loc S.length) (S'.take S.length ++ [.dtt kvs]) else .no
      | none => .no
    | d => if d.pure = true then .ok d (S'.take S.length) else .no)
  else .no
def fin (S : Sto) : Out → Res D
  | .nx _ S' => retD S .non S'
  | .rt d S' => retD S d S'
  | .exc c _ S' => if S'.length = S.length then .exc c S' else if keepS S S' = true then .exc c (S'.take S.length) else .no
  | .no => .no

def run (P : Nat → Option Fn) : Nat → Nat → List D → Sto → Res D
  | 0, _, _, _ => .no
  | n + 1, f, ds, S => match P f with
    | none => .no
    | some F => if ds.length = F.np then fin S (exs (run P n) F.body (start F.ns ds) S) else .no

end Eng

/-! Eng2 -/
set_option Elab.async false
set_option linter.all false
set_option maxRecDepth 100000
set_option maxHeartbeats 4000000
/-! The evaluator's data over the layer's heap. -/
namespace Eng
open PySem PySem.Spec PyProof.Rows L2

theorem szL_eq : szL = sizeLine := by rw [sizeLine_eq]; rfl

/-- the heap as the layer sees it; lists that stay as they are; where the store's objects stand -/
structure Wd where
  H : Hp
  F : Addr → Prop
  r : List Addr

def LsA (w : Wd) (a : Addr) (vs : List V) : Prop := w.F a ∧ w.H a = some (.lst vs)
/-- the script: a list that nobody writes -/
def ScA (K : PySem.W.Frag) (w : Wd) (a : Addr) (vs : List V) : Prop :=
  (∃ o, w.H a = some (.frz o (.lst vs))) ∨
    ∃ (o : Obj) (its : Array Value) (n : Nat), K.lookup a = some o ∧ o.cls = .type "list" ∧ o.dict = none ∧ o.data = .seq its n ∧ its.size ≤ sizeLine ∧ Vals vs its.toList

def sv (s : List Nat) : Str := ⟨s.toArray⟩
def okS (s : List Nat) : Prop := s.length ≤ szL ∧ s.all (· < 1114112) = true

mutual
def RD (K : PySem.W.Frag) (w : Wd) : D → V → Prop
  | .non, v => v = .non
  | .bl b, v => v = .bl b
  | .int i, v => v = .int i
  | .str s, v => v = .str (sv s) ∧ okS s
  | .tup xs, v => ∃ a vs, v = .ref a ∧ w.H a = some (.tup vs) ∧ xs.length ≤ szL ∧ RDs K w xs vs
  | .lst xs, v => ∃ a vs, v = .ref a ∧ LsA w a vs ∧ xs.length ≤ szL ∧ RDs K w xs vs
  | .loc n, v => ∃ a, v = .ref a ∧ w.r[n]? = some a
  | .scr ns, v => ∃ a, v = .ref a ∧ ScA K w a (ns.map V.int)
def RDs (K : PySem.W.Frag) (w : Wd) : List D → List V → Prop
  | [], vs => vs = []
  | x :: xs, vs => ∃ v r, vs = v :: r ∧ RD K w x v ∧ RDs K w xs r
end

/-- what is known goes on -/
structure Wk (w w' : Wd) : Prop where
  tup : ∀ b xs, w.H b = some (.tup xs) → w'.H b = some (.tup xs)
  frz : ∀ b o u, w.H b = some (.frz o u) → w'.H b = some (.frz o u)
  lst : ∀ b xs, w.F b → w.H b = some (.lst xs) → w'.H b = some (.lst xs)
  phi : ∀ b, w.F b → w'.F b
  rho : ∃ more, w'.r = w.r ++ more
/-- .. and nothing else is touched -/
structure Ext (w w' : Wd) : Prop extends Wk w w' where
  frm : ∀ b, ¬ w.F b → b ∉ w.r → w.H b ≠ none → w'.H b = w.H b ∧ ¬ w'.F b ∧ b ∉ w'.r

theorem Wk.refl (w : Wd) : Wk w w := ⟨fun _ _ h => h, fun _ _ _ h => h, fun _ _ _ h => h, fun _ h => h, ⟨[], by simp⟩⟩
theorem Ext.refl (w : Wd) : Ext w w := ⟨Wk.refl w, fun b h1 h2 h3 => ⟨rfl, h1, h2⟩⟩
theorem Wk.trans {a b c : Wd} (x : Wk a b) (y : Wk b c) : Wk a c := by
  refine ⟨fun b xs h => y.tup _ _ (x.tup _ _ h), fun b o u h => y.frz _ _ _ (x.frz _ _ _ h), fun b xs f h => y.lst _ _ (x.phi _ f) (x.lst _ _ f h), fun b f => y.phi _ (x.phi _ f), ?_⟩
  obtain ⟨m, e⟩ := x.rho
  obtain ⟨m', e'⟩ := y.rho
  exact ⟨m ++ m', by rw [e', e, List.append_assoc]⟩
theorem Ext.trans {a b c : Wd} (x : Ext a b) (y : Ext b c) : Ext a c := by
  refine ⟨x.toWk.trans y.toWk, fun b h1 h2 h3 => ?_⟩
  obtain ⟨e1, e2, e3⟩ := x.frm b h1 h2 h3
  obtain ⟨f1, f2, f3⟩ := y.frm b e2 e3 (by rw [e1]; exact h3)
  exact ⟨f1.trans e1, f2, f3⟩

theorem LsA.wk {w w' : Wd} {a : Addr} {vs : List V} (h : LsA w a vs) (x : Wk w w') : LsA w' a vs := ⟨x.phi _ h.1, x.lst _ _ h.1 h.2⟩
theorem LsA.ext {w w' : Wd} {a : Addr} {vs : List V} (h : LsA w a vs) (x : Ext w w') : LsA w' a vs := h.wk x.toWk
theorem ScA.wk {K : PySem.W.Frag} {w w' : Wd} {a : Addr} {vs : List V} (h : ScA K w a vs) (x : Wk w w') : ScA K w' a vs := by
  rcases h with ⟨o, h⟩ | h
  · exact .inl ⟨o, x.frz _ _ _ h⟩
  · exact .inr h
theorem ScA.sq {K : PySem.W.Frag} {w : Wd} {a : Addr} {vs : List V} (h : ScA K w a vs) : SqL K w.H a vs := by
  rcases h with ⟨o, h⟩ | h
  · exact .inl (.inr ⟨o, h⟩)
  · exact .inr h
theorem rho_wk {w w' : Wd} (x : Wk w w') {n : Nat} {a : Addr} (h : w.r[n]? = some a) : w'.r[n]? = some a := by
  obtain ⟨m, e⟩ := x.rho
  rw [e, List.getElem?_append_left (List.getElem?_eq_some_iff.mp h).1]
  exact h
theorem rho_get {w w' : Wd} (x : Ext w w') {n : Nat} {a : Addr} (h : w.r[n]? = some a) : w'.r[n]? = some a := rho_wk x.toWk h

mutual
theorem RD.wk {K : PySem.W.Frag} {w w' : Wd} (x : Wk w w') : ∀ (d : D) (v : V), RD K w d v → RD K w' d v
  | .non, _, h => by simpa only [RD] using h
  | .bl _, _, h => by simpa only [RD] using h
  | .int _, _, h => by simpa only [RD] using h
  | .str _, _, h => by simpa only [RD] using h
  | .tup xs, v, h => by
    simp only [RD] at h ⊢
    obtain ⟨a, vs, e, h1, h2, h3⟩ := h
    exact ⟨a, vs, e, x.tup _ _ h1, h2, RDs.wk x xs vs h3⟩
  | .lst xs, v, h => by
    simp only [RD] at h ⊢
    obtain ⟨a, vs, e, h1, h2, h3⟩ := h
    exact ⟨a, vs, e, h1.wk x, h2, RDs.wk x xs vs h3⟩
  | .loc n, v, h => by
    simp only [RD] at h ⊢
    obtain ⟨a, e, h1⟩ := h
    exact ⟨a, e, rho_wk x h1⟩
  | .scr ns, v, h => by
    simp only [RD] at h ⊢
    obtain ⟨a, e, h1⟩ := h
    exact ⟨a, e, h1.wk x⟩
theorem RDs.wk {K : PySem.W.Frag} {w w' : Wd} (x : Wk w w') : ∀ (ds : List D) (vs : List V), RDs K w ds vs → RDs K w' ds vs
  | [], _, h => by simpa only [RDs] using h
  | d :: ds, vs, h => by
    simp only [RDs] at h ⊢
    obtain ⟨v, r, e, h1, h2⟩ := h
    exact ⟨v, r, e, RD.wk x d v h1, RDs.wk x ds r h2⟩
end
theorem RD.ext {K : PySem.W.Frag} {w w' : Wd} (x : Ext w w') (d : D) (v : V) (h : RD K w d v) : RD K w' d v := RD.wk x.toWk d v h
theorem RDs.ext {K : PySem.W.Frag} {w w' : Wd} (x : Ext w w') (d : List D) (v : List V) (h : RDs K w d v) : RDs K w' d v := RDs.wk x.toWk d v h

section
variable {K : PySem.W.Frag} {w : Wd}
theorem RDs.nil : RDs K w [] [] := by simp only [RDs]
theorem RDs.cons {d : D} {ds : List D} {v : V} {vs : List V} (h : RD K w d v) (hs : RDs K w ds vs) : RDs K w (d :: ds) (v :: vs) := by
  simp only [RDs]; exact ⟨v, vs, rfl, h, hs⟩
theorem RDs.nil_inv {vs : List V} (h : RDs K w [] vs) : vs = [] := by simpa only [RDs] using h
theorem RDs.cons_inv {d : D} {ds : List D} {vs : List V} (h : RDs K w (d :: ds) vs) : ∃ v r, vs = v :: r ∧ RD K w d v ∧ RDs K w ds r := by simpa only [RDs] using h
theorem RDs.length : ∀ {ds : List D} {vs : List V}, RDs K w ds vs → vs.length = ds.length
  | [], vs, h => by rw [h.nil_inv] <;> rfl
  | d :: ds, vs, h => by
    obtain ⟨v, r, rfl, _, h2⟩ := h.cons_inv
    simp [RDs.length h2]
theorem RDs.append : ∀ {ds es : List D} {vs us : List V}, RDs K w ds vs → RDs K w es us → RDs K w (ds ++ es) (vs ++ us)
  | [], es, vs, us, h, h' => by rw [h.nil_inv]; simpa using h'
  | d :: ds, es, vs, us, h, h' => by
    obtain ⟨v, r, rfl, h1, h2⟩ := h.cons_inv
    exact RDs.cons h1 (RDs.append h2 h')
theorem RDs.get : ∀ {ds : List D} {vs : List V} {i : Nat} {d : D}, RDs K w ds vs → ds[i]? = some d → ∃ v, vs[i]? = some v ∧ RD K w d v
  | [], vs, i, d, h, e => by simp at e
  | x :: ds, vs, 0, d, h, e => by
    obtain ⟨v, r, rfl, h1, h2⟩ := h.cons_inv
    simp at e; subst e; exact ⟨v, rfl, h1⟩
  | x :: ds, vs, i + 1, d, h, e => by
    obtain ⟨v, r, rfl, h1, h2⟩ := h.cons_inv
    obtain ⟨u, e1, e2⟩ := RDs.get (i := i) h2 (by simpa using e)
    exact ⟨u, by simpa using e1, e2⟩
theorem RDs.getV : ∀ {ds : List D} {vs : List V} {i : Nat} {v : V}, RDs K w ds vs → vs[i]? = some v → ∃ d, ds[i]? = some d ∧ RD K w d v
  | [], vs, i, v, h, e => by rw [h.nil_inv] at e; simp at e
  | x :: ds, vs, 0, v, h, e => by
    obtain ⟨v, r, rfl, h1, h2⟩ := h.cons_inv
    simp at e; subst e; exact ⟨x, rfl, h1⟩
  | x :: ds, vs, i + 1, v, h, e => by
    obtain ⟨v, r, rfl, h1, h2⟩ := h.cons_inv
    obtain ⟨u, e1, e2⟩ := RDs.getV (i := i) h2 (by simpa using e)
    exact ⟨u, by simpa using e1, e2⟩
theorem RDs.take : ∀ {ds : List D} {vs : List V} (n : Nat), RDs K w ds vs → RDs K w (ds.take n) (vs.take n)
  | _, _, 0, _ => by simpa using RDs.nil
  | [], vs, n + 1, h => by rw [h.nil_inv]; simpa using RDs.nil
  | x :: ds, vs, n + 1, h => by
    obtain ⟨v, r, rfl, h1, h2⟩ := h.cons_inv
    simpa using RDs.cons h1 (RDs.take n h2)
theorem RDs.drop : ∀ {ds : List D} {vs : List V} (n : Nat), RDs K w ds vs → RDs K w (ds.drop n) (vs.drop n)
  | _, _, 0, h => by simpa using h
  | [], vs, n + 1, h => by rw [h.nil_inv]; simpa using RDs.nil
  | x :: ds, vs, n + 1, h => by
    obtain ⟨v, r, rfl, h1, h2⟩ := h.cons_inv
    simpa using RDs.drop n h2
theorem RDs.reverse : ∀ {ds : List D} {vs : List V}, RDs K w ds vs → RDs K w ds.reverse vs.reverse
  | [], vs, h => by rw [h.nil_inv]; simpa using RDs.nil
  | x :: ds, vs, h => by
    obtain ⟨v, r, rfl, h1, h2⟩ := h.cons_inv
    simpa using RDs.append (RDs.reverse h2) (RDs.cons h1 RDs.nil)
theorem RDs.rep {ds : List D} {vs : List V} (h : RDs K w ds vs) : ∀ k : Nat, RDs K w (List.replicate k ds).flatten (List.replicate k vs).flatten
  | 0 => by simpa using RDs.nil
  | k + 1 => by simpa [List.replicate_succ] using RDs.append h (RDs.rep h k)
end

/-- a changeable object as the heap has it -/
def KVs (K : PySem.W.Frag) (w : Wd) : List (List Nat × D) → List (Key × V) → Prop
  | [], ks => ks = []
  | (s, d) :: r, ks => ∃ v r', ks = (Sum.inr (sv s), v) :: r' ∧ RD K w d v ∧ KVs K w r r'
def KTs (K : PySem.W.Frag) (w : Wd) : List (List (List Nat) × D) → List (List Key × V) → Prop
  | [], ks => ks = []
  | (s, d) :: r, ks => ∃ v r', ks = (s.map (fun x => Sum.inr (sv x)), v) :: r' ∧ RD K w d v ∧ KTs K w r r'
def MOk (K : PySem.W.Frag) (w : Wd) (a : Addr) : MO → Prop
  | .lst xs => ∃ vs, w.H a = some (.lst vs) ∧ xs.length ≤ szL ∧ RDs K w xs vs
  | .dct kvs => ∃ ks, w.H a = some (.dK ks) ∧ kvs.length ≤ szL ∧ KVs K w kvs ks
  | .dtt kvs => ∃ ks, w.H a = some (.dT ks) ∧ kvs.length ≤ szL ∧ KTs K w kvs ks
structure RS (K : PySem.W.Frag) (w : Wd) (S : Sto) : Prop where
  len : w.r.length = S.length
  nd : w.r.Nodup
  apart : ∀ a ∈ w.r, ¬ w.F a
  live : ∀ a, w.F a → w.H a ≠ none
  obj : ∀ (n : Nat) (a : Addr) (o : MO), w.r[n]? = some a → S[n]? = some o → MOk K w a o

/-- the slots -/
structure StR (K : PySem.W.Frag) (w : Wd) (σ : L2.St) (s : Env) : Prop where
  len : σ.length = s.length
  at_ : ∀ (i : Nat) (d : D), s[i]? = some (some d) → ∃ v, σ[i]? = some (some v) ∧ RD K w d v
theorem StR.ext {K : PySem.W.Frag} {w w' : Wd} {σ : L2.St} {s : Env} (h : StR K w σ s) (x : Ext w w') : StR K w' σ s :=
  ⟨h.len, fun i d e => let ⟨v, e1, e2⟩ := h.at_ i d e; ⟨v, e1, RD.ext x d v e2⟩⟩

theorem RS.mem {K : PySem.W.Frag} {w : Wd} {S : Sto} (h : RS K w S) {a : Addr} (ha : a ∈ w.r) : w.H a ≠ none := by
  obtain ⟨n, hn, e⟩ := List.mem_iff_getElem.mp ha
  have hs : n < S.length := by rw [← h.len]; exact hn
  have q := h.obj n a S[n] (by rw [List.getElem?_eq_getElem hn, e]) (List.getElem?_eq_getElem hs)
  cases ho : S[n] with
  | lst xs => rw [ho] at q; obtain ⟨vs, e, _⟩ := q; rw [e]; simp
  | dct xs => rw [ho] at q; obtain ⟨vs, e, _⟩ := q; rw [e]; simp
  | dtt xs => rw [ho] at q; obtain ⟨vs, e, _⟩ := q; rw [e]; simp
theorem RS.notIn {K : PySem.W.Frag} {w : Wd} {S : Sto} (h : RS K w S) {p : Addr} (hp : w.H p = none) : p ∉ w.r := fun hm => h.mem hm hp
theorem RS.notF {K : PySem.W.Frag} {w : Wd} {S : Sto} (h : RS K w S) {p : Addr} (hp : w.H p = none) : ¬ w.F p := fun hf => h.live p hf hp
theorem RS.loc {K : PySem.W.Frag} {w : Wd} {S : Sto} (h : RS K w S) {n : Nat} {a : Addr} (e : w.r[n]? = some a) : ∃ o, S[n]? = some o ∧ MOk K w a o := by
  have hn := (List.getElem?_eq_some_iff.mp e).1
  have hs : n < S.length := by rw [← h.len]; exact hn
  exact ⟨S[n], List.getElem?_eq_getElem hs, h.obj n a _ e (List.getElem?_eq_getElem hs)⟩

/-- a new thing at p -/
def Wd.new (w : Wd) (p : Addr) (o : HO) : Wd := ⟨upd w.H p o, w.F, w.r⟩
/-- .. that stays as it is -/
def Wd.newF (w : Wd) (p : Addr) (o : HO) : Wd := ⟨upd w.H p o, fun b => w.F b ∨ b = p, w.r⟩
/-- .. of the store -/
def Wd.newM (w : Wd) (p : Addr) (o : HO) : Wd := ⟨upd w.H p o, w.F, w.r ++ [p]⟩
/-- a thing of the store changes -/
def Wd.put (w : Wd) (p : Addr) (o : HO) : Wd := ⟨upd w.H p o, w.F, w.r⟩

section
variable {K : PySem.W.Frag} {w : Wd} {S : Sto} {p : Addr} {o : HO}
theorem Ext.new (hp : w.H p = none) : Ext w (w.new p o) :=
  ⟨⟨fun b xs h => by show upd w.H p o b = _; rw [upd_ne (ne_of_none h hp)]; exact h, fun b o' u h => by show upd w.H p o b = _; rw [upd_ne (ne_of_none h hp)]; exact h,
    fun b xs _ h => by show upd w.H p o b = _; rw [upd_ne (ne_of_none h hp)]; exact h, fun b h => h, ⟨[], by simp [Wd.new]⟩⟩, fun b h1 h2 h3 => ⟨upd_ne (fun z => h3 (z ▸ hp)), h1, h2⟩⟩
theorem Ext.newF (hp : w.H p = none) : Ext w (w.newF p o) :=
  ⟨⟨fun b xs h => by show upd w.H p o b = _; rw [upd_ne (ne_of_none h hp)]; exact h, fun b o' u h => by show upd w.H p o b = _; rw [upd_ne (ne_of_none h hp)]; exact h,
    fun b xs _ h => by show upd w.H p o b = _; rw [upd_ne (ne_of_none h hp)]; exact h, fun b h => .inl h, ⟨[], by simp [Wd.newF]⟩⟩, fun b h1 h2 h3 => ⟨upd_ne (fun z => h3 (z ▸ hp)), fun f => f.elim h1 (fun z => h3 (z ▸ hp)), h2⟩⟩
theorem Ext.newM (hp : w.H p = none) : Ext w (w.newM p o) :=
  ⟨⟨fun b xs h => by show upd w.H p o b = _; rw [upd_ne (ne_of_none h hp)]; exact h, fun b o' u h => by show upd w.H p o b = _; rw [upd_ne (ne_of_none h hp)]; exact h,
    fun b xs _ h => by show upd w.H p o b = _; rw [upd_ne (ne_of_none h hp)]; exact h, fun b h => h, ⟨[p], rfl⟩⟩, fun b h1 h2 h3 => ⟨upd_ne (fun z => h3 (z ▸ hp)), h1, fun m => by
      have m : b ∈ w.r ++ [p] := m
      rcases List.mem_append.mp m with m | m
      · exact h2 m
      · simp at m; subst m; exact h3 hp⟩⟩
theorem KVs.wk {w' : Wd} (x : Wk w w') : ∀ (kvs : List (List Nat × D)) (ks : List (Key × V)), KVs K w kvs ks → KVs K w' kvs ks
  | [], _, h => h
  | (s, d) :: r, ks, h => by
    obtain ⟨v, r', e, h1, h2⟩ := h
    exact ⟨v, r', e, RD.wk x d v h1, KVs.wk x r r' h2⟩
theorem KTs.wk {w' : Wd} (x : Wk w w') : ∀ (kvs : List (List (List Nat) × D)) (ks : List (List Key × V)), KTs K w kvs ks → KTs K w' kvs ks
  | [], _, h => h
  | (s, d) :: r, ks, h => by
    obtain ⟨v, r', e, h1, h2⟩ := h
    exact ⟨v, r', e, RD.wk x d v h1, KTs.wk x r r' h2⟩
theorem KVs.ext {w' : Wd} (x : Ext w w') (kvs : List (List Nat × D)) (ks : List (Key × V)) (h : KVs K w kvs ks) : KVs K w' kvs ks := KVs.wk x.toWk kvs ks h
theorem KTs.ext {w' : Wd} (x : Ext w w') (kvs : List (List (List Nat) × D)) (ks : List (List Key × V)) (h : KTs K w kvs ks) : KTs K w' kvs ks := KTs.wk x.toWk kvs ks h
theorem MOk.wk {w' : Wd} {a : Addr} {m : MO} (h : MOk K w a m) (x : Wk w w') (e : w'.H a = w.H a) : MOk K w' a m := by
  cases m with
  | lst xs => obtain ⟨vs, h1, h2, h3⟩ := h; exact ⟨vs, by rw [e]; exact h1, h2, RDs.wk x xs vs h3⟩
  | dct xs => obtain ⟨vs, h1, h2, h3⟩ := h; exact ⟨vs, by rw [e]; exact h1, h2, KVs.wk x xs vs h3⟩
  | dtt xs => obtain ⟨vs, h1, h2, h3⟩ := h; exact ⟨vs, by rw [e]; exact h1, h2, KTs.wk x xs vs h3⟩
theorem MOk.ext {w' : Wd} {a : Addr} {m : MO} (h : MOk K w a m) (x : Ext w w') (e : w'.H a = w.H a) : MOk K w' a m := h.wk x.toWk e
/-- an object that nobody knows is another one -/
theorem Wk.side (hF : ¬ w.F p) {xs : List V} (hp : w.H p = some (.lst xs)) : Wk w (w.put p o) := by
  refine ⟨fun b xs q => ?_, fun b ob u q => ?_, fun b xs f q => ?_, fun b f => f, ⟨[], by simp [Wd.put]⟩⟩
  · show upd w.H p o b = _
    have hb : b ≠ p := fun z => by rw [z, hp] at q; cases q
    rw [upd_ne hb]; exact q
  · show upd w.H p o b = _
    have hb : b ≠ p := fun z => by rw [z, hp] at q; cases q
    rw [upd_ne hb]; exact q
  · show upd w.H p o b = _
    have hb : b ≠ p := fun z => hF (z ▸ f)
    rw [upd_ne hb]; exact q
theorem RS.side (h : RS K w S) (hF : ¬ w.F p) (hr : p ∉ w.r) {xs : List V} (hp : w.H p = some (.lst xs)) : RS K (w.put p o) S :=
  ⟨h.len, h.nd, h.apart, fun a f => by
    show upd w.H p o a ≠ none
    unfold upd; split
    · simp
    · exact h.live a f, fun n a m e1 e2 => (h.obj n a m e1 e2).wk (Wk.side hF hp) (upd_ne fun z => hr (z ▸ List.mem_of_getElem? e1))⟩
theorem RS.upd_at (h : RS K w S) {n : Nat} {a : Addr} (e : w.r[n]? = some a) (hp : w.H p = none) : upd w.H p o a = w.H a :=
  upd_ne fun z => h.notIn hp (z ▸ List.mem_of_getElem? e)
theorem RS.new (h : RS K w S) (hp : w.H p = none) : RS K (w.new p o) S :=
  ⟨h.len, h.nd, h.apart, fun a f => by
    show upd w.H p o a ≠ none
    unfold upd; split
    · simp
    · exact h.live a f, fun n a m e1 e2 => (h.obj n a m e1 e2).ext (Ext.new hp) (h.upd_at e1 hp)⟩
theorem RS.newF (h : RS K w S) (hp : w.H p = none) : RS K (w.newF p o) S :=
  ⟨h.len, h.nd, fun a ha f => by
    rcases f with f | f
    · exact h.apart a ha f
    · exact h.notIn hp (f ▸ ha), fun a f => by
    show upd w.H p o a ≠ none
    unfold upd; split
    · simp
    · rename_i hne
      rcases f with f | f
      · exact h.live a f
      · exact absurd f hne, fun n a m e1 e2 => (h.obj n a m e1 e2).ext (Ext.newF hp) (h.upd_at e1 hp)⟩
theorem RS.newM (h : RS K w S) (hp : w.H p = none) {m : MO} (hm : MOk K (w.newM p o) p m) : RS K (w.newM p o) (S ++ [m]) := by
  refine ⟨by simp [Wd.newM, h.len], ?_, fun a ha f => ?_, fun a f => ?_, fun n a m' e1 e2 => ?_⟩
  · show (w.r ++ [p]).Nodup
    rw [List.nodup_append]
    exact ⟨h.nd, by simp, fun a ha b hb e => by simp at hb; subst hb; subst e; exact h.notIn hp ha⟩
  · have ha : a ∈ w.r ++ [p] := ha
    rcases List.mem_append.mp ha with ha | ha
    · exact h.apart a ha f
    · simp at ha; subst ha; exact h.notF hp f
  · show upd w.H p o a ≠ none
    unfold upd; split
    · simp
    · exact h.live a f
  · have e1 : (w.r ++ [p])[n]? = some a := e1
    by_cases hn : n < w.r.length
    · rw [List.getElem?_append_left hn] at e1
      rw [List.getElem?_append_left (by rw [← h.len]; exact hn)] at e2
      exact (h.obj n a m' e1 e2).ext (Ext.newM hp) (h.upd_at e1 hp)
    · rw [List.getElem?_append_right (by omega)] at e1
      rw [List.getElem?_append_right (by rw [← h.len]; omega)] at e2
      rw [h.len] at e1
      cases q : n - S.length with
      | zero =>
        rw [q] at e1 e2; simp at e1 e2; subst e1; subst e2; exact hm
      | succ j => rw [q] at e1; simp at e1
/-- the store's object at n is another one -/
theorem Ext.put (h : RS K w S) {n : Nat} (e : w.r[n]? = some p) : Ext w (w.put p o) := by
  obtain ⟨m, hs, hm⟩ := h.loc e
  have nt : ∀ xs, w.H p ≠ some (.tup xs) := fun xs z => by cases m <;> (obtain ⟨_, q, _⟩ := hm; rw [q] at z; cases z)
  have nf : ∀ ob u, w.H p ≠ some (.frz ob u) := fun ob u z => by cases m <;> (obtain ⟨_, q, _⟩ := hm; rw [q] at z; cases z)
  refine ⟨⟨fun b xs q => ?_, fun b ob u q => ?_, fun b xs f q => ?_, fun b f => f, ⟨[], by simp [Wd.put]⟩⟩, fun b h1 h2 h3 => ⟨upd_ne (fun z => h2 (z ▸ List.mem_of_getElem? e)), h1, h2⟩⟩
  · show upd w.H p o b = _
    have hb : b ≠ p := fun z => nt xs (by rw [← z]; exact q)
    rw [upd_ne hb]; exact q
  · show upd w.H p o b = _
    have hb : b ≠ p := fun z => nf ob u (by rw [← z]; exact q)
    rw [upd_ne hb]; exact q
  · show upd w.H p o b = _
    have hb : b ≠ p := fun z => h.apart p (List.mem_of_getElem? e) (by rw [← z]; exact f)
    rw [upd_ne hb]; exact q
theorem RS.put (h : RS K w S) {n : Nat} (e : w.r[n]? = some p) {m : MO} (hm : MOk K (w.put p o) p m) : RS K (w.put p o) (S.set n m) := by
  refine ⟨by simp [Wd.put, h.len], h.nd, h.apart, fun a f => ?_, fun j a m' e1 e2 => ?_⟩
  · show upd w.H p o a ≠ none
    unfold upd; split
    · simp
    · exact h.live a f
  · have e1 : w.r[j]? = some a := e1
    by_cases hj : j = n
    · subst hj
      rw [e] at e1; cases e1
      have hl : j < S.length := by rw [← h.len]; exact (List.getElem?_eq_some_iff.mp e).1
      rw [List.getElem?_set_self hl] at e2; cases e2
      exact hm
    · rw [List.getElem?_set_ne (Ne.symm hj)] at e2
      refine (h.obj j a m' e1 e2).ext (Ext.put h e) (upd_ne fun z => hj ?_)
      subst z
      obtain ⟨h1, q1⟩ := List.getElem?_eq_some_iff.mp e
      obtain ⟨h2, q2⟩ := List.getElem?_eq_some_iff.mp e1
      exact ((List.getElem_inj h.nd).mp (q2.trans q1.symm))
end

/-- seen as a list, a tuple, .. (a list of the store as well) -/
def RV (K : PySem.W.Frag) (w : Wd) : D → V → Prop
  | .lst xs, v => ∃ a vs, v = .ref a ∧ w.H a = some (.lst vs) ∧ xs.length ≤ szL ∧ RDs K w xs vs
  | d, v => RD K w d v
theorem RD.rv {K : PySem.W.Frag} {w : Wd} {d : D} {v : V} (h : RD K w d v) : RV K w d v := by
  cases d with
  | lst xs =>
    simp only [RD] at h
    obtain ⟨a, vs, e, h1, h2, h3⟩ := h
    exact ⟨a, vs, e, h1.2, h2, h3⟩
  | _ => exact h
theorem RV.of {K : PySem.W.Frag} {w : Wd} {S : Sto} {d : D} {v : V} (hs : RS K w S) (h : RD K w d v) : RV K w (rs S d) v := by
  cases d with
  | loc n =>
    simp only [RD] at h
    obtain ⟨a, rfl, e⟩ := h
    obtain ⟨m, e1, e2⟩ := hs.loc e
    simp only [rs, e1]
    cases m with
    | lst xs =>
      obtain ⟨vs, h1, h2, h3⟩ := e2
      exact ⟨a, vs, rfl, h1, h2, h3⟩
    | dct xs => simp only [RV, RD]; exact ⟨a, rfl, e⟩
    | dtt xs => simp only [RV, RD]; exact ⟨a, rfl, e⟩
  | _ => exact h.rv
end Eng

/-! Eng3 -/
set_option Elab.async false
set_option linter.all false
set_option maxRecDepth 100000
set_option maxHeartbeats 4000000
/-! What is wanted behind a reckoning; the operations. -/
namespace Eng
open PySem PySem.Spec PyProof.Rows L2

/-- behind a reckoning: the value with its heap, or the exception -/
def Aft {a b : Type} (kx : Nat → Value) (K : PySem.W.Frag) (W : WX) (σ : L2.St) (R : Wd → a → b → Prop) (w : Wd) (r : Res a) (Q : b → Hp → Prop) : Prop := match r with
  | .ok d S' => ∀ v w', Ext w w' → RS K w' S' → R w' d v → Q v w'.H
  | .exc c S' => ∀ w', Ext w w' → RS K w' S' → W (kx c) none σ w'.H
  | .no => False

section
variable {kx : Nat → Value} {K : PySem.W.Frag} {W : WX} {σ : L2.St} {w w' : Wd} {S : Sto}

theorem Aft.mono {a b : Type} {R : Wd → a → b → Prop} {r : Res a} {Q : b → Hp → Prop} (h : Aft kx K W σ R w r Q) (x : Ext w w') : Aft kx K W σ R w' r Q := by
  cases r with
  | ok d S' => exact fun v w2 x2 => h v w2 (x.trans x2)
  | exc c S' => exact fun w2 x2 => h w2 (x.trans x2)
  | no => exact h
theorem Aft.bind {a b a' b' : Type} {R : Wd → a → b → Prop} {R' : Wd → a' → b' → Prop} {r : Res a} {f : a → Sto → Res a'} {Q : b' → Hp → Prop} {Q1 : b → Hp → Prop} (h : Aft kx K W σ R' w (r.bind f) Q)
    (h1 : ∀ d S1 v w1, r = .ok d S1 → Ext w w1 → RS K w1 S1 → R w1 d v → Aft kx K W σ R' w1 (f d S1) Q → Q1 v w1.H) : Aft kx K W σ R w r Q1 := by
  cases r with
  | ok d S' => exact fun v w1 x rs rd => h1 d S' v w1 rfl x rs rd (Aft.mono (r := f d S') h x)
  | exc c S' => exact h
  | no => exact h
theorem Aft.imp {a b : Type} {R : Wd → a → b → Prop} {r : Res a} {Q Q' : b → Hp → Prop} (h : Aft kx K W σ R w r Q) (hq : ∀ v H, Q v H → Q' v H) : Aft kx K W σ R w r Q' := by
  cases r with
  | ok d S' => exact fun v w1 x rs rd => hq _ _ (h v w1 x rs rd)
  | exc c S' => exact h
  | no => exact h
theorem Aft.gd {a b : Type} {R : Wd → a → b → Prop} {c : Prop} [Decidable c] {x : a} {Q : b → Hp → Prop} (h : Aft kx K W σ R w (gd c x S) Q) : c ∧ Aft kx K W σ R w (.ok x S) Q := by
  unfold Eng.gd at h
  split at h
  · exact ⟨by assumption, h⟩
  · exact h.elim
theorem Aft.ofO {a b : Type} {R : Wd → a → b → Prop} {o : Option a} {Q : b → Hp → Prop} (h : Aft kx K W σ R w (ofO o S) Q) : ∃ x, o = some x ∧ Aft kx K W σ R w (.ok x S) Q := by
  cases o with
  | none => exact h.elim
  | some x => exact ⟨x, rfl, h⟩

variable {Q : VK}
theorem Aft.val {d : D} {v : V} (h : Aft kx K W σ (RD K) w (.ok d S) Q) (hs : RS K w S) (hd : RD K w d v) : Q v w.H := h v w (Ext.refl w) hs hd
theorem Aft.bl {b : Bool} (h : Aft kx K W σ (RD K) w (.ok (.bl b) S) Q) (hs : RS K w S) : Q (.bl b) w.H := h.val hs (by simp only [RD])
theorem Aft.int {b : Int} (h : Aft kx K W σ (RD K) w (.ok (.int b) S) Q) (hs : RS K w S) : Q (.int b) w.H := h.val hs (by simp only [RD])
theorem Aft.non (h : Aft kx K W σ (RD K) w (.ok .non S) Q) (hs : RS K w S) : Q .non w.H := h.val hs (by simp only [RD])
theorem Aft.str {s : List Nat} (h : Aft kx K W σ (RD K) w (.ok (.str s) S) Q) (hs : RS K w S) (ok : okS s) : Q (.str (sv s)) w.H := h.val hs (by simp only [RD, true_and]; exact ok)
theorem Aft.tup {xs : List D} {vs : List V} (h : Aft kx K W σ (RD K) w (.ok (.tup xs) S) Q) (hs : RS K w S) (hl : xs.length ≤ szL) (hr : RDs K w xs vs) : ∀ p, w.H p = none → Q (.ref p) (upd w.H p (.tup vs)) := fun p hp =>
  h (.ref p) (w.new p (.tup vs)) (Ext.new hp) (hs.new hp) (by simp only [RD]; exact ⟨p, vs, rfl, upd_same, hl, RDs.ext (Ext.new hp) _ _ hr⟩)
theorem Aft.lst {xs : List D} {vs : List V} (h : Aft kx K W σ (RD K) w (.ok (.lst xs) S) Q) (hs : RS K w S) (hl : xs.length ≤ szL) (hr : RDs K w xs vs) : ∀ p, w.H p = none → Q (.ref p) (upd w.H p (.lst vs)) := fun p hp =>
  h (.ref p) (w.newF p (.lst vs)) (Ext.newF hp) (hs.newF hp) (by simp only [RD]; exact ⟨p, vs, rfl, ⟨.inr rfl, upd_same⟩, hl, RDs.ext (Ext.newF hp) _ _ hr⟩)

/-! ### the kinds of values -/
theorem RV.tupI {xs : List D} {v : V} (h : RV K w (.tup xs) v) : ∃ a vs, v = .ref a ∧ w.H a = some (.tup vs) ∧ xs.length ≤ szL ∧ RDs K w xs vs := by simpa only [RV, RD] using h
theorem RV.lstI {xs : List D} {v : V} (h : RV K w (.lst xs) v) : ∃ a vs, v = .ref a ∧ w.H a = some (.lst vs) ∧ xs.length ≤ szL ∧ RDs K w xs vs := h
theorem RV.strI {s : List Nat} {v : V} (h : RV K w (.str s) v) : v = .str (sv s) ∧ okS s := by simpa only [RV, RD] using h
theorem RV.intI {i : Int} {v : V} (h : RV K w (.int i) v) : v = .int i := by simpa only [RV, RD] using h
theorem RV.blI {i : Bool} {v : V} (h : RV K w (.bl i) v) : v = .bl i := by simpa only [RV, RD] using h
theorem RV.nonI {v : V} (h : RV K w .non v) : v = .non := by simpa only [RV, RD] using h
theorem RV.locI {n : Nat} {v : V} (h : RV K w (.loc n) v) : ∃ a, v = .ref a ∧ w.r[n]? = some a := by simpa only [RV, RD] using h
theorem RV.scrI {ns : List Int} {v : V} (h : RV K w (.scr ns) v) : ∃ a, v = .ref a ∧ ScA K w a (ns.map V.int) := by simpa only [RV, RD] using h
theorem RD.strI {s : List Nat} {v : V} (h : RD K w (.str s) v) : v = .str (sv s) ∧ okS s := by simpa only [RD] using h
theorem RD.intI {i : Int} {v : V} (h : RD K w (.int i) v) : v = .int i := by simpa only [RD] using h
theorem RD.blI {i : Bool} {v : V} (h : RD K w (.bl i) v) : v = .bl i := by simpa only [RD] using h
theorem RD.nonI {v : V} (h : RD K w .non v) : v = .non := by simpa only [RD] using h
theorem RD.tupI {xs : List D} {v : V} (h : RD K w (.tup xs) v) : ∃ a vs, v = .ref a ∧ w.H a = some (.tup vs) ∧ xs.length ≤ szL ∧ RDs K w xs vs := by simpa only [RD] using h
theorem RD.lstI {xs : List D} {v : V} (h : RD K w (.lst xs) v) : ∃ a vs, v = .ref a ∧ LsA w a vs ∧ xs.length ≤ szL ∧ RDs K w xs vs := by simpa only [RD] using h
theorem RD.locI {n : Nat} {v : V} (h : RD K w (.loc n) v) : ∃ a, v = .ref a ∧ w.r[n]? = some a := by simpa only [RD] using h
theorem RV.rd_tup {xs : List D} {v : V} (h : RV K w (.tup xs) v) : RD K w (.tup xs) v := h

theorem sv_len (s : List Nat) : (sv s).length = s.length := by simp [sv, Str.length]
theorem sv_cps (s : List Nat) : (sv s).cps.toList = s := by simp [sv]
theorem sv_app (a b : List Nat) : sv a ++ sv b = sv (a ++ b) := by
  show (⟨a.toArray ++ b.toArray⟩ : Str) = ⟨(a ++ b).toArray⟩
  simp
theorem okS.len {s : List Nat} (h : okS s) : (sv s).length ≤ sizeLine := by rw [sv_len, ← szL_eq]; exact h.1
theorem okS.app {a b : List Nat} (ha : okS a) (hb : okS b) (h : a.length + b.length ≤ szL) : okS (a ++ b) := ⟨by simpa using h, by rw [List.all_append, ha.2, hb.2] <;> rfl⟩
theorem okS.sub {a b : List Nat} (ha : okS a) (h : b.Sublist a) : okS b := ⟨Nat.le_trans h.length_le ha.1, by
  rw [List.all_eq_true] at *
  have := ha.2
  rw [List.all_eq_true] at this
  exact fun x hx => this x (h.subset hx)⟩
theorem sv_inj {a b : List Nat} : sv a = sv b ↔ a = b := by
  constructor
  · intro h
    have := congrArg (fun x : Str => x.cps.toList) h
    simpa [sv] using this
  · intro h; rw [h]
theorem okS.one {s : List Nat} {c : Nat} (h : okS s) (hc : c ∈ s) : okS [c] := h.sub (List.singleton_sublist.mpr hc)

/-! ### + -/
def rAddD (K : PySem.W.Frag) : R2 := fun x y H Q => rI0 (fun i j => .int (i + j)) x y H Q ∨ (∃ i j, x = .str i ∧ y = .str j ∧ i.length + j.length ≤ sizeLine ∧ Q (.str (i ++ j)) H) ∨ rCatA K x y H Q ∨ rCat x y H Q
theorem op_addD {X : Cx} : OpR X (binaryOp .Add) (rAddD X.K) := op_add.or (op_add_str.or (op_catA.or op_cat))
theorem px_add {a b : D} {va vb : V} (hs : RS K w S) (ha : RD K w a va) (hb : RD K w b vb) (h : Aft kx K W σ (RD K) w (pr .add [a, b] S) Q) : rAddD K va vb w.H Q := by
  have ra := RV.of hs ha
  have rb := RV.of hs hb
  simp only [pr] at h
  generalize rs S a = a' at ra h
  generalize rs S b = b' at rb h
  cases a' with
  | int i =>
    cases b' with
    | int j =>
      obtain rfl := ra.intI
      obtain rfl := rb.intI
      exact .inl ⟨i, j, rfl, rfl, h.int hs⟩
    | _ => exact h.elim
  | str x =>
    cases b' with
    | str y =>
      obtain ⟨rfl, ox⟩ := ra.strI
      obtain ⟨rfl, oy⟩ := rb.strI
      obtain ⟨hl, h⟩ := h.gd
      refine .inr (.inl ⟨_, _, rfl, rfl, by rw [sv_len, sv_len, ← szL_eq]; exact hl, ?_⟩)
      rw [sv_app]
      exact h.str hs (ox.app oy hl)
    | _ => exact h.elim
  | tup x =>
    cases b' with
    | tup y =>
      obtain ⟨p, vs, rfl, h1, h2, h3⟩ := ra.tupI
      obtain ⟨q, us, rfl, g1, g2, g3⟩ := rb.tupI
      obtain ⟨hl, h⟩ := h.gd
      have l1 := h3.length
      have l2 := g3.length
      refine .inr (.inr (.inl ⟨p, q, vs, us, rfl, rfl, SqT.of h1, SqT.of g1, by rw [l1, l2, ← szL_eq]; exact hl, fun e => ?_, fun _ e => ?_, fun _ _ => ?_⟩))
      · subst e
        have : x = [] := List.eq_nil_of_length_eq_zero l1.symm
        subst this
        exact h.val hs rb
      · subst e
        have : y = [] := List.eq_nil_of_length_eq_zero l2.symm
        subst this
        rw [List.append_nil] at h
        exact h.val hs ra
      · exact h.tup hs (by simpa using hl) (h3.append g3)
    | _ => exact h.elim
  | lst x =>
    cases b' with
    | lst y =>
      obtain ⟨p, vs, rfl, h1, h2, h3⟩ := ra.lstI
      obtain ⟨q, us, rfl, g1, g2, g3⟩ := rb.lstI
      obtain ⟨hl, h⟩ := h.gd
      have l1 := h3.length
      have l2 := g3.length
      exact .inr (.inr (.inr ⟨p, q, vs, us, rfl, rfl, h1, g1, by rw [l1, l2, ← szL_eq]; exact hl, h.lst hs (by simpa using hl) (h3.append g3)⟩))
    | _ => exact h.elim
  | _ => cases b' <;> exact h.elim

/-! ### - % // unary - -/
theorem px_sub {a b : D} {va vb : V} (hs : RS K w S) (ha : RD K w a va) (hb : RD K w b vb) (h : Aft kx K W σ (RD K) w (pr .sub [a, b] S) Q) : rI0 (fun i j => .int (i - j)) va vb w.H Q := by
  cases a with
  | int i =>
    cases b with
    | int j =>
      obtain rfl := ha.intI
      obtain rfl := hb.intI
      simp only [pr] at h
      exact ⟨i, j, rfl, rfl, h.int hs⟩
    | _ => exact h.elim
  | _ => cases b <;> exact h.elim
theorem px_mod {a b : D} {va vb : V} (hs : RS K w S) (ha : RD K w a va) (hb : RD K w b vb) (h : Aft kx K W σ (RD K) w (pr .mod [a, b] S) Q) : rI (fun _ j => 0 < j) (fun i j => .int (i % j)) va vb w.H Q := by
  cases a with
  | int i =>
    cases b with
    | int j =>
      obtain rfl := ha.intI
      obtain rfl := hb.intI
      simp only [pr] at h
      obtain ⟨hc, h⟩ := h.gd
      exact ⟨i, j, rfl, rfl, hc, h.int hs⟩
    | _ => exact h.elim
  | _ => cases b <;> exact h.elim
theorem px_fdiv {a b : D} {va vb : V} (hs : RS K w S) (ha : RD K w a va) (hb : RD K w b vb) (h : Aft kx K W σ (RD K) w (pr .fdiv [a, b] S) Q) : rI CDiv (fun i j => .int (i / j)) va vb w.H Q := by
  cases a with
  | int i =>
    cases b with
    | int j =>
      obtain rfl := ha.intI
      obtain rfl := hb.intI
      simp only [pr] at h
      obtain ⟨hc, h⟩ := h.gd
      exact ⟨i, j, rfl, rfl, hc, h.int hs⟩
    | _ => exact h.elim
  | _ => cases b <;> exact h.elim
theorem px_neg {a : D} {va : V} (hs : RS K w S) (ha : RD K w a va) (h : Aft kx K W σ (RD K) w (pr .neg [a] S) Q) : rU (fun i => .int (-i)) va w.H Q := by
  cases a with
  | int i =>
    obtain rfl := ha.intI
    simp only [pr] at h
    exact ⟨i, rfl, h.int hs⟩
  | _ => exact h.elim

/-! ### * -/
theorem rep_arr (x : Str) (m : Nat) : (List.replicate m x.cps).foldl (fun a b => a ++ b) #[] = ((List.replicate m x.cps.toList).flatten).toArray := by
  have h : ∀ (m : Nat) (acc : Array Nat), (List.replicate m x.cps).foldl (fun a b => a ++ b) acc = acc ++ ((List.replicate m x.cps.toList).flatten).toArray := by
    intro m
    induction m with
    | zero => intro acc; simp
    | succ m ih =>
      intro acc
      rw [List.replicate_succ, List.foldl_cons, ih, List.replicate_succ, List.flatten_cons]
      apply Array.ext'
      simp
  rw [h m #[]]; simp
def rMulS : R2 := fun x y H Q => ∃ i j, x = .str i ∧ y = .int j ∧ 2 ≤ j ∧ j ≤ 1000 ∧ i.length ≤ 1000 ∧ Q (.str ⟨((List.replicate j.toNat i.cps.toList).flatten).toArray⟩) H
theorem op_mulS {X : Cx} : OpR X (binaryOp .Mult) rMulS := by
  intro pins s σ H x y v u Q I rx ry h
  obtain ⟨i, j, rfl, rfl, h1, h2, h3, q⟩ := h
  obtain ⟨t, rfl⟩ := rx
  obtain ⟨t', rfl⟩ := ry
  refine SB.mul (mulOk_of 1000 1000 h3 (by omega) (by omega) (by decide) (by decide)) fun t2 k => ⟨.str _, H, I.tok _, ⟨_, rfl⟩, ?_⟩
  unfold Txt.mul
  rw [if_neg (by omega)]
  by_cases h0 : i.length = 0
  · rw [if_pos (by simp [h0])]
    have e : i.cps.toList = [] := by
      have : i.cps.size = 0 := h0
      simpa using this
    rw [e] at q
    have e2 : i = ⟨#[]⟩ := by
      obtain ⟨c⟩ := i
      simp at e
      rw [e]
    rw [e2]
    simpa using q
  · rw [if_neg (by simp [h0]; omega), rep_arr]
    exact q
def rMulD (K : PySem.W.Frag) : R2 := fun x y H Q => rI CMul (fun i j => .int (i * j)) x y H Q ∨ rRep x y H Q ∨ rRepT K x y H Q ∨ rMulS x y H Q
theorem op_mulD {X : Cx} : OpR X (binaryOp .Mult) (rMulD X.K) := op_mul.or (op_rep.or (op_repT.or op_mulS))
theorem okS.rep {s : List Nat} (h : okS s) {k : Nat} (hl : k * s.length ≤ szL) : okS (List.replicate k s).flatten := by
  refine ⟨by simpa using hl, ?_⟩
  rw [List.all_eq_true]
  intro c hc
  have := h.2
  rw [List.all_eq_true] at this
  obtain ⟨l, hl, hc⟩ := List.mem_flatten.mp hc
  rw [List.eq_of_mem_replicate hl] at hc
  exact this c hc
theorem px_mul {a b : D} {va vb : V} (hs : RS K w S) (ha : RD K w a va) (hb : RD K w b vb) (h : Aft kx K W σ (RD K) w (pr .mul [a, b] S) Q) : rMulD K va vb w.H Q := by
  have ra := RV.of hs ha
  have rb := RV.of hs hb
  simp only [pr] at h
  generalize rs S a = a' at ra h
  generalize rs S b = b' at rb h
  cases b' with
  | int j =>
    obtain rfl := rb.intI
    cases a' with
    | int i =>
      obtain rfl := ra.intI
      obtain ⟨hc, h⟩ := h.gd
      exact .inl ⟨i, j, rfl, rfl, hc, h.int hs⟩
    | str x =>
      obtain ⟨rfl, ox⟩ := ra.strI
      obtain ⟨hc, h⟩ := h.gd
      refine .inr (.inr (.inr ⟨_, j, rfl, rfl, hc.1, hc.2.1, by rw [sv_len]; exact hc.2.2, ?_⟩))
      rw [sv_cps]
      refine h.str hs (ox.rep ?_)
      have : j.toNat * x.length ≤ 1000 * 1000 := Nat.mul_le_mul (by omega) hc.2.2
      unfold szL; omega
    | tup x =>
      obtain ⟨p, vs, rfl, h1, h2, h3⟩ := ra.tupI
      obtain ⟨hc, h⟩ := h.gd
      have l1 := h3.length
      refine .inr (.inr (.inl ⟨p, j, vs, rfl, rfl, SqT.of h1, fun e => hc.1 ?_, hc.2.1, hc.2.2.1, by rw [l1]; exact hc.2.2.2, h.tup hs ?_ (h3.rep _)⟩))
      · subst e
        exact List.eq_nil_of_length_eq_zero l1.symm
      · have : j.toNat * x.length ≤ 1000 * 1000 := Nat.mul_le_mul (by omega) hc.2.2.2
        rw [PyProof.Rows.lm_len_rep_flat]
        unfold szL; omega
    | lst x =>
      obtain ⟨p, vs, rfl, h1, h2, h3⟩ := ra.lstI
      obtain ⟨hc, h⟩ := h.gd
      have l1 := h3.length
      have hm : j.toNat * x.length ≤ 1000 * 1000 := Nat.mul_le_mul (by omega) hc.2.2
      refine .inr (.inl ⟨p, j, vs, rfl, rfl, h1, by omega, by omega, ?_, h.lst hs ?_ (h3.rep _)⟩)
      · rw [l1, Nat.mul_comm, sizeLine_eq]; omega
      · rw [PyProof.Rows.lm_len_rep_flat]
        unfold szL; omega
    | _ => exact h.elim
  | _ => cases a' <;> exact h.elim

/-! ### == != -/
mutual
def D.toP : D → PyData
  | .non => .none
  | .bl b => .bool b
  | .int i => .int i
  | .str s => .str (sv s)
  | .tup xs => .tuple (D.toPs xs)
  | .lst xs => .list (D.toPs xs)
  | .loc _ => .none
  | .scr _ => .none
def D.toPs : List D → List PyData
  | [] => []
  | x :: xs => x.toP :: D.toPs xs
end
mutual
theorem toP_depth : ∀ d : D, d.dp ≤ dpL → d.toP.depth = d.dp
  | .non, _ => by simp only [D.toP, D.dp, PyData.depth]
  | .bl _, _ => by simp only [D.toP, D.dp, PyData.depth]
  | .int _, _ => by simp only [D.toP, D.dp, PyData.depth]
  | .str _, _ => by simp only [D.toP, D.dp, PyData.depth]
  | .tup xs, h => by
    simp only [D.dp] at h
    simp only [D.toP, D.dp, PyData.depth, toPs_depth xs (by omega)]
  | .lst xs, h => by
    simp only [D.dp] at h
    simp only [D.toP, D.dp, PyData.depth, toPs_depth xs (by omega)]
  | .loc _, h => by simp only [D.dp, dpL] at h; omega
  | .scr _, h => by simp only [D.dp, dpL] at h; omega
theorem toPs_depth : ∀ ds : List D, D.dps ds ≤ dpL → PyData.depthAll (D.toPs ds) = D.dps ds
  | [], _ => by simp only [D.toPs, D.dps, PyData.depthAll]
  | x :: xs, h => by
    simp only [D.dps] at h
    simp only [D.toPs, D.dps, PyData.depthAll, toP_depth x (by omega), toPs_depth xs (by omega)]
end
mutual
theorem toP_eqv : ∀ d e : D, d.dp ≤ dpL → e.dp ≤ dpL → PyData.eqv d.toP e.toP = d.eqv e
  | .non, e, _, he => by cases e <;> first | (simp only [D.toP, PyData.eqv, D.eqv]; done) | (simp only [D.dp, dpL] at he; omega)
  | .bl _, e, _, he => by cases e <;> first | (simp only [D.toP, PyData.eqv, D.eqv]; done) | (simp only [D.dp, dpL] at he; omega)
  | .int _, e, _, he => by cases e <;> first | (simp only [D.toP, PyData.eqv, D.eqv]; done) | (simp only [D.dp, dpL] at he; omega)
  | .str a, e, _, he => by
    cases e with
    | str b =>
      simp only [D.toP, PyData.eqv, D.eqv]
      rw [Bool.eq_iff_iff]
      simp [sv_inj]
    | _ => first | (simp only [D.toP, PyData.eqv, D.eqv]; done) | (simp only [D.dp, dpL] at he; omega)
  | .tup xs, e, hd, he => by
    cases e with
    | tup ys =>
      simp only [D.dp] at hd he
      simp only [D.toP, PyData.eqv, D.eqv, toPs_eqv xs ys (by omega) (by omega)]
    | _ => first | (simp only [D.toP, PyData.eqv, D.eqv]; done) | (simp only [D.dp, dpL] at he; omega)
  | .lst xs, e, hd, he => by
    cases e with
    | lst ys =>
      simp only [D.dp] at hd he
      simp only [D.toP, PyData.eqv, D.eqv, toPs_eqv xs ys (by omega) (by omega)]
    | _ => first | (simp only [D.toP, PyData.eqv, D.eqv]; done) | (simp only [D.dp, dpL] at he; omega)
  | .loc _, _, h, _ => by simp only [D.dp, dpL] at h; omega
  | .scr _, _, h, _ => by simp only [D.dp, dpL] at h; omega
theorem toPs_eqv : ∀ ds es : List D, D.dps ds ≤ dpL → D.dps es ≤ dpL → PyData.eqvAll (D.toPs ds) (D.toPs es) = D.eqvs ds es
  | [], [], _, _ => by simp only [D.toPs, PyData.eqvAll, D.eqvs]
  | [], _ :: _, _, _ => by simp only [D.toPs, PyData.eqvAll, D.eqvs]
  | _ :: _, [], _, _ => by simp only [D.toPs, PyData.eqvAll, D.eqvs]
  | x :: xs, y :: ys, h, h' => by
    simp only [D.dps] at h h'
    simp only [D.toPs, PyData.eqvAll, D.eqvs, toP_eqv x y (by omega) (by omega), toPs_eqv xs ys (by omega) (by omega)]
end
mutual
theorem RD.dp : ∀ (d : D) (v : V), d.dp ≤ dpL → RD K w d v → Dp K w.H v d.toP ∧ d.toP.canLay0 = true
  | .non, v, _, h => by obtain rfl := h.nonI; simp only [D.toP, PyData.canLay0]; exact ⟨.non, trivial⟩
  | .bl _, v, _, h => by obtain rfl := h.blI; simp only [D.toP, PyData.canLay0]; exact ⟨.bl _, trivial⟩
  | .int _, v, _, h => by obtain rfl := h.intI; simp only [D.toP, PyData.canLay0]; exact ⟨.int _, trivial⟩
  | .str s, v, _, h => by
    obtain ⟨rfl, ok⟩ := h.strI
    simp only [D.toP, PyData.canLay0]
    refine ⟨.str _, ?_⟩
    have := ok.2
    unfold PyData.strOk sv
    simpa using this
  | .tup xs, v, hd, h => by
    simp only [D.dp] at hd
    obtain ⟨a, vs, rfl, h1, h2, h3⟩ := h.tupI
    obtain ⟨q1, q2⟩ := RDs.dp xs vs (by omega) h3
    simp only [D.toP, PyData.canLay0]
    exact ⟨.tup (SqT.of h1) q1, q2⟩
  | .lst xs, v, hd, h => by
    simp only [D.dp] at hd
    obtain ⟨a, vs, rfl, h1, h2, h3⟩ := h.lstI
    obtain ⟨q1, q2⟩ := RDs.dp xs vs (by omega) h3
    simp only [D.toP, PyData.canLay0]
    exact ⟨.lst (SqL.of h1.2) q1, q2⟩
  | .loc _, _, h, _ => by simp only [D.dp, dpL] at h; omega
  | .scr _, _, h, _ => by simp only [D.dp, dpL] at h; omega
theorem RDs.dp : ∀ (ds : List D) (vs : List V), D.dps ds ≤ dpL → RDs K w ds vs → DpAll K w.H vs (D.toPs ds) ∧ PyData.canLayAll0 (D.toPs ds) = true
  | [], vs, _, h => by rw [h.nil_inv]; simp only [D.toPs, PyData.canLayAll0]; exact ⟨.nil, trivial⟩
  | x :: xs, vs, hd, h => by
    simp only [D.dps] at hd
    obtain ⟨v, r, rfl, h1, h2⟩ := h.cons_inv
    obtain ⟨a1, a2⟩ := RD.dp x v (by omega) h1
    obtain ⟨b1, b2⟩ := RDs.dp xs r (by omega) h2
    simp only [D.toPs, PyData.canLayAll0, a2, b2]
    exact ⟨.cons a1 b1, rfl⟩
end
theorem RV.dp {d : D} {v : V} (hd : d.dp ≤ dpL) (h : RV K w d v) : Dp K w.H v d.toP ∧ d.toP.canLay0 = true := by
  cases d with
  | lst xs =>
    simp only [D.dp] at hd
    obtain ⟨a, vs, rfl, h1, h2, h3⟩ := h.lstI
    obtain ⟨q1, q2⟩ := RDs.dp xs vs (by omega) h3
    simp only [D.toP, PyData.canLay0]
    exact ⟨.lst (SqL.of h1) q1, q2⟩
  | _ => exact RD.dp _ v hd h
def rEqX (K : PySem.W.Frag) : R2 := fun x y H Q => ∃ d e, Dp K H x d ∧ Dp K H y e ∧ d.canLay0 = true ∧ e.canLay0 = true ∧ d.depth ≤ 190 ∧ Q (.bl (PyData.eqv d e)) H
def rNeX (K : PySem.W.Frag) : R2 := fun x y H Q => ∃ d e, Dp K H x d ∧ Dp K H y e ∧ d.canLay0 = true ∧ e.canLay0 = true ∧ d.depth ≤ 190 ∧ Q (.bl (!PyData.eqv d e)) H
theorem op_eqX {X : Cx} (hu : X.A.units + 200 < cLine) : OpR X (compareOp .Eq) (rEqX X.K) := by
  intro pins s σ H x y v u Q I rx ry h
  obtain ⟨d, e, hd, he, sd, se, hz, q⟩ := h
  obtain ⟨as, r1⟩ := Dp.reads I d x v hd rx
  obtain ⟨bs, r2⟩ := Dp.reads I e y u he ry
  exact SeqAt.compareEq_reads r1 r2 sd se (by have := Nat.min_le_left d.depth e.depth; omega) ⟨.bl _, H, I, rfl, q⟩
theorem op_neX {X : Cx} (hu : X.A.units + 200 < cLine) : OpR X (compareOp .NotEq) (rNeX X.K) := by
  intro pins s σ H x y v u Q I rx ry h
  obtain ⟨d, e, hd, he, sd, se, hz, q⟩ := h
  obtain ⟨as, r1⟩ := Dp.reads I d x v hd rx
  obtain ⟨bs, r2⟩ := Dp.reads I e y u he ry
  exact SeqAt.compareNe_reads r1 r2 sd se (by have := Nat.min_le_left d.depth e.depth; omega) ⟨.bl _, H, I, rfl, q⟩
theorem px_eq {a b : D} {va vb : V} (hs : RS K w S) (ha : RD K w a va) (hb : RD K w b vb) (h : Aft kx K W σ (RD K) w (pr .eq [a, b] S) Q) : rEqX K va vb w.H Q := by
  have ra := RV.of hs ha
  have rb := RV.of hs hb
  simp only [pr] at h
  obtain ⟨⟨h1, h2⟩, h⟩ := h.gd
  obtain ⟨p1, p2⟩ := ra.dp h1
  obtain ⟨q1, q2⟩ := rb.dp h2
  refine ⟨_, _, p1, q1, p2, q2, by rw [toP_depth _ h1]; exact h1, ?_⟩
  rw [toP_eqv _ _ h1 h2]
  exact h.bl hs
theorem px_ne {a b : D} {va vb : V} (hs : RS K w S) (ha : RD K w a va) (hb : RD K w b vb) (h : Aft kx K W σ (RD K) w (pr .ne [a, b] S) Q) : rNeX K va vb w.H Q := by
  have ra := RV.of hs ha
  have rb := RV.of hs hb
  simp only [pr] at h
  obtain ⟨⟨h1, h2⟩, h⟩ := h.gd
  obtain ⟨p1, p2⟩ := ra.dp h1
  obtain ⟨q1, q2⟩ := rb.dp h2
  refine ⟨_, _, p1, q1, p2, q2, by rw [toP_depth _ h1]; exact h1, ?_⟩
  rw [toP_eqv _ _ h1 h2]
  exact h.bl hs
end
end Eng

/-! Eng4 -/
set_option Elab.async false
set_option linter.all false
set_option maxRecDepth 100000
set_option maxHeartbeats 4000000
/-! More operations. -/
namespace Eng
open PySem PySem.Spec PyProof.Rows L2
section
variable {kx : Nat → Value} {K : PySem.W.Frag} {W : WX} {σ : L2.St} {w w' : Wd} {S : Sto} {Q : VK}

/-! ### < <= > >= -/
def rLtD : R2 := fun x y H Q => rI0 (fun i j => .bl (decide (i < j))) x y H Q ∨ ∃ i j, x = .str i ∧ y = .str j ∧ Q (.bl (decide (i.cps.toList < j.cps.toList))) H
def rLeD : R2 := fun x y H Q => rI0 (fun i j => .bl (decide (i ≤ j))) x y H Q ∨ ∃ i j, x = .str i ∧ y = .str j ∧ Q (.bl (!decide (j.cps.toList < i.cps.toList))) H
theorem op_ltD {X : Cx} : OpR X (compareOp .Lt) rLtD := op_lt.or op_lt_str
theorem op_leD {X : Cx} : OpR X (compareOp .LtE) rLeD := op_le.or op_le_str
theorem px_lt {a b : D} {va vb : V} (hs : RS K w S) (ha : RD K w a va) (hb : RD K w b vb) (h : Aft kx K W σ (RD K) w (pr .lt [a, b] S) Q) : rLtD va vb w.H Q := by
  cases a with
  | int i =>
    cases b with
    | int j =>
      obtain rfl := ha.intI
      obtain rfl := hb.intI
      simp only [pr] at h
      exact .inl ⟨i, j, rfl, rfl, h.bl hs⟩
    | _ => exact h.elim
  | str x =>
    cases b with
    | str y =>
      obtain ⟨rfl, ox⟩ := ha.strI
      obtain ⟨rfl, oy⟩ := hb.strI
      simp only [pr, strLt] at h
      refine .inr ⟨_, _, rfl, rfl, ?_⟩
      rw [sv_cps, sv_cps]
      exact h.bl hs
    | _ => exact h.elim
  | _ => cases b <;> exact h.elim
theorem px_le {a b : D} {va vb : V} (hs : RS K w S) (ha : RD K w a va) (hb : RD K w b vb) (h : Aft kx K W σ (RD K) w (pr .le [a, b] S) Q) : rLeD va vb w.H Q := by
  cases a with
  | int i =>
    cases b with
    | int j =>
      obtain rfl := ha.intI
      obtain rfl := hb.intI
      simp only [pr] at h
      exact .inl ⟨i, j, rfl, rfl, h.bl hs⟩
    | _ => exact h.elim
  | str x =>
    cases b with
    | str y =>
      obtain ⟨rfl, ox⟩ := ha.strI
      obtain ⟨rfl, oy⟩ := hb.strI
      simp only [pr, strLt] at h
      refine .inr ⟨_, _, rfl, rfl, ?_⟩
      rw [sv_cps, sv_cps]
      exact h.bl hs
    | _ => exact h.elim
  | _ => cases b <;> exact h.elim
theorem px_gt {a b : D} {va vb : V} (hs : RS K w S) (ha : RD K w a va) (hb : RD K w b vb) (h : Aft kx K W σ (RD K) w (pr .gt [a, b] S) Q) : rI0 (fun i j => .bl (decide (j < i))) va vb w.H Q := by
  cases a with
  | int i =>
    cases b with
    | int j =>
      obtain rfl := ha.intI
      obtain rfl := hb.intI
      simp only [pr] at h
      exact ⟨i, j, rfl, rfl, h.bl hs⟩
    | _ => exact h.elim
  | _ => cases b <;> exact h.elim
theorem px_ge {a b : D} {va vb : V} (hs : RS K w S) (ha : RD K w a va) (hb : RD K w b vb) (h : Aft kx K W σ (RD K) w (pr .ge [a, b] S) Q) : rI0 (fun i j => .bl (decide (j ≤ i))) va vb w.H Q := by
  cases a with
  | int i =>
    cases b with
    | int j =>
      obtain rfl := ha.intI
      obtain rfl := hb.intI
      simp only [pr] at h
      exact ⟨i, j, rfl, rfl, h.bl hs⟩
    | _ => exact h.elim
  | _ => cases b <;> exact h.elim

/-! ### in, not in -/
def rInX (K : PySem.W.Frag) (neg : Bool) : R2 := fun x y H Q => ∃ d ds, Dp K H x d ∧ (Dp K H y (.list ds) ∨ Dp K H y (.tuple ds)) ∧ d.canLay0 = true ∧ PyData.canLayAll0 ds = true ∧ d.depth ≤ 190 ∧
  Q (.bl (if neg then !ds.any (fun z => PyData.eqv z d) else ds.any fun z => PyData.eqv z d)) H
theorem op_inX {X : Cx} (hu : X.A.units + 200 < cLine) : OpR X (compareOp .In) (rInX X.K false) := by
  intro pins s σ H x y v u Q I rx ry h
  obtain ⟨d, ds, hd, he, sd, se, hz, q⟩ := h
  obtain ⟨as, r1⟩ := Dp.reads I d x v hd rx
  have hm : X.A.units + 1 + min (PyData.depthAll ds) d.depth < cLine := by have := Nat.min_le_right (PyData.depthAll ds) d.depth; omega
  rcases he with he | he
  · obtain ⟨bs, r2⟩ := Dp.reads I (.list ds) y u he ry
    exact SeqAt.in_list_reads r2 r1 se sd hm ⟨.bl _, H, I, rfl, q⟩
  · obtain ⟨bs, r2⟩ := Dp.reads I (.tuple ds) y u he ry
    exact SeqAt.in_tuple_reads r2 r1 se sd hm ⟨.bl _, H, I, rfl, q⟩
theorem op_notInX {X : Cx} (hu : X.A.units + 200 < cLine) : OpR X (compareOp .NotIn) (rInX X.K true) := by
  intro pins s σ H x y v u Q I rx ry h
  obtain ⟨d, ds, hd, he, sd, se, hz, q⟩ := h
  obtain ⟨as, r1⟩ := Dp.reads I d x v hd rx
  have hm : X.A.units + 1 + min (PyData.depthAll ds) d.depth < cLine := by have := Nat.min_le_right (PyData.depthAll ds) d.depth; omega
  rcases he with he | he
  · obtain ⟨bs, r2⟩ := Dp.reads I (.list ds) y u he ry
    exact SeqAt.notIn_list_reads r2 r1 se sd hm ⟨.bl _, H, I, rfl, q⟩
  · obtain ⟨bs, r2⟩ := Dp.reads I (.tuple ds) y u he ry
    exact SeqAt.notIn_tuple_reads r2 r1 se sd hm ⟨.bl _, H, I, rfl, q⟩
def rInSg (neg : Bool) : R2 := fun x y H Q => ∃ (c : Nat) (z : Str), x = .str ⟨#[c]⟩ ∧ y = .str z ∧ Q (.bl (if neg then !decide (c ∈ z.cps.toList) else decide (c ∈ z.cps.toList))) H
def rInD2 (K : PySem.W.Frag) (neg : Bool) : R2 := fun x y H Q => rInSg neg x y H Q ∨ rInX K neg x y H Q
theorem op_isin {X : Cx} (hu : X.A.units + 200 < cLine) : OpR X (compareOp .In) (rInD2 X.K false) := OpR.or (r := rInSg false) (fun pins s σ H x y v u Q I rx ry h => op_in_sign pins s σ H x y v u Q I rx ry h) (op_inX hu)
theorem op_notin {X : Cx} (hu : X.A.units + 200 < cLine) : OpR X (compareOp .NotIn) (rInD2 X.K true) := OpR.or (r := rInSg true) (fun pins s σ H x y v u Q I rx ry h => op_notIn_sign pins s σ H x y v u Q I rx ry h) (op_notInX hu)
theorem any_toP (a : D) (ha : a.dp ≤ dpL) : ∀ xs : List D, D.dps xs ≤ dpL → (D.toPs xs).any (fun z => PyData.eqv z a.toP) = xs.any (fun y => y.eqv a)
  | [], _ => by simp only [D.toPs, List.any_nil]
  | x :: xs, h => by
    simp only [D.dps] at h
    simp only [D.toPs, List.any_cons, toP_eqv x a (by omega) ha, any_toP a ha xs (by omega)]
theorem px_in {a b : D} {va vb : V} {neg : Bool} (hs : RS K w S) (ha : RD K w a va) (rb : RV K w b vb) (hb : ∀ n, b ≠ .loc n) (h : Aft kx K W σ (RD K) w (pr.isIn a b S (!neg)) Q) : rInD2 K neg va vb w.H Q := by
  cases b with
  | str s =>
    obtain ⟨rfl, ob⟩ := rb.strI
    cases a with
    | str t =>
      obtain ⟨rfl, oa⟩ := ha.strI
      cases t with
      | nil => exact h.elim
      | cons c r =>
        cases r with
        | nil =>
          simp only [pr.isIn] at h
          refine .inl ⟨c, _, rfl, rfl, ?_⟩
          rw [sv_cps]
          cases neg
          · exact h.bl hs
          · exact h.bl hs
        | cons _ _ => exact h.elim
    | _ => exact h.elim
  | lst xs =>
    have h' : Aft kx K W σ (RD K) w (gd (a.dp ≤ dpL ∧ (D.lst xs).dp ≤ dpL) (.bl (if (!neg) = true then xs.any (fun y => y.eqv a) else !xs.any (fun y => y.eqv a))) S) Q := by
      cases a <;> (try exact h)
      rename_i t
      cases t with
      | nil => exact h
      | cons _ r => cases r <;> exact h
    obtain ⟨⟨h1, h2⟩, h'⟩ := h'.gd
    obtain ⟨p1, p2⟩ := RD.dp a va h1 ha
    obtain ⟨q1, q2⟩ := rb.dp h2
    simp only [D.dp] at h2
    simp only [D.toP] at q1
    simp only [D.toP, PyData.canLay0] at q2
    refine .inr ⟨_, _, p1, .inl q1, p2, q2, by rw [toP_depth _ h1]; exact h1, ?_⟩
    rw [any_toP a h1 xs (by omega)]
    cases neg
    · exact h'.bl hs
    · exact h'.bl hs
  | tup xs =>
    have h' : Aft kx K W σ (RD K) w (gd (a.dp ≤ dpL ∧ (D.tup xs).dp ≤ dpL) (.bl (if (!neg) = true then xs.any (fun y => y.eqv a) else !xs.any (fun y => y.eqv a))) S) Q := by
      cases a <;> (try exact h)
      rename_i t
      cases t with
      | nil => exact h
      | cons _ r => cases r <;> exact h
    obtain ⟨⟨h1, h2⟩, h'⟩ := h'.gd
    obtain ⟨p1, p2⟩ := RD.dp a va h1 ha
    obtain ⟨q1, q2⟩ := rb.dp h2
    simp only [D.dp] at h2
    simp only [D.toP] at q1
    simp only [D.toP, PyData.canLay0] at q2
    refine .inr ⟨_, _, p1, .inr q1, p2, q2, by rw [toP_depth _ h1]; exact h1, ?_⟩
    rw [any_toP a h1 xs (by omega)]
    cases neg
    · exact h'.bl hs
    · exact h'.bl hs
  | loc n => exact absurd rfl (hb n)
  | _ => cases a <;> (try exact h.elim)
         rename_i t
         cases t with
         | nil => exact h.elim
         | cons _ r => cases r <;> exact h.elim

/-! ### is None, is True -/
def rIsD : R2 := fun x y H Q => (y = .non ∧ Q (.bl (decide (x = .non))) H) ∨ rIsB x y H Q
def rNotD : R2 := fun x y H Q => (y = .non ∧ Q (.bl (!decide (x = .non))) H) ∨ rNotB x y H Q
theorem op_isD {X : Cx} : OpR X (compareOp .Is) rIsD := op_isN.or op_isBl
theorem op_notD {X : Cx} : OpR X (compareOp .IsNot) rNotD := op_notN.or op_notBl
theorem RD.non_iff {d : D} {v : V} (h : RD K w d v) : decide (v = .non) = decide (d = .non) := by
  cases d with
  | non => rw [h.nonI] <;> rfl
  | bl b => rw [h.blI] <;> rfl
  | int b => rw [h.intI] <;> rfl
  | str b => rw [h.strI.1] <;> rfl
  | tup b => obtain ⟨a, vs, rfl, _⟩ := h.tupI; rfl
  | lst b => obtain ⟨a, vs, rfl, _⟩ := h.lstI; rfl
  | loc b => obtain ⟨a, rfl, _⟩ := h.locI; rfl
  | scr b => obtain ⟨a, rfl, _⟩ := h.rv.scrI; rfl
theorem px_isc {a : D} {va vc : V} {c : D} (hs : RS K w S) (ha : RD K w a va) (hc : RD K w c vc) (h : Aft kx K W σ (RD K) w (pr (.isc c) [a] S) Q) : rIsD va vc w.H Q := by
  simp only [pr, pr.isC] at h
  cases c with
  | non =>
    obtain rfl := hc.nonI
    simp only [if_true] at h
    refine .inl ⟨rfl, ?_⟩
    rw [ha.non_iff]
    exact h.bl hs
  | bl b =>
    obtain rfl := hc.blI
    cases a with
    | bl b' =>
      obtain rfl := ha.blI
      simp only [if_true] at h
      exact .inr ⟨b', b, rfl, rfl, h.bl hs⟩
    | _ => exact h.elim
  | _ => exact h.elim
theorem px_isntc {a : D} {va vc : V} {c : D} (hs : RS K w S) (ha : RD K w a va) (hc : RD K w c vc) (h : Aft kx K W σ (RD K) w (pr (.isntc c) [a] S) Q) : rNotD va vc w.H Q := by
  simp only [pr, pr.isC] at h
  cases c with
  | non =>
    obtain rfl := hc.nonI
    simp only [Bool.false_eq_true, if_false] at h
    refine .inl ⟨rfl, ?_⟩
    rw [ha.non_iff]
    exact h.bl hs
  | bl b =>
    obtain rfl := hc.blI
    cases a with
    | bl b' =>
      obtain rfl := ha.blI
      simp only [Bool.false_eq_true, if_false] at h
      exact .inr ⟨b', b, rfl, rfl, h.bl hs⟩
    | _ => exact h.elim
  | _ => exact h.elim

/-! ### truth -/
theorem tru_of {d : D} {v : V} {b : Bool} (hs : RS K w S) (h : RD K w d v) (e : truth S d = some b) : TruV K v w.H b := by
  cases d with
  | non => rw [h.nonI]; simp only [truth, Option.some.injEq] at e; exact e.symm
  | bl x => rw [h.blI]; simp only [truth, Option.some.injEq] at e; exact e.symm
  | int x => rw [h.intI]; simp only [truth, Option.some.injEq] at e; exact e.symm
  | str x =>
    obtain ⟨rfl, ok⟩ := h.strI
    simp only [truth, Option.some.injEq] at e
    refine ⟨ok.len, ?_⟩
    rw [← e, sv_len]
    cases x with
    | nil => rfl
    | cons a b => simp; omega
  | tup xs =>
    obtain ⟨a, vs, rfl, h1, h2, h3⟩ := h.tupI
    simp only [truth, Option.some.injEq] at e
    refine .inr (.inl ⟨vs, SqT.of h1, ?_⟩)
    rw [← e]
    have := h3.length
    cases xs <;> cases vs <;> simp at this ⊢
  | lst xs =>
    obtain ⟨a, vs, rfl, h1, h2, h3⟩ := h.lstI
    simp only [truth, Option.some.injEq] at e
    refine .inl ⟨vs, SqL.of h1.2, ?_⟩
    rw [← e]
    have := h3.length
    cases xs <;> cases vs <;> simp at this ⊢
  | scr xs => simp only [truth] at e; cases e
  | loc n =>
    obtain ⟨a, rfl, h1⟩ := h.locI
    obtain ⟨m, e1, e2⟩ := hs.loc h1
    simp only [truth, e1] at e
    cases m with
    | lst xs =>
      simp only [Option.some.injEq] at e
      obtain ⟨vs, q1, q2, q3⟩ := e2
      refine .inl ⟨vs, SqL.of q1, ?_⟩
      rw [← e]
      have := q3.length
      cases xs <;> cases vs <;> simp at this ⊢
    | dct kvs =>
      simp only [Option.some.injEq] at e
      obtain ⟨ks, q1, q2, q3⟩ := e2
      refine .inr (.inr ⟨ks, q1, ?_⟩)
      rw [← e]
      cases kvs with
      | nil => rw [show ks = [] from q3] <;> rfl
      | cons p r => obtain ⟨v, r', rfl, _⟩ := q3; rfl
    | dtt kvs => cases e
end
end Eng

/-! Eng5 -/
set_option Elab.async false
set_option linter.all false
set_option maxRecDepth 100000
set_option maxHeartbeats 4000000
/-! Subscripts, slices, built-ins. -/
namespace Eng
open PySem PySem.Spec PyProof.Rows L2
section
variable {kx : Nat → Value} {K : PySem.W.Frag} {W : WX} {σ : L2.St} {w w' : Wd} {S : Sto} {Q : VK}

/-! ### x[i] -/
theorem ixN_eq (n : Nat) (i : Int) : Eng.ixN n i = L2.ixN n i := rfl
theorem atI_rds {xs : List D} {vs : List V} {i : Int} {d : D} (h : RDs K w xs vs) (e : Eng.atI xs i = some d) : ∃ v, L2.atI vs i = some v ∧ RD K w d v := by
  unfold Eng.atI at e
  unfold L2.atI
  rw [h.length, ← ixN_eq]
  cases q : Eng.ixN xs.length i with
  | none => rw [q] at e; cases e
  | some j =>
    rw [q] at e
    obtain ⟨v, e1, e2⟩ := h.get (i := j) (d := d) e
    exact ⟨v, e1, e2⟩
theorem atI_map {a b : Type} (f : a → b) (xs : List a) (i : Int) : L2.atI (xs.map f) i = (Eng.atI xs i).map f := by
  unfold Eng.atI L2.atI
  rw [List.length_map, ← ixN_eq]
  cases Eng.ixN xs.length i with
  | none => rfl
  | some j => simp
theorem atI_same {a : Type} (xs : List a) (i : Int) : L2.atI xs i = Eng.atI xs i := rfl
theorem atI_mem {a : Type} {xs : List a} {i : Int} {x : a} (h : Eng.atI xs i = some x) : x ∈ xs := by
  unfold Eng.atI at h
  cases q : Eng.ixN xs.length i with
  | none => rw [q] at h; cases h
  | some j => rw [q] at h; exact List.mem_of_getElem? h
theorem px_idx {a i : D} {va vi : V} (hs : RS K w S) (ha : RD K w a va) (hi : RD K w i vi) (hd : ∀ n, rs S a ≠ .loc n) (h : Aft kx K W σ (RD K) w (pr .idx [a, i] S) Q) : rIx K va vi w.H Q := by
  have ra := RV.of hs ha
  simp only [pr] at h
  generalize rs S a = a' at ra h hd
  cases i with
  | int i =>
    obtain rfl := hi.intI
    cases a' with
    | tup xs =>
      obtain ⟨p, vs, rfl, h1, h2, h3⟩ := ra.tupI
      obtain ⟨x, e, h⟩ := h.ofO
      obtain ⟨v, e1, e2⟩ := atI_rds h3 e
      exact .inr (.inl ⟨p, vs, i, v, rfl, rfl, SqT.of h1, e1, h.val hs e2⟩)
    | lst xs =>
      obtain ⟨p, vs, rfl, h1, h2, h3⟩ := ra.lstI
      obtain ⟨x, e, h⟩ := h.ofO
      obtain ⟨v, e1, e2⟩ := atI_rds h3 e
      exact .inl ⟨p, vs, i, v, rfl, rfl, SqL.of h1, e1, h.val hs e2⟩
    | str x =>
      obtain ⟨rfl, ox⟩ := ra.strI
      obtain ⟨x', e, h⟩ := h.ofO
      obtain ⟨c, e1, rfl⟩ := Option.map_eq_some_iff.mp e
      refine .inr (.inr ⟨_, i, c, rfl, rfl, ox.len, by rw [sv_cps, atI_same]; exact e1, ?_⟩)
      exact h.str hs (ox.one (atI_mem e1))
    | scr ns =>
      obtain ⟨p, rfl, h1⟩ := ra.scrI
      obtain ⟨x', e, h⟩ := h.ofO
      obtain ⟨n, e1, rfl⟩ := Option.map_eq_some_iff.mp e
      exact .inl ⟨p, _, i, .int n, rfl, rfl, h1.sq, by rw [atI_map, e1] <;> rfl, h.int hs⟩
    | loc n => exact absurd rfl (hd n)
    | _ => exact h.elim
  | _ => cases a' <;> first | exact absurd rfl (hd _) | exact h.elim

/-! ### x[lo:hi] -/
theorem sIx_eq (n d : Nat) (o : Option Int) : HT.sIx n d o = Eng.sIx n d o := by cases o <;> rfl
theorem cutV_eq (xs : List V) (lo hi : Option Int) : cutV xs lo hi = cut xs lo hi := by
  unfold cutV cut
  rw [sIx_eq, sIx_eq]
theorem cut_sub {a : Type} (xs : List a) (lo hi : Option Int) : (cut xs lo hi).Sublist xs := by
  unfold cut
  exact (List.take_sublist _ _).trans (List.drop_sublist _ _)
theorem RDs.cut {xs : List D} {vs : List V} (h : RDs K w xs vs) (lo hi : Option Int) : RDs K w (Eng.cut xs lo hi) (Eng.cut vs lo hi) := by
  unfold Eng.cut
  rw [h.length]
  exact (h.drop _).take _
def rSlD (K : PySem.W.Frag) : V → Option Int → Option Int → Hp → VK → Prop := fun x lo hi H Q => rSlL K x lo hi H Q ∨ rSlA K x lo hi H Q ∨ rSlS x lo hi H Q
theorem sl_D {X : Cx} : SlR X (rSlD X.K) := sl_list.or (sl_tupA.or sl_str)
theorem px_slc {a : D} {va : V} {lo hi : Option Int} (hs : RS K w S) (ra : RV K w a va) (h : Aft kx K W σ (RD K) w (pr.cutD a lo hi S) Q) : rSlD K va lo hi w.H Q := by
  cases a with
  | lst xs =>
    obtain ⟨p, vs, rfl, h1, h2, h3⟩ := ra.lstI
    simp only [pr.cutD] at h
    refine .inl ⟨p, vs, rfl, SqL.of h1, ?_⟩
    rw [cutV_eq]
    exact h.lst hs (Nat.le_trans (cut_sub _ _ _).length_le h2) (h3.cut lo hi)
  | tup xs =>
    obtain ⟨p, vs, rfl, h1, h2, h3⟩ := ra.tupI
    simp only [pr.cutD] at h
    refine .inr (.inl ⟨p, vs, rfl, SqT.of h1, fun e => ?_, fun _ => ?_⟩)
    · have l := h3.length
      rw [sIx_eq, sIx_eq, l] at e
      have e3 : cut xs lo hi = xs := by
        unfold cut
        rw [e.1, e.2]
        simp
      rw [e3] at h
      exact h.val hs ra
    · rw [cutV_eq]
      exact h.tup hs (Nat.le_trans (cut_sub _ _ _).length_le h2) (h3.cut lo hi)
  | str x =>
    obtain ⟨rfl, ox⟩ := ra.strI
    simp only [pr.cutD] at h
    refine .inr (.inr ⟨_, rfl, ox.len, ?_⟩)
    have e : cutS (sv x) lo hi = sv (cut x lo hi) := by
      unfold cutS cut
      rw [sv_cps, sv_len, sIx_eq, sIx_eq] <;> rfl
    rw [e]
    exact h.str hs (ox.sub (cut_sub _ _ _))
  | _ => exact h.elim

/-! ### x[::-1] -/
theorem fm_congr {f g : Nat → Option Value} : ∀ l : List Nat, (∀ m ∈ l, f m = g m) → l.filterMap f = l.filterMap g
  | [], _ => rfl
  | a :: l, h => by
    rw [List.filterMap_cons, List.filterMap_cons, h a List.mem_cons_self, fm_congr l fun m hm => h m (List.mem_cons_of_mem _ hm)]
theorem pick_rev (xs : Array Value) : ((List.range xs.size).filterMap fun (m : Nat) => xs[(((xs.size : Int) - 1) + (m : Int) * (-1)).toNat]?).toArray = xs.toList.reverse.toArray := by
  have h : ∀ (l : List Value), (List.range l.length).filterMap (fun (m : Nat) => l[l.length - 1 - m]?) = l.reverse := by
    intro l
    apply List.ext_getElem?
    intro i
    have e : (List.range l.length).filterMap (fun (m : Nat) => l[l.length - 1 - m]?) = (List.range l.length).filterMap (fun (m : Nat) => l.reverse[m]?) := by
      apply fm_congr
      intro m hm
      have hm' : m < l.length := List.mem_range.mp hm
      rw [List.getElem?_reverse hm']
    rw [e]
    have e2 : ∀ (r : List Value), (List.range r.length).filterMap (fun (m : Nat) => r[m]?) = r := by
      intro r
      induction r with
      | nil => rfl
      | cons a r ih =>
        rw [List.length_cons, List.range_succ_eq_map, List.filterMap_cons]
        simp only [List.getElem?_cons_zero, List.filterMap_map]
        congr 1
    rw [← List.length_reverse (as := l), e2]
  congr 1
  rw [← h xs.toList]
  simp only [Array.length_toList]
  apply fm_congr
  intro m hm
  have hm' : m < xs.size := List.mem_range.mp hm
  have : (((xs.size : Int) - 1) + (m : Int) * (-1)).toNat = xs.size - 1 - m := by omega
  rw [this, Array.getElem?_toList]
theorem getItem_tuple_rev {prog : Program} {wd : World} {A : Around} {E : Value → Shared → Prop} {s : Shared} {t sl : Addr} {items : Array Value} {vl vu vk : Value} {Q : Value → Shared → Prop} (ht : IsTup s.heap t items) (hs : s.heap.IsSliceOf sl vl vu vk)
    (pl : IsPart vl none) (pu : IsPart vu none) (pk : IsPart vk (some (-1))) (h : Q (.ref s.heap.objs.size) { s with heap := s.heap.push { cls := .type "tuple", data := .seq items.toList.reverse.toArray } })
    (hsz : items.size ≤ sizeLine) : wpAny (model prog wd) A (getItem (.ref t) (.ref sl)) Q E s := by
  have htake : sizeOk (.seq items.toList.reverse.toArray) := by
    show items.toList.reverse.toArray.size ≤ sizeLine
    simpa using hsz
  obtain ⟨os, hos, hcs, hds⟩ := id hs
  have hTs : s.TypeIs (.ref sl) "slice" := ⟨os, hos, hcs⟩
  unfold getItem
  try with_reducible refine wpAny_holding ?_
  first | refine wpAny_bind (wpAny_pure ?_) | skip
  refine wpAny_bind (wpAny_sequenceKey ht.typeIs (by decide) ?_)
  refine wpAny_bind (wpAny_callSpecial?_slot (name := Str.ofString "__getitem__") ht.typeIs PyProof.Rows.slot_tuple_getitem
    (wpAny_call_entry PyProof.Rows.slot_tuple_getitem ht.typeIs entry_tuple_getitem ?_ (args_tuple_getitem _ _)))
  show wpAny _ _ (Builtin.Tuple.tupleItemsOf (.ref t) >>= _) _ _ s
  refine wpAny_bind (tupleItemsOf_ ht ?_)
  refine wpAny_bind (wpAny_typeOf hTs ?_)
  rw [if_pos (by decide)]
  have hap : ∀ {A : Around} {E : Value → Shared → Prop} {Q : Int × Int × Nat → Shared → Prop}, Q ((items.size : Int) - 1, -1, items.size) s → wpAny (model prog wd) A (Builtin.Slice.sliceApplied (.ref sl) (pure (items.size : Int))) Q E s := by
    intro A E Q hq
    unfold Builtin.Slice.sliceApplied Builtin.Slice.sliceFields
    refine wpAny_bind (wpAny_bind (wpAny_field hos hds (x := vl) rfl (wpAny_bind (wpAny_field hos hds (x := vu) rfl (wpAny_bind (wpAny_field hos hds (x := vk) rfl (wpAny_pure ?_)))))))
    refine wpAny_bind (HT.slicePart_ pk ?_)
    show wpAny _ _ (if ((-1 : Int) == 0) = true then _ else _) _ _ s
    rw [if_neg (by decide)]
    refine wpAny_bind (HT.slicePart_ pl (wpAny_bind (HT.slicePart_ pu (wpAny_bind (wpAny_pure ?_)))))
    show wpAny _ _ (pure (((items.size : Int) - 1), (-1 : Int), Builtin.Slice.slicePlaces ((items.size : Int) - 1) (-1) (-1))) _ _ s
    have e : Builtin.Slice.slicePlaces ((items.size : Int) - 1) (-1) (-1) = items.size := by
      unfold Builtin.Slice.slicePlaces
      rw [if_neg (by decide)]
      split
      · have : -(-1 : Int) = 1 := by decide
        rw [this, Int.ediv_one]
        omega
      · omega
    rw [e]
    exact wpAny_pure hq
  refine wpAny_bind (hap ?_)
  have hno : ¬ ((((items.size : Int) - 1) == 0 && (-1 : Int) == 1 && items.size == items.size) = true) := by simp
  show wpAny _ _ (if ((((items.size : Int) - 1) == 0 && (-1 : Int) == 1 && items.size == items.size) = true) then _ else _) _ _ s
  rw [if_neg hno, pick_rev]
  first
    | exact wpAny_bind (m := Builtin.Tuple.tupleExact _) (wpAny_newObj_type (wpAny_pure ⟨_, rfl, wpAny_pure h⟩) htake)
    | exact wpAny_bind (m := Builtin.Tuple.tupleExact _) (wpAny_newObj_type (wpAny_bind (wpAny_pure (wpAny_pure ⟨_, rfl, wpAny_pure h⟩))) htake)
    | exact wpAny_bind (wpAny_bind (m := Builtin.Tuple.tupleExact _) (wpAny_newObj_type (wpAny_pure (wpAny_pure ⟨_, rfl, wpAny_pure h⟩)) htake))
    | exact wpAny_bind (wpAny_bind (m := Builtin.Tuple.tupleExact _) (wpAny_newObj_type (wpAny_pure ⟨_, rfl, wpAny_pure h⟩) htake))
/-- a list or a tuple turned round -/
def tRevD (K : PySem.W.Frag) (te : TE) : TE := fun σ H Q => te σ H fun x H1 => (∃ a xs, x = .ref a ∧ SqL K H1 a xs ∧ ∀ p, H1 p = none → Q (.ref p) (upd H1 p (.lst xs.reverse))) ∨
  (∃ a xs, x = .ref a ∧ SqT K H1 a xs ∧ ∀ p, H1 p = none → Q (.ref p) (upd H1 p (.tup xs.reverse)))
theorem pe_revD {X : Cx} {e : Expr} {te : TE} {k : Nat} {p1 p2 p3 pos : Pos} (he : PE X e te) : PE X (.Subscript e (.Slice none none (some (.UnaryOp .USub (.Constant (.int 1) k p1) p2)) p3) pos) (tRevD X.K te) := by
  refine ⟨fun pins s σ H Q I h => ?_⟩
  refine Subscript_ (thn (he.run pins s σ H _ I h) fun v s1 ⟨x, H1, I1, r1, q1⟩ => ?_)
  have hst : PO X (some (.UnaryOp .USub (.Constant (.int 1) k p1) p2)) (tPart (tUn (rU fun i => .int (-i)) (tC (.int 1)))) := po_some (pe_un un_neg pe_int)
  refine wpAny_Slice (thn (po_none.run pins s1 σ H1 (fun o H2 => o = none ∧ H2 = H1) I1 ⟨rfl, rfl⟩) fun vl s2 ⟨l, H2, I2, pl, el, e2⟩ => ?_)
  subst el e2
  refine thn (po_none.run pins s2 σ H2 (fun o H3 => o = none ∧ H3 = H2) I2 ⟨rfl, rfl⟩) fun vu s3 ⟨u, H3, I3, pu, eu, e3⟩ => ?_
  subst eu e3
  refine thn (hst.run pins s3 σ H3 (fun o H4 => o = some (-1) ∧ H4 = H3) I3 ⟨1, rfl, -1, rfl, rfl, rfl⟩) fun vs s4 ⟨o, H4, I4, ps, eo, e4⟩ => ?_
  subst eo e4
  have I5 : Inv X pins σ H4 { s4 with heap := s4.heap.push { cls := .type "slice", data := .fields #[vl, vu, vs] } } := I4.kept (t' := s4.toks) fun b ob q => Heap.get?_push_of_some _ q
  rcases q1 with ⟨a, xs, ex, hx, q⟩ | ⟨a, xs, ex, hx, q⟩
  · subst ex
    cases r1
    obtain ⟨its, r, ht, hz⟩ := I5.list hx
    have hlen := r.length
    show wpAny (model X.prog X.w) X.A (subscriptTail e (.Slice none none (some (.UnaryOp .USub (.Constant (.int 1) k p1) p2)) p3) (.ref a) (.ref s4.heap.objs.size)) (EP X pins σ Q) X.xe { s4 with heap := s4.heap.push { cls := .type "slice", data := .fields #[vl, vu, vs] } }
    refine tail_any (ops := [.ref a, .ref s4.heap.objs.size]) ht.isList.typeIs (PySem.slot_list_getitem.lookup) ?_ (by with_unfolding_all rfl)
    refine wpAny_getItem_list_slice ht.isList (Heap.IsSliceOf.new _ vl vu vs) pl pu ps (by decide) ?_ (by rw [List.size_toArray]; omega)
    rw [PySem.W.krv_pick]
    refine ⟨.ref _, _, I5.laid (t' := s4.toks) (o := .lst xs.reverse) (fun b ob q => Heap.get?_push_of_some _ q) (Nat.le_refl _) ?_, rfl, q _ (I5.hok.fresh (Nat.le_refl _))⟩
    exact ⟨by rw [List.length_reverse]; exact hz, _, 0, r.reverse, Heap.get?_push_size _ rfl⟩
  · subst ex
    cases r1
    obtain ⟨its, r, ht, hz⟩ := I5.tuple hx
    have hlen := r.length
    show wpAny (model X.prog X.w) X.A (subscriptTail e (.Slice none none (some (.UnaryOp .USub (.Constant (.int 1) k p1) p2)) p3) (.ref a) (.ref s4.heap.objs.size)) (EP X pins σ Q) X.xe { s4 with heap := s4.heap.push { cls := .type "slice", data := .fields #[vl, vu, vs] } }
    refine tail_any (ops := [.ref a, .ref s4.heap.objs.size]) ht.typeIs (PyProof.Rows.slot_tuple_getitem.lookup) ?_ (by with_unfolding_all rfl)
    refine getItem_tuple_rev ht (Heap.IsSliceOf.new _ vl vu vs) pl pu ps ?_ (by rw [List.size_toArray]; omega)
    refine ⟨.ref _, _, I5.laid (t' := s4.toks) (o := .tup xs.reverse) (fun b ob q => Heap.get?_push_of_some _ q) (Nat.le_refl _) ?_, rfl, q _ (I5.hok.fresh (Nat.le_refl _))⟩
    exact ⟨by rw [List.length_reverse]; exact hz, its.reverse, r.reverse, ⟨_, Heap.get?_push_size _ rfl, rfl, _, rfl⟩⟩
theorem px_rev {a : D} {va : V} (hs : RS K w S) (ha : RD K w a va) (h : Aft kx K W σ (RD K) w (pr .rev [a] S) Q) : (∃ a xs, va = .ref a ∧ SqL K w.H a xs ∧ ∀ p, w.H p = none → Q (.ref p) (upd w.H p (.lst xs.reverse))) ∨
  (∃ a xs, va = .ref a ∧ SqT K w.H a xs ∧ ∀ p, w.H p = none → Q (.ref p) (upd w.H p (.tup xs.reverse))) := by
  have ra := RV.of hs ha
  simp only [pr] at h
  generalize rs S a = a' at ra h
  cases a' with
  | tup xs =>
    obtain ⟨p, vs, rfl, h1, h2, h3⟩ := ra.tupI
    exact .inr ⟨p, vs, rfl, SqT.of h1, h.tup hs (by simpa using h2) h3.reverse⟩
  | lst xs =>
    obtain ⟨p, vs, rfl, h1, h2, h3⟩ := ra.lstI
    exact .inl ⟨p, vs, rfl, SqL.of h1, h.lst hs (by simpa using h2) h3.reverse⟩
  | _ => exact h.elim
end
end Eng

/-! Eng6 -/
set_option Elab.async false
set_option linter.all false
set_option maxRecDepth 100000
set_option maxHeartbeats 4000000
/-! Built-ins. -/
namespace Eng
open PySem PySem.Spec PyProof.Rows L2
section
variable {kx : Nat → Value} {K : PySem.W.Frag} {W : WX} {σ : L2.St} {w w' : Wd} {S : Sto} {Q : VK}

/-! ### len -/
def rLenX (K : PySem.W.Frag) : List V → Hp → VK → Prop := fun xs H Q => (∃ x n, xs = [x] ∧ LenV K x H n ∧ Q (.int n) H) ∨ ∃ a kvs, xs = [V.ref a] ∧ H a = some (.dK kvs) ∧ Q (.int kvs.length) H
theorem call_lenX {X : Cx} : CallR X (.builtin "len") (rLenX X.K) := call_len.or call_lenD
theorem KVs.length : ∀ {kvs : List (List Nat × D)} {ks : List (Key × V)}, KVs K w kvs ks → ks.length = kvs.length
  | [], ks, h => by rw [show ks = [] from h] <;> rfl
  | (s, d) :: r, ks, h => by
    obtain ⟨v, r', rfl, _, h2⟩ := h
    simp [KVs.length h2]
theorem px_len {a : D} {va : V} (hs : RS K w S) (ha : RD K w a va) (h : Aft kx K W σ (RD K) w (pr .len [a] S) Q) : rLenX K [va] w.H Q := by
  have ra := RV.of hs ha
  simp only [pr] at h
  generalize rs S a = a' at ra h
  cases a' with
  | tup xs =>
    obtain ⟨p, vs, rfl, h1, h2, h3⟩ := ra.tupI
    refine .inl ⟨_, vs.length, rfl, .inr ⟨vs, SqT.of h1, rfl⟩, ?_⟩
    rw [h3.length]
    exact h.int hs
  | lst xs =>
    obtain ⟨p, vs, rfl, h1, h2, h3⟩ := ra.lstI
    refine .inl ⟨_, vs.length, rfl, .inl ⟨vs, SqL.of h1, rfl⟩, ?_⟩
    rw [h3.length]
    exact h.int hs
  | str s =>
    obtain ⟨rfl, ox⟩ := ra.strI
    refine .inl ⟨_, (sv s).length, rfl, ⟨ox.len, rfl⟩, ?_⟩
    rw [sv_len]
    exact h.int hs
  | scr ns =>
    obtain ⟨p, rfl, h1⟩ := ra.scrI
    refine .inl ⟨_, _, rfl, .inl ⟨_, h1.sq, rfl⟩, ?_⟩
    rw [List.length_map]
    exact h.int hs
  | loc n =>
    obtain ⟨p, rfl, h1⟩ := ra.locI
    obtain ⟨m, e1, e2⟩ := hs.loc h1
    simp only [e1] at h
    cases m with
    | dct kvs =>
      obtain ⟨ks, q1, q2, q3⟩ := e2
      refine .inr ⟨p, ks, rfl, q1, ?_⟩
      rw [KVs.length q3]
      exact h.int hs
    | _ => exact h.elim
  | _ => exact h.elim

/-! ### all, any, sum -/
theorem bools_rds : ∀ {xs : List D} {vs : List V} {bs : List Bool}, RDs K w xs vs → boolsD xs = some bs → vs = bs.map V.bl
  | [], vs, bs, h, e => by
    simp only [boolsD, Option.some.injEq] at e
    subst e
    exact h.nil_inv
  | .bl b :: r, vs, bs, h, e => by
    simp only [boolsD] at e
    obtain ⟨bs', e1, rfl⟩ := Option.map_eq_some_iff.mp e
    obtain ⟨v, r', rfl, h1, h2⟩ := h.cons_inv
    rw [h1.blI, bools_rds h2 e1] <;> rfl
  | .non :: _, _, _, _, e => by simp [boolsD] at e
  | .int _ :: _, _, _, _, e => by simp [boolsD] at e
  | .str _ :: _, _, _, _, e => by simp [boolsD] at e
  | .tup _ :: _, _, _, _, e => by simp [boolsD] at e
  | .lst _ :: _, _, _, _, e => by simp [boolsD] at e
  | .loc _ :: _, _, _, _, e => by simp [boolsD] at e
  | .scr _ :: _, _, _, _, e => by simp [boolsD] at e
theorem ints_rds : ∀ {xs : List D} {vs : List V} {bs : List Int}, RDs K w xs vs → intsD xs = some bs → vs = bs.map V.int
  | [], vs, bs, h, e => by
    simp only [intsD, Option.some.injEq] at e
    subst e
    exact h.nil_inv
  | .int b :: r, vs, bs, h, e => by
    simp only [intsD] at e
    obtain ⟨bs', e1, rfl⟩ := Option.map_eq_some_iff.mp e
    obtain ⟨v, r', rfl, h1, h2⟩ := h.cons_inv
    rw [h1.intI, ints_rds h2 e1] <;> rfl
  | .non :: _, _, _, _, e => by simp [intsD] at e
  | .bl _ :: _, _, _, _, e => by simp [intsD] at e
  | .str _ :: _, _, _, _, e => by simp [intsD] at e
  | .tup _ :: _, _, _, _, e => by simp [intsD] at e
  | .lst _ :: _, _, _, _, e => by simp [intsD] at e
  | .loc _ :: _, _, _, _, e => by simp [intsD] at e
  | .scr _ :: _, _, _, _, e => by simp [intsD] at e
theorem px_all {a : D} {va : V} (hs : RS K w S) (ha : RD K w a va) (h : Aft kx K W σ (RD K) w (pr .all [a] S) Q) : rAll K [va] w.H Q := by
  have ra := RV.of hs ha
  simp only [pr] at h
  generalize rs S a = a' at ra h
  cases a' with
  | lst xs =>
    obtain ⟨p, vs, rfl, h1, h2, h3⟩ := ra.lstI
    obtain ⟨x, e, h⟩ := h.ofO
    obtain ⟨bs, e1, rfl⟩ := Option.map_eq_some_iff.mp e
    obtain rfl := bools_rds h3 e1
    exact ⟨p, bs, rfl, SqL.of h1, h.bl hs⟩
  | _ => exact h.elim
theorem px_any {a : D} {va : V} (hs : RS K w S) (ha : RD K w a va) (h : Aft kx K W σ (RD K) w (pr .any [a] S) Q) : rAny K [va] w.H Q := by
  have ra := RV.of hs ha
  simp only [pr] at h
  generalize rs S a = a' at ra h
  cases a' with
  | lst xs =>
    obtain ⟨p, vs, rfl, h1, h2, h3⟩ := ra.lstI
    obtain ⟨x, e, h⟩ := h.ofO
    obtain ⟨bs, e1, rfl⟩ := Option.map_eq_some_iff.mp e
    obtain rfl := bools_rds h3 e1
    exact ⟨p, bs, rfl, SqL.of h1, h.bl hs⟩
  | _ => exact h.elim
theorem px_sum {a : D} {va : V} (hs : RS K w S) (ha : RD K w a va) (h : Aft kx K W σ (RD K) w (pr .sum [a] S) Q) : rSum K [va] w.H Q := by
  have ra := RV.of hs ha
  simp only [pr] at h
  generalize rs S a = a' at ra h
  cases a' with
  | lst xs =>
    obtain ⟨p, vs, rfl, h1, h2, h3⟩ := ra.lstI
    obtain ⟨x, e, h⟩ := h.ofO
    obtain ⟨bs, e1, rfl⟩ := Option.map_eq_some_iff.mp e
    obtain rfl := ints_rds h3 e1
    exact ⟨p, bs, rfl, SqL.of h1, h.int hs⟩
  | _ => exact h.elim

/-! ### tuple(..), list(..) -/
def rTupleX (K : PySem.W.Frag) : List V → Hp → VK → Prop := fun xs H Q => ∃ p ys, xs = [.ref p] ∧ ((SqL K H p ys ∧ ∀ l, H l = none → Q (.ref l) (upd H l (.tup ys))) ∨ (SqT K H p ys ∧ Q (.ref p) H))
def rListX (K : PySem.W.Frag) : List V → Hp → VK → Prop := fun xs H Q => ∃ p ys, xs = [.ref p] ∧ (SqL K H p ys ∨ SqT K H p ys) ∧ ∀ l, H l = none → Q (.ref l) (upd H l (.lst ys))
theorem px_tuple {a : D} {va : V} (hs : RS K w S) (ha : RD K w a va) (h : Aft kx K W σ (RD K) w (pr .tuple [a] S) Q) : rTupleX K [va] w.H Q := by
  have ra := RV.of hs ha
  simp only [pr] at h
  generalize rs S a = a' at ra h
  cases a' with
  | lst xs =>
    obtain ⟨p, vs, rfl, h1, h2, h3⟩ := ra.lstI
    exact ⟨p, vs, rfl, .inl ⟨SqL.of h1, h.tup hs h2 h3⟩⟩
  | tup xs =>
    obtain ⟨p, vs, rfl, h1, h2, h3⟩ := ra.tupI
    exact ⟨p, vs, rfl, .inr ⟨SqT.of h1, h.val hs ra⟩⟩
  | _ => exact h.elim
theorem px_list {a : D} {va : V} (hs : RS K w S) (ha : RD K w a va) (h : Aft kx K W σ (RD K) w (pr .list [a] S) Q) : rListX K [va] w.H Q := by
  have ra := RV.of hs ha
  simp only [pr] at h
  generalize rs S a = a' at ra h
  cases a' with
  | lst xs =>
    obtain ⟨p, vs, rfl, h1, h2, h3⟩ := ra.lstI
    exact ⟨p, vs, rfl, .inl (SqL.of h1), h.lst hs h2 h3⟩
  | tup xs =>
    obtain ⟨p, vs, rfl, h1, h2, h3⟩ := ra.tupI
    exact ⟨p, vs, rfl, .inr (SqT.of h1), h.lst hs h2 h3⟩
  | _ => exact h.elim

/-! ### int(..), min, max of two -/
def rIntX : List V → Hp → VK → Prop := fun xs H Q => (∃ i, xs = [.int i] ∧ Q (.int i) H) ∨ ∃ k, xs = [.bl k] ∧ Q (.int (if k then 1 else 0)) H
theorem px_int {a : D} {va : V} (hs : RS K w S) (ha : RD K w a va) (h : Aft kx K W σ (RD K) w (pr .int [a] S) Q) : rIntX [va] w.H Q := by
  cases a with
  | int i =>
    obtain rfl := ha.intI
    simp only [pr] at h
    exact .inl ⟨i, rfl, h.int hs⟩
  | bl b =>
    obtain rfl := ha.blI
    simp only [pr] at h
    exact .inr ⟨b, rfl, h.int hs⟩
  | _ => exact h.elim
theorem px_min2 {a b : D} {va vb : V} (hs : RS K w S) (ha : RD K w a va) (hb : RD K w b vb) (h : Aft kx K W σ (RD K) w (pr .min2 [a, b] S) Q) : ∃ i j, [va, vb] = [.int i, .int j] ∧ Q (.int (if j < i then j else i)) w.H := by
  cases a with
  | int i =>
    cases b with
    | int j =>
      obtain rfl := ha.intI
      obtain rfl := hb.intI
      simp only [pr] at h
      exact ⟨i, j, rfl, h.int hs⟩
    | _ => exact h.elim
  | _ => cases b <;> exact h.elim
theorem px_max2 {a b : D} {va vb : V} (hs : RS K w S) (ha : RD K w a va) (hb : RD K w b vb) (h : Aft kx K W σ (RD K) w (pr .max2 [a, b] S) Q) : ∃ i j, [va, vb] = [.int i, .int j] ∧ Q (.int (if j > i then j else i)) w.H := by
  cases a with
  | int i =>
    cases b with
    | int j =>
      obtain rfl := ha.intI
      obtain rfl := hb.intI
      simp only [pr] at h
      exact ⟨i, j, rfl, h.int hs⟩
    | _ => exact h.elim
  | _ => cases b <;> exact h.elim

/-! ### max of a list -/
theorem maxL_mem : ∀ (n : Int) (ns : List Int), maxL (n :: ns) ∈ n :: ns
  | n, [] => by simp [maxL]
  | n, m :: r => by
    have ih := maxL_mem m r
    simp only [maxL]
    rcases Int.le_total n (maxL (m :: r)) with h | h
    · rw [Int.max_eq_right h]; exact List.mem_cons_of_mem _ ih
    · rw [Int.max_eq_left h]; exact List.mem_cons_self
theorem maxL_ge : ∀ (n : Int) (ns : List Int) (y : Int), y ∈ n :: ns → y ≤ maxL (n :: ns)
  | n, [], y, h => by simp at h; subst h; simp [maxL]
  | n, m :: r, y, h => by
    simp only [maxL]
    rcases List.mem_cons.mp h with e | h
    · subst e; exact Int.le_max_left _ _
    · exact Int.le_trans (maxL_ge m r y h) (Int.le_max_right _ _)
theorem px_maxl {a : D} {va : V} (hs : RS K w S) (ha : RD K w a va) (h : Aft kx K W σ (RD K) w (pr .maxl [a] S) Q) : rMax K [va] w.H Q := by
  have ra := RV.of hs ha
  simp only [pr] at h
  generalize rs S a = a' at ra h
  cases a' with
  | lst xs =>
    obtain ⟨p, vs, rfl, h1, h2, h3⟩ := ra.lstI
    cases e1 : intsD xs with
    | none => simp only [e1] at h; exact h.elim
    | some ns =>
      cases ns with
      | nil => simp only [e1] at h; exact h.elim
      | cons n ns =>
        simp only [e1] at h
        obtain rfl := ints_rds h3 e1
        refine ⟨p, n :: ns, rfl, SqL.of h1, by simp, fun m hm hle => ?_⟩
        have : m = maxL (n :: ns) := Int.le_antisymm (maxL_ge n ns m hm) (hle _ (maxL_mem n ns))
        rw [this]
        exact h.int hs
  | _ => exact h.elim

/-! ### isinstance -/
def Ty.nm : Ty → String
  | .str => "str"
  | .tup => "tuple"
  | .int => "int"
  | .bool => "bool"
  | .list => "list"
def tyN : D → String
  | .non => "NoneType"
  | .bl _ => "bool"
  | .int _ => "int"
  | .str _ => "str"
  | .tup _ => "tuple"
  | .lst _ => "list"
  | .loc _ => ""
  | .scr _ => ""
theorem kit_all : ∀ n ∈ ["NoneType", "bool", "int", "str", "tuple", "list"], ∀ t ∈ ["str", "tuple", "int", "bool", "list"], kitB n t = some (n == t || (n == "bool" && t == "int")) := by decide +kernel
theorem isT_kit {d : D} {t : Ty} {b : Bool} (e : isT d t = some b) : kitB (tyN d) t.nm = some b := by
  cases d <;> cases t <;> simp only [isT, Option.some.injEq, reduceCtorEq] at e <;> subst e <;> simp only [tyN, Ty.nm] <;> exact (kit_all _ (by decide) _ (by decide)).trans (by decide)
theorem RV.ty {d : D} {v : V} (h : RV K w d v) (hl : ∀ n, d ≠ .loc n) (hl2 : ∀ n, d ≠ .scr n) : TyX K w.H v (.type (tyN d)) := by
  cases d with
  | non => rw [h.nonI]; exact .base .non
  | bl b => rw [h.blI]; exact .base (.bl b)
  | int b => rw [h.intI]; exact .base (.int b)
  | str b => rw [h.strI.1]; exact .base (.str _)
  | tup b => obtain ⟨a, vs, rfl, h1, _⟩ := h.tupI; exact .base (.tup h1)
  | lst b => obtain ⟨a, vs, rfl, h1, _⟩ := h.lstI; exact .base (.lst h1)
  | loc n => exact absurd rfl (hl n)
  | scr n => exact absurd rfl (hl2 n)
theorem isT_ne {d : D} {t : Ty} {b : Bool} (e : isT d t = some b) : (∀ n, d ≠ .loc n) ∧ (∀ n, d ≠ .scr n) := by
  constructor
  · rintro n rfl; simp [isT] at e
  · rintro n rfl; simp [isT] at e
theorem px_isi1 {a : D} {va : V} {t : Ty} (hs : RS K w S) (ha : RD K w a va) (h : Aft kx K W σ (RD K) w (pr (.isi [t]) [a] S) Q) : rIsi K [va, .ty t.nm] w.H Q := by
  have ra := RV.of hs ha
  simp only [pr] at h
  generalize rs S a = a' at ra h
  obtain ⟨x, e, h⟩ := h.ofO
  obtain ⟨b, e1, rfl⟩ := Option.map_eq_some_iff.mp e
  have e2 : isT a' t = some b := by
    simp only [isTs] at e1
    cases q : isT a' t with
    | none => rw [q] at e1; cases e1
    | some c => rw [q] at e1; cases c <;> simp at e1 <;> rw [e1]
  obtain ⟨n1, n2⟩ := isT_ne e2
  exact ⟨va, .ty t.nm, _, _, b, rfl, .ty _, ra.ty n1 n2, kit_ty (isT_kit e2), h.bl hs⟩
theorem kitAny_of {d : D} : ∀ (ts : List Ty) {b : Bool}, isTs d ts = some b → PySem.W.kitAny K (.type (tyN d)) (ts.map fun t => .type t.nm) = some b
  | [], b, e => by simp only [isTs, Option.some.injEq] at e; subst e; exact kitAny_nil
  | t :: ts, b, e => by
    simp only [isTs] at e
    cases q : isT d t with
    | none => rw [q] at e; cases e
    | some c =>
      rw [q] at e
      refine kitAny_cons (b := c) (kit_ty (isT_kit q)) (fun hc => ?_) fun hc => ?_
      · subst hc; exact kitAny_of ts e
      · subst hc; simpa using e.symm
theorem px_isiT {a : D} {va : V} {t : Ty} {ts : List Ty} {p : Addr} (hs : RS K w S) (ha : RD K w a va) (hp : w.H p = some (.tup ((t :: ts).map fun t => .ty t.nm))) (h : Aft kx K W σ (RD K) w (pr (.isi (t :: ts)) [a] S) Q) : rIsiT K [va, .ref p] w.H Q := by
  have ra := RV.of hs ha
  simp only [pr] at h
  generalize rs S a = a' at ra h
  obtain ⟨x, e, h⟩ := h.ofO
  obtain ⟨b, e1, rfl⟩ := Option.map_eq_some_iff.mp e
  have ne : (∀ n, a' ≠ .loc n) ∧ (∀ n, a' ≠ .scr n) := by
    simp only [isTs] at e1
    cases q : isT a' t with
    | none => rw [q] at e1; cases e1
    | some c => exact isT_ne q
  have hc : ∀ l : List Ty, Paired ClsV (l.map fun t => V.ty t.nm) (l.map fun t => Value.type t.nm) := by
    intro l
    induction l with
    | nil => exact .nil
    | cons x l ih => exact .cons (.ty _) ih
  exact ⟨va, p, _, _, _, b, rfl, hp, hc _, ra.ty ne.1 ne.2, kitAny_of _ e1, h.bl hs⟩

/-! ### s.upper(), xs.append(x), xs.extend(ys) -/
theorem up_eq (c : Nat) (h : c < 128) : PyProof.Rows.up1 c = upC c := by
  have : ∀ c < 128, PyProof.Rows.up1 c = upC c := by decide
  exact this c h
theorem upC_lt {c : Nat} (h : c < 128) : upC c < 128 := by unfold upC; split <;> omega
theorem px_upper {a : D} {va : V} (hs : RS K w S) (ha : RD K w a va) (h : Aft kx K W σ (RD K) w (pr .upper [a] S) Q) : tyV K "str" va w.H ∧ ∃ x, va = .str x ∧ ([] : List V) = [] ∧ x.length ≤ 5592405 ∧ Q (.str (Txt.upper x)) w.H := by
  cases a with
  | str s =>
    obtain ⟨rfl, ok⟩ := ha.strI
    simp only [pr] at h
    obtain ⟨hc, h⟩ := h.gd
    refine ⟨rfl, _, rfl, rfl, ?_, ?_⟩
    · rw [sv_len]; exact hc.2
    have e : Txt.upper (sv s) = sv (s.map upC) := by
      have := SX.upper_S (a := s) hc.1
      rw [show SX.S s = sv s from rfl] at this
      rw [this]
      show sv _ = sv _
      refine congrArg sv ?_
      apply List.map_congr_left
      intro c hm
      have h2 := hc.1
      rw [List.all_eq_true] at h2
      exact up_eq c (of_decide_eq_true (h2 c hm))
    rw [e]
    refine h.str hs ⟨by simpa using ok.1, ?_⟩
    rw [List.all_eq_true]
    intro c hm
    obtain ⟨d, hd, rfl⟩ := List.mem_map.mp hm
    have h2 := hc.1
    rw [List.all_eq_true] at h2
    have := upC_lt (of_decide_eq_true (h2 d hd))
    exact decide_eq_true (by omega)
  | _ => exact h.elim
theorem px_app {a b : D} {va vb : V} (hs : RS K w S) (ha : RD K w a va) (hb : RD K w b vb) (h : Aft kx K W σ (RD K) w (pr .app [a, b] S) Q) : tyV K "list" va w.H ∧ rAppend va [vb] w.H Q := by
  cases a with
  | loc n =>
    obtain ⟨p, rfl, e⟩ := ha.locI
    obtain ⟨m, e1, e2⟩ := hs.loc e
    simp only [pr, e1] at h
    cases m with
    | lst xs =>
      obtain ⟨vs, q1, q2, q3⟩ := e2
      obtain ⟨hc, h⟩ := h.gd
      have l := q3.length
      refine ⟨.inl ⟨rfl, vs, SqL.of q1⟩, p, vs, vb, rfl, rfl, q1, by rw [l, ← szL_eq]; exact hc, ?_⟩
      refine h .non (w.put p (.lst (vs ++ [vb]))) (Ext.put hs e) (hs.put e ⟨_, upd_same, by rw [List.length_append, List.length_singleton]; omega, ?_⟩) (by simp only [RD])
      exact RDs.ext (Ext.put hs e) _ _ (q3.append (RDs.cons hb RDs.nil))
    | _ => exact h.elim
  | _ => exact h.elim
theorem px_ext {a b : D} {va vb : V} (hs : RS K w S) (ha : RD K w a va) (hb : RD K w b vb) (h : Aft kx K W σ (RD K) w (pr .ext [a, b] S) Q) : tyV K "list" va w.H ∧ rExtend va [vb] w.H Q := by
  have rb := RV.of hs hb
  cases a with
  | loc n =>
    obtain ⟨p, rfl, e⟩ := ha.locI
    obtain ⟨m, e1, e2⟩ := hs.loc e
    simp only [pr, e1] at h
    generalize rs S b = b' at rb h
    cases m with
    | lst xs =>
      obtain ⟨vs, q1, q2, q3⟩ := e2
      cases b' with
      | lst ys =>
        obtain ⟨q, us, rfl, g1, g2, g3⟩ := rb.lstI
        obtain ⟨hc, h⟩ := h.gd
        have l := q3.length
        have l2 := g3.length
        refine ⟨.inl ⟨rfl, vs, SqL.of q1⟩, p, q, vs, us, rfl, rfl, q1, g1, by rw [l, l2, ← szL_eq]; exact hc, ?_⟩
        refine h .non (w.put p (.lst (vs ++ us))) (Ext.put hs e) (hs.put e ⟨_, upd_same, by simpa using hc, ?_⟩) (by simp only [RD])
        exact RDs.ext (Ext.put hs e) _ _ (q3.append g3)
      | _ => exact h.elim
    | _ => cases b' <;> exact h.elim
  | _ => exact h.elim
end
end Eng

/-! Eng6b -/
set_option Elab.async false
set_option linter.all false
set_option maxRecDepth 100000
set_option maxHeartbeats 4000000
/-! Dicts. -/
namespace Eng
open PySem PySem.Spec PyProof.Rows L2
section
variable {kx : Nat → Value} {K : PySem.W.Frag} {W : WX} {σ : L2.St} {w w' : Wd} {S : Sto} {Q : VK}

theorem inr_inj {a b : List Nat} : ((Sum.inr (sv a) : Key) = Sum.inr (sv b)) ↔ a = b := by
  constructor
  · intro h; exact sv_inj.mp (Sum.inr.inj h)
  · intro h; rw [h]
theorem KVs.val : ∀ {kvs : List (List Nat × D)} {ks : List (Key × V)} (k : List Nat), KVs K w kvs ks →
    (lookD k kvs = none ∧ valV ks (Sum.inr (sv k)) = none) ∨ ∃ d v, lookD k kvs = some d ∧ valV ks (Sum.inr (sv k)) = some v ∧ RD K w d v
  | [], ks, k, h => by rw [show ks = [] from h]; exact .inl ⟨rfl, rfl⟩
  | (s, d) :: r, ks, k, h => by
    obtain ⟨v, r', rfl, h1, h2⟩ := h
    by_cases e : s = k
    · subst e
      exact .inr ⟨d, v, by simp [lookD], valV_pos rfl, h1⟩
    · have e' : ¬ (Sum.inr (sv s) : Key) = Sum.inr (sv k) := fun z => e (inr_inj.mp z)
      rcases KVs.val k h2 with ⟨q1, q2⟩ | ⟨d', v', q1, q2, q3⟩
      · exact .inl ⟨by simp [lookD, e, q1], by rw [valV_neg e']; exact q2⟩
      · exact .inr ⟨d', v', by simp [lookD, e, q1], by rw [valV_neg e']; exact q2, q3⟩
theorem KVs.app : ∀ {kvs : List (List Nat × D)} {ks : List (Key × V)} {k : List Nat} {d : D} {v : V}, KVs K w kvs ks → RD K w d v → KVs K w (kvs ++ [(k, d)]) (ks ++ [(Sum.inr (sv k), v)])
  | [], ks, k, d, v, h, hd => by rw [show ks = [] from h]; exact ⟨v, [], rfl, hd, rfl⟩
  | (s, d') :: r, ks, k, d, v, h, hd => by
    obtain ⟨v', r', rfl, h1, h2⟩ := h
    exact ⟨v', _, rfl, h1, KVs.app h2 hd⟩
theorem KVs.rep : ∀ {kvs : List (List Nat × D)} {ks : List (Key × V)} {k : List Nat} {d : D} {v : V}, KVs K w kvs ks → RD K w d v →
    KVs K w (kvs.map fun kv => if kv.1 = k then (kv.1, d) else kv) (ks.map fun kv => if kv.1 = Sum.inr (sv k) then (kv.1, v) else kv)
  | [], ks, k, d, v, h, hd => by rw [show ks = [] from h]; exact rfl
  | (s, d') :: r, ks, k, d, v, h, hd => by
    obtain ⟨v', r', rfl, h1, h2⟩ := h
    by_cases e : s = k
    · subst e
      simp only [List.map_cons, if_true]
      exact ⟨v, _, rfl, hd, KVs.rep h2 hd⟩
    · have e' : ¬ (Sum.inr (sv s) : Key) = Sum.inr (sv k) := fun z => e (inr_inj.mp z)
      simp only [List.map_cons, if_neg e, if_neg e']
      exact ⟨v', _, rfl, h1, KVs.rep h2 hd⟩
theorem KVs.put {kvs : List (List Nat × D)} {ks : List (Key × V)} {k : List Nat} {d : D} {v : V} (h : KVs K w kvs ks) (hd : RD K w d v) : KVs K w (putD k d kvs) (putK ks (Sum.inr (sv k)) v) := by
  unfold putD putK
  rw [valV_any]
  rcases h.val k with ⟨q1, q2⟩ | ⟨d', v', q1, q2, _⟩
  · rw [q1, q2]
    simp only [Option.isSome_none, Bool.false_eq_true, if_false]
    exact h.app hd
  · rw [q1, q2]
    simp only [Option.isSome_some, if_true]
    exact h.rep hd
theorem putD_len {kvs : List (List Nat × D)} {k : List Nat} {d : D} : (putD k d kvs).length ≤ kvs.length + 1 := by
  unfold putD
  split <;> simp

/-- a text that is asked in a dict -/
theorem dget_of {n : Nat} {p : Addr} {kvs : List (List Nat × D)} {k : List Nat} (hs : RS K w S) (e : w.r[n]? = some p) (e1 : S[n]? = some (.dct kvs)) :
    (lookD k kvs = none ∧ DGet w.H p (.str (sv k)) none) ∨ ∃ d v, lookD k kvs = some d ∧ DGet w.H p (.str (sv k)) (some v) ∧ RD K w d v := by
  have q := hs.obj n p _ e e1
  obtain ⟨ks, q1, q2, q3⟩ := q
  rcases q3.val k with ⟨a1, a2⟩ | ⟨d, v, a1, a2, a3⟩
  · exact .inl ⟨a1, by rw [← a2]; exact DGet.k (k := Sum.inr (sv k)) q1⟩
  · exact .inr ⟨d, v, a1, by rw [← a2]; exact DGet.k (k := Sum.inr (sv k)) q1, a3⟩
theorem isD_of {n : Nat} {p : Addr} {kvs : List (List Nat × D)} (hs : RS K w S) (e : w.r[n]? = some p) (e1 : S[n]? = some (.dct kvs)) : IsD w.H p := by
  obtain ⟨ks, q1, _⟩ := hs.obj n p _ e e1
  exact .inl ⟨ks, .inl q1⟩

/-! ### k in d -/
def rInDi (neg : Bool) : R2 := fun y x H Q => ∃ a o, x = .ref a ∧ DGet H a y o ∧ Q (.bl (if neg then !o.isSome else o.isSome)) H
theorem op_inDi {X : Cx} (hu : X.A.units + 200 < cLine) : OpR X (compareOp .In) (rInDi false) := by
  intro pins s σ H x y v u Q I rx ry h
  obtain ⟨a, o, rfl, g, q⟩ := h
  cases ry
  exact d_in (by omega) I g rx fun s' I' => ⟨.bl o.isSome, H, I', rfl, q⟩
theorem op_notInDi {X : Cx} (hu : X.A.units + 200 < cLine) : OpR X (compareOp .NotIn) (rInDi true) := by
  intro pins s σ H x y v u Q I rx ry h
  obtain ⟨a, o, rfl, g, q⟩ := h
  cases ry
  exact d_notIn (by omega) I g rx fun s' I' => ⟨.bl (!o.isSome), H, I', rfl, q⟩
def rInA (K : PySem.W.Frag) (neg : Bool) : R2 := fun x y H Q => rInD2 K neg x y H Q ∨ rInDi neg x y H Q
theorem op_inA {X : Cx} (hu : X.A.units + 200 < cLine) : OpR X (compareOp .In) (rInA X.K false) := (op_isin hu).or (op_inDi hu)
theorem op_notInA {X : Cx} (hu : X.A.units + 200 < cLine) : OpR X (compareOp .NotIn) (rInA X.K true) := (op_notin hu).or (op_notInDi hu)
theorem px_inA {a b : D} {va vb : V} {neg : Bool} (hs : RS K w S) (ha : RD K w a va) (hb : RD K w b vb) (h : Aft kx K W σ (RD K) w (pr.isIn a (rs S b) S (!neg)) Q) : rInA K neg va vb w.H Q := by
  have rb := RV.of hs hb
  generalize hb' : rs S b = b' at rb h
  by_cases hl : ∃ n, b' = .loc n
  · obtain ⟨n, rfl⟩ := hl
    obtain ⟨p, rfl, e⟩ := rb.locI
    cases a with
    | str k =>
      obtain ⟨rfl, ok⟩ := ha.strI
      obtain ⟨m, e1, _⟩ := hs.loc e
      have h' : Aft kx K W σ (RD K) w (match S[n]? with
        | some (.dct kvs) => .ok (.bl (if (!neg) = true then (lookD k kvs).isSome else !(lookD k kvs).isSome)) S
        | _ => .no) Q := by
        cases k with
        | nil => exact h
        | cons _ r => cases r <;> exact h
      rw [e1] at h'
      cases m with
      | dct kvs =>
        right
        rcases dget_of (k := k) hs e e1 with ⟨q1, q2⟩ | ⟨d, v, q1, q2, q3⟩
        · refine ⟨p, none, rfl, q2, ?_⟩
          simp only [q1] at h'
          cases neg <;> exact h'.bl hs
        · refine ⟨p, some v, rfl, q2, ?_⟩
          simp only [q1] at h'
          cases neg <;> exact h'.bl hs
      | _ => exact h'.elim
    | _ => exact h.elim
  · exact .inl (px_in hs ha rb (fun n z => hl ⟨n, z⟩) h)

/-! ### d[k] -/
def rIxDi : R2 := fun x y H Q => ∃ a v, x = .ref a ∧ DGet H a y (some v) ∧ Q v H
theorem ix_dict {X : Cx} (hu : X.A.units + 200 < cLine) : IxR X rIxDi := by
  intro value slice pins s σ H x y v u Q I rx ry h hs
  obtain ⟨a, z, rfl, g, q⟩ := h
  cases rx
  exact tail_any (ops := [.ref a, u]) (dict_typeIs I g) PySem.F.slot_dict_getitem.lookup (d_getItem (by omega) I g ry fun w' s3 I3 rw' => ⟨z, H, I3, rw', q⟩) hs
def rIxA (K : PySem.W.Frag) : R2 := fun x y H Q => rIx K x y H Q ∨ rIxDi x y H Q
theorem ix_A {X : Cx} (hu : X.A.units + 200 < cLine) : IxR X (rIxA X.K) := ix_seq.or (ix_dict hu)
theorem KTs.val : ∀ {kvs : List (List (List Nat) × D)} {ks : List (List Key × V)} (k : List (List Nat)), KTs K w kvs ks →
    (lookD k kvs = none ∧ valV ks (k.map fun x => Sum.inr (sv x)) = none) ∨ ∃ d v, lookD k kvs = some d ∧ valV ks (k.map fun x => Sum.inr (sv x)) = some v ∧ RD K w d v
  | [], ks, k, h => by rw [show ks = [] from h]; exact .inl ⟨rfl, rfl⟩
  | (s, d) :: r, ks, k, h => by
    obtain ⟨v, r', rfl, h1, h2⟩ := h
    have inj : ∀ a b : List (List Nat), (a.map fun x => (Sum.inr (sv x) : Key)) = (b.map fun x => Sum.inr (sv x)) → a = b := by
      intro a
      induction a with
      | nil => intro b hb; cases b with
        | nil => rfl
        | cons _ _ => cases hb
      | cons x a ih => intro b hb; cases b with
        | nil => cases hb
        | cons y b =>
          simp only [List.map_cons, List.cons.injEq] at hb
          rw [inr_inj.mp hb.1, ih b hb.2]
    by_cases e : s = k
    · subst e
      exact .inr ⟨d, v, by simp [lookD], valV_pos rfl, h1⟩
    · have e' : ¬ (s.map fun x => (Sum.inr (sv x) : Key)) = k.map fun x => Sum.inr (sv x) := fun z => e (inj _ _ z)
      rcases KTs.val k h2 with ⟨q1, q2⟩ | ⟨d', v', q1, q2, q3⟩
      · exact .inl ⟨by simp [lookD, e, q1], by rw [valV_neg e']; exact q2⟩
      · exact .inr ⟨d', v', by simp [lookD, e, q1], by rw [valV_neg e']; exact q2, q3⟩
theorem strs_rds : ∀ {xs : List D} {vs : List V} {bs : List (List Nat)}, RDs K w xs vs → strsD xs = some bs → vs = (bs.map fun x => (Sum.inr (sv x) : Key)).map kV
  | [], vs, bs, h, e => by
    simp only [strsD, Option.some.injEq] at e
    subst e
    exact h.nil_inv
  | .str b :: r, vs, bs, h, e => by
    simp only [strsD] at e
    obtain ⟨bs', e1, rfl⟩ := Option.map_eq_some_iff.mp e
    obtain ⟨v, r', rfl, h1, h2⟩ := h.cons_inv
    rw [h1.strI.1, strs_rds h2 e1] <;> rfl
  | .non :: _, _, _, _, e => by simp [strsD] at e
  | .bl _ :: _, _, _, _, e => by simp [strsD] at e
  | .int _ :: _, _, _, _, e => by simp [strsD] at e
  | .tup _ :: _, _, _, _, e => by simp [strsD] at e
  | .lst _ :: _, _, _, _, e => by simp [strsD] at e
  | .loc _ :: _, _, _, _, e => by simp [strsD] at e
  | .scr _ :: _, _, _, _, e => by simp [strsD] at e
theorem px_idxA {a i : D} {va vi : V} (hs : RS K w S) (ha : RD K w a va) (hi : RD K w i vi) (h : Aft kx K W σ (RD K) w (pr .idx [a, i] S) Q) : rIxA K va vi w.H Q := by
  by_cases hl : ∃ n, rs S a = .loc n
  · obtain ⟨n, hn⟩ := hl
    have ra := RV.of hs ha
    simp only [pr] at h
    rw [hn] at ra h
    obtain ⟨p, rfl, e⟩ := ra.locI
    obtain ⟨m, e1, e2⟩ := hs.loc e
    cases i with
    | str k =>
      obtain ⟨rfl, ok⟩ := hi.strI
      simp only [e1] at h
      cases m with
      | dct kvs =>
        obtain ⟨x, ex, h⟩ := h.ofO
        rcases dget_of (k := k) hs e e1 with ⟨q1, q2⟩ | ⟨d, v, q1, q2, q3⟩
        · rw [q1] at ex; cases ex
        · rw [q1] at ex; cases ex
          exact .inr ⟨p, v, rfl, q2, h.val hs q3⟩
      | _ => exact h.elim
    | tup ks =>
      obtain ⟨b, vs, rfl, g1, g2, g3⟩ := hi.tupI
      simp only [e1] at h
      cases m with
      | dtt kvs =>
        cases ek : strsD ks with
        | none => simp only [ek] at h; exact h.elim
        | some k =>
          simp only [ek] at h
          obtain ⟨x, ex, h⟩ := h.ofO
          obtain ⟨ks', q1, q2, q3⟩ := e2
          have ev := strs_rds g3 ek
          rcases q3.val k with ⟨z1, z2⟩ | ⟨d, v, z1, z2, z3⟩
          · rw [z1] at ex; cases ex
          · rw [z1] at ex; cases ex
            exact .inr ⟨p, v, rfl, .inr ⟨ks', _, b, .inl q1, rfl, by rw [g1, ev], z2.symm⟩, h.val hs z3⟩
      | lst _ => cases strsD ks <;> exact h.elim
      | dct _ => cases strsD ks <;> exact h.elim
    | _ => exact h.elim
  · exact .inl (px_idx hs ha hi (fun n z => hl ⟨n, z⟩) h)

/-! ### d.get(k, x), d.setdefault(k, x), d[k] = x, {} -/
theorem px_get {a k d : D} {va vk vd : V} (hs : RS K w S) (ha : RD K w a va) (hk : RD K w k vk) (hd : RD K w d vd) (h : Aft kx K W σ (RD K) w (pr .get [a, k, d] S) Q) : ∃ p o, va = .ref p ∧ DGet w.H p vk o ∧ Q (o.getD vd) w.H := by
  cases a with
  | loc n =>
    obtain ⟨p, rfl, e⟩ := ha.locI
    obtain ⟨m, e1, e2⟩ := hs.loc e
    cases k with
    | str k =>
      obtain ⟨rfl, ok⟩ := hk.strI
      simp only [pr, e1] at h
      cases m with
      | dct kvs =>
        rcases dget_of (k := k) hs e e1 with ⟨q1, q2⟩ | ⟨d', v, q1, q2, q3⟩
        · simp only [q1] at h
          exact ⟨p, none, rfl, q2, h.val hs hd⟩
        · simp only [q1] at h
          exact ⟨p, some v, rfl, q2, h.val hs q3⟩
      | _ => exact h.elim
    | _ => exact h.elim
  | _ => cases k <;> exact h.elim
theorem px_setd {a k d : D} {va vk vd : V} (hs : RS K w S) (ha : RD K w a va) (hk : RD K w k vk) (hd : RD K w d vd) (h : Aft kx K W σ (RD K) w (pr .setd [a, k, d] S) Q) :
    ∃ p, va = .ref p ∧ ∃ (kvs : List (Key × V)) (y : Key), w.H p = some (.dK kvs) ∧ vk = kV y ∧ kvs.length < sizeLine ∧ (∀ v, valV kvs y = some v → Q v w.H) ∧ (valV kvs y = none → Q vd (upd w.H p (.dK (putK kvs y vd)))) := by
  cases a with
  | loc n =>
    obtain ⟨p, rfl, e⟩ := ha.locI
    obtain ⟨m, e1, e2⟩ := hs.loc e
    cases k with
    | str k =>
      obtain ⟨rfl, ok⟩ := hk.strI
      simp only [pr, e1] at h
      cases m with
      | dct kvs =>
        obtain ⟨ks, q1, q2, q3⟩ := e2
        have l := KVs.length q3
        dsimp only at h
        by_cases hz : kvs.length < szL
        · rw [if_pos hz] at h
          refine ⟨p, rfl, ks, Sum.inr (sv k), q1, rfl, by rw [l, ← szL_eq]; exact hz, fun v hv => ?_, fun hv => ?_⟩
          · rcases q3.val k with ⟨z1, z2⟩ | ⟨d', v', z1, z2, z3⟩
            · rw [z2] at hv; cases hv
            · rw [z2] at hv; cases hv
              rw [z1] at h
              exact h.val hs z3
          · rcases q3.val k with ⟨z1, z2⟩ | ⟨d', v', z1, z2, z3⟩
            · rw [z1] at h
              refine h vd (w.put p (.dK (putK ks (Sum.inr (sv k)) vd))) (Ext.put hs e) (hs.put e ⟨_, upd_same, ?_, KVs.ext (Ext.put hs e) _ _ (q3.put hd)⟩) (RD.ext (Ext.put hs e) _ _ hd)
              have := putD_len (kvs := kvs) (k := k) (d := d)
              omega
            · rw [z2] at hv; cases hv
        · rw [if_neg hz] at h; exact h.elim
      | _ => exact h.elim
    | _ => exact h.elim
  | _ => cases k <;> exact h.elim
theorem px_seti {a k d : D} {va vk vd : V} (hs : RS K w S) (ha : RD K w a va) (hk : RD K w k vk) (hd : RD K w d vd) (h : Aft kx K W σ (RD K) w (pr .seti [a, k, d] S) Q) :
    ∃ p H', va = .ref p ∧ DPut w.H p vk vd H' ∧ Q .non H' := by
  cases a with
  | loc n =>
    obtain ⟨p, rfl, e⟩ := ha.locI
    obtain ⟨m, e1, e2⟩ := hs.loc e
    cases k with
    | str k =>
      obtain ⟨rfl, ok⟩ := hk.strI
      simp only [pr, e1] at h
      cases m with
      | dct kvs =>
        obtain ⟨ks, q1, q2, q3⟩ := e2
        have l := KVs.length q3
        obtain ⟨hz, h⟩ := h.gd
        refine ⟨p, _, rfl, .inl ⟨ks, Sum.inr (sv k), q1, rfl, by rw [l, ← szL_eq]; exact hz, rfl⟩, ?_⟩
        refine h .non (w.put p (.dK (putK ks (Sum.inr (sv k)) vd))) (Ext.put hs e) (hs.put e ⟨_, upd_same, ?_, KVs.ext (Ext.put hs e) _ _ (q3.put hd)⟩) (by simp only [RD])
        have := putD_len (kvs := kvs) (k := k) (d := d)
        omega
      | _ => exact h.elim
    | _ => exact h.elim
  | _ => cases k <;> exact h.elim
theorem px_dnew (hs : RS K w S) (h : Aft kx K W σ (RD K) w (pr .dnew [] S) Q) : ∀ p, w.H p = none → Q (.ref p) (upd w.H p (.dK [])) := fun p hp => by
  simp only [pr] at h
  refine h (.ref p) (w.newM p (.dK [])) (Ext.newM hp) (hs.newM hp ⟨[], upd_same, by simp [szL], rfl⟩) ?_
  simp only [RD]
  exact ⟨p, rfl, by show (w.r ++ [p])[S.length]? = some p; rw [← hs.len]; simp⟩
end
end Eng

/-! Eng7 -/
set_option Elab.async false
set_option linter.all false
set_option maxRecDepth 100000
set_option maxHeartbeats 4000000
/-! From the program's text to the small language. -/
namespace Eng
open PySem PySem.Spec PyProof.Rows L2

/-- what the module's names are: constants, defs (number, how many arguments), classes of errors -/
structure GE where
  consts : List (Str × D)
  funs : List (Str × (Nat × Nat))
  excs : List (Str × Nat)
structure Ct where
  g : GE
  N : List Str
  sc : Scope

def idxOf (x : Str) : List Str → Option Nat
  | [] => none
  | y :: r => if y = x then some 0 else (idxOf x r).map (· + 1)
theorem idxOf_get {x : Str} : ∀ {N : List Str} {i : Nat}, idxOf x N = some i → N[i]? = some x
  | [], i, h => by cases h
  | y :: r, i, h => by
    unfold idxOf at h
    split at h
    · cases h; rename_i e; simp [e]
    · obtain ⟨j, h1, rfl⟩ := Option.map_eq_some_iff.mp h
      simpa using idxOf_get h1
def okName (x : Str) : Bool := !(x == ("__debug__" : Str)) && !(x == ("__classdict__" : Str)) && decide (x ≠ "__name__")
/-- a name that is read -/
def slotR (c : Ct) (x : Str) : Option Nat := if okName x then (match c.sc.names.lookup x with
  | some .local => idxOf x c.N
  | some .cell => idxOf x c.N
  | some .free => idxOf x c.N
  | _ => none) else none
/-- a name that is stored -/
def slotW (c : Ct) (x : Str) : Option Nat := match c.sc.names.lookup x with
  | some .local => idxOf x c.N
  | some .cell => idxOf x c.N
  | _ => none
def isGl (c : Ct) (x : Str) : Bool := okName x && (match c.sc.names.lookup x with
  | some .globalImplicit => true
  | _ => false)

def mapO {a b : Type} (f : a → Option b) : List a → Option (List b)
  | [] => some []
  | x :: xs => match f x with
    | none => none
    | some y => match mapO f xs with
      | none => none
      | some ys => some (y :: ys)

def trC : Const → Option E
  | .none => some (.con .non)
  | .bool b => some (.con (.bl b))
  | .int i => some (.con (.int i))
  | .str x => if x.length ≤ 10000 ∧ x.cps.toList.all (· < 1114112) = true then some (.con (.str x.cps.toList)) else none
  | _ => none
def bOp : Operator → Option Pr
  | .Add => some .add
  | .Sub => some .sub
  | .Mult => some .mul
  | .FloorDiv => some .fdiv
  | .Mod => some .mod
  | _ => none
def cOp : CmpOp → Option Pr
  | .Eq => some .eq
  | .NotEq => some .ne
  | .Lt => some .lt
  | .LtE => some .le
  | .Gt => some .gt
  | .GtE => some .ge
  | .In => some .isin
  | .NotIn => some .notin
  | _ => none
def b1 (x : Str) : Option Pr :=
  if x = "len" then some .len else if x = "all" then some .all else if x = "any" then some .any else if x = "sum" then some .sum
  else if x = "tuple" then some .tuple else if x = "list" then some .list else if x = "int" then some .int else if x = "max" then some .maxl else none
def b2 (x : Str) : Option Pr := if x = "min" then some .min2 else if x = "max" then some .max2 else none
def tyOf (x : Str) : Option Ty :=
  if x = "str" then some .str else if x = "tuple" then some .tup else if x = "int" then some .int else if x = "bool" then some .bool else if x = "list" then some .list else none
def tyE (c : Ct) : Expr → Option Ty
  | .Name x _ => if isGl c x then tyOf x else none
  | _ => none
/-- the built-ins' names that the module must not bind -/
def BN : List Str := ["len", "all", "any", "sum", "tuple", "list", "int", "max", "min", "str", "bool", "isinstance", "range", "enumerate", "zip", "sorted", "set", "dict"]
def m0 (m : Str) : Option Pr := if m = "upper" then some .upper else none
def m1 (m : Str) : Option Pr := if m = "append" then some .app else if m = "extend" then some .ext else none
def m2 (m : Str) : Option Pr := if m = "get" then some .get else if m = "setdefault" then some .setd else none
/-- no super().m -/
def okRecv : Expr → Bool
  | .Name _ _ => true
  | .Constant _ _ _ => true
  | .Attribute _ _ _ => true
  | .Subscript _ _ _ => true
  | .Call (.Name _ _) (_ :: _) _ _ => true
  | _ => false
/-- a comprehension's own names with their places -/
def ownOf (N : List Str) (scope : Scope) : List (Str × Nat) := scope.names.filterMap fun y => match y.2 with
  | .local => (idxOf y.1 N).map fun i => (y.1, i)
  | .cell => (idxOf y.1 N).map fun i => (y.1, i)
  | _ => none
def nameIx (c : Ct) : Expr → Option Nat
  | .Name x _ => slotW c x
  | _ => none
def trT (c : Ct) : Expr → Option (List Nat × Bool)
  | .Name x _ => (slotW c x).map fun i => ([i], false)
  | .Tuple es _ _ => (mapO (nameIx c) es).map fun is => (is, true)
  | _ => none
def isTupT : Expr → Bool
  | .Tuple _ _ _ => true
  | _ => false
def subCt (c : Ct) (scope : Scope) : Ct := { c with sc := relS scope c.sc }

abbrev Rec := Ct → Expr → Option E
section
variable (R : Rec) (c : Ct)
/-- what is walked -/
def trSrc (tg it : Expr) : Option (SK × List E) := match it with
  | .Call (.Name x p) args [] p2 =>
    if isGl c x = true ∧ c.g.funs.lookup x = none then
      (if x = "range" then (match args with
        | [a] => (R c a).map fun e => (.rng, [e])
        | [a, b] => match R c a, R c b with
          | some a', some b' => some (.rng, [a', b'])
          | _, _ => none
        | _ => none)
      else if x = "enumerate" then (match args with
        | [a] => if isTupT tg = true then (R c a).map fun e => (.enum, [e]) else none
        | _ => none)
      else if x = "zip" then (match args with
        | [a, b] => if isTupT tg = true then (match R c a, R c b with
          | some a', some b' => some (.zip, [a', b'])
          | _, _ => none) else none
        | _ => none)
      else (R c (.Call (.Name x p) args [] p2)).map fun e => (.seq, [e]))
    else (R c (.Call (.Name x p) args [] p2)).map fun e => (.seq, [e])
  | it => (R c it).map fun e => (.seq, [e])
def trCall (f : Str) (args : List Expr) : Option E := if isGl c f = true then (match c.g.funs.lookup f with
  | some (i, ar) => if args.length = ar ∧ 0 < ar then (mapO (R c) args).map fun es => .call i es else none
  | none => if f ∈ BN then (match args with
    | [a] => match b1 f, R c a with
      | some p, some a' => some (.pr p [a'])
      | _, _ => none
    | [a, b] => if f = "isinstance" then (match b with
        | .Tuple (t :: ts) _ _ => if ts.length ≤ 100 then (match R c a, mapO (tyE c) (t :: ts) with
          | some a', some ts' => some (.pr (.isi ts') [a'])
          | _, _ => none) else none
        | b => match R c a, tyE c b with
          | some a', some t => some (.pr (.isi [t]) [a'])
          | _, _ => none)
      else match b2 f, R c a, R c b with
        | some p, some a', some b' => some (.pr p [a', b'])
        | _, _, _ => none
    | _ => none) else none) else none
def trMeth (o : Expr) (m : Str) (args : List Expr) : Option E := match args with
  | [] => match m0 m, R c o with
    | some p, some o' => some (.mth p o' [])
    | _, _ => none
  | [a] => match m1 m, R c o, R c a with
    | some p, some o', some a' => some (.mth p o' [a'])
    | _, _, _ => none
  | [a, b] => match m2 m, R c o, R c a, R c b with
    | some p, some o', some a', some b' => some (.mth p o' [a', b'])
    | _, _, _, _ => none
  | _ => none
def trComp (elt tg it : Expr) (ifs : List Expr) (scope : Scope) : Option E :=
  if blkC c.N c.sc scope (ownOf c.N scope) = true then
    match trT (subCt c scope) tg, trSrc R c tg it, mapO (R (subCt c scope)) ifs, R (subCt c scope) elt with
    | some (is, un), some (k, es), some cs, some e' => if is.all (fun i => ((ownOf c.N scope).map (·.2)).contains i) = true ∧ cs.length ≤ 1 then some (.comp ((ownOf c.N scope).map (·.2)) is un k es cs e') else none
    | _, _, _, _ => none
  else none
def trCmp (a : Expr) : List CmpOp → List Expr → Option E
  | [op], [b] => (match op with
    | .Is => match b with
      | .Constant k _ _ => (match R c a, trC k with
        | some a', some (.con d) => some (.pr (.isc d) [a'])
        | _, _ => none)
      | _ => none
    | .IsNot => match b with
      | .Constant k _ _ => (match R c a, trC k with
        | some a', some (.con d) => some (.pr (.isntc d) [a'])
        | _, _ => none)
      | _ => none
    | op => match cOp op, R c a, R c b with
      | some p, some a', some b' => some (.pr p [a', b'])
      | _, _, _ => none)
  | [o1, o2], [b, d] => match cOp o1, cOp o2, R c a, R c b, R c d with
    | some p, some q, some a', some b', some d' => some (.chn p q a' b' d')
    | _, _, _, _, _ => none
  | _, _ => none
def trSub (v i : Expr) : Option E := match i with
  | .Slice lo hi st _ => (match st with
    | none => (match lo, hi with
      | none, none => (R c v).map fun v' => .pr (.slc false false) [v']
      | some l, none => match R c v, R c l with
        | some v', some l' => some (.pr (.slc true false) [v', l'])
        | _, _ => none
      | none, some h => match R c v, R c h with
        | some v', some h' => some (.pr (.slc false true) [v', h'])
        | _, _ => none
      | some l, some h => match R c v, R c l, R c h with
        | some v', some l', some h' => some (.pr (.slc true true) [v', .pr .asint [l'], h'])
        | _, _, _ => none)
    | some (.UnaryOp .USub (.Constant (.int 1) _ _) _) => (match lo, hi with
      | none, none => (R c v).map fun v' => .pr .rev [v']
      | _, _ => none)
    | _ => none)
  | i => match R c v, R c i with
    | some v', some i' => some (.pr .idx [v', i'])
    | _, _ => none
def trF : Expr → Option E
  | .Constant k _ _ => trC k
  | .Name x _ => match slotR c x with
    | some i => some (.var i)
    | none => if isGl c x = true then (c.g.consts.lookup x).map .con else none
  | .Tuple es _ _ => if es.length ≤ 1000 then (mapO (R c) es).map .tup else none
  | .List es _ => if es.length ≤ 1000 then (mapO (R c) es).map .lst else none
  | .BinOp a op b _ => match bOp op, R c a, R c b with
    | some p, some a', some b' => some (.pr p [a', b'])
    | _, _, _ => none
  | .UnaryOp op a _ => match op with
    | .Not => (R c a).map fun a' => .pr .not [a']
    | .USub => (R c a).map fun a' => .pr .neg [a']
    | _ => none
  | .BoolOp op vs pos => match vs with
    | [a] => R c a
    | a :: b :: r => match R c a, R c (.BoolOp op (b :: r) pos) with
      | some a', some b' => some (match op with | .And => .and a' b' | .Or => .or a' b')
      | _, _ => none
    | [] => none
  | .Compare a ops cs _ => trCmp R c a ops cs
  | .IfExp t a b _ => match R c t, R c a, R c b with
    | some t', some a', some b' => some (.ite t' a' b')
    | _, _, _ => none
  | .Subscript v i _ => trSub R c v i
  | .Call fn args kws pos => (match kws with
    | [] => (match fn with
      | .Name f _ => trCall R c f args
      | .Attribute o m apos => if okRecv o = true ∧ (apos.endLine == pos.line) = true then trMeth R c o m args else none
      | _ => none)
    | _ :: _ => none)
  | .ListComp elt gs scope _ => (match gs with
    | [⟨tg, it, ifs, a⟩] => if a = 0 then trComp R c elt tg it ifs scope else none
    | _ => none)
  | .Dict ks vs _ => (match ks, vs with
    | [], [] => some (.pr .dnew [])
    | _, _ => none)
  | _ => none
end
def trE : Nat → Rec
  | 0 => fun _ _ => none
  | n + 1 => fun c e => trF (trE n) c e
end Eng

/-! Eng8 -/
set_option Elab.async false
set_option linter.all false
set_option maxRecDepth 100000
set_option maxHeartbeats 4000000
/-! The readings; contexts; targets; what is walked. -/
namespace Eng
open PySem PySem.Spec PyProof.Rows L2

theorem PE.imp {X : Cx} {e : Expr} {t t' : TE} (h : PE X e t) (hi : ∀ σ H Q, t' σ H Q → t σ H Q) : PE X e t' := ⟨fun pins s σ H Q I q => h.run pins s σ H Q I (hi σ H Q q)⟩
theorem PT.imp {X : Cx} {e : Expr} {t t' : TT} (h : PT X e t) (hi : ∀ σ H Q, t' σ H Q → t σ H Q) : PT X e t' := ⟨fun pins s σ H Q I q => h.run pins s σ H Q I (hi σ H Q q)⟩
theorem PW.imp {X : Cx} {e : Expr} {t t' : TT} (h : PW X e t) (hi : ∀ σ H Q, t' σ H Q → t σ H Q) : PW X e t' := ⟨fun wh pins s σ H Q I q => h.run wh pins s σ H Q I (hi σ H Q q)⟩
theorem PA.imp {X : Cx} {e : List Expr} {t t' : TA} (h : PA X e t) (hi : ∀ σ H Q, t' σ H Q → t σ H Q) : PA X e t' := ⟨fun pos pins s σ H Q I q => h.run pos pins s σ H Q I (hi σ H Q q)⟩
theorem PTs.imp {X : Cx} {e : List Expr} {t t' : TT} (h : PTs X e t) (hi : ∀ σ H Q, t' σ H Q → t σ H Q) : PTs X e t' := ⟨fun pins s σ H Q I q => h.run pins s σ H Q I (hi σ H Q q)⟩
theorem PI.imp {X : Cx} {tg e : Expr} {t t' : TI} (h : PI X tg e t) (hi : ∀ σ H Q, t' σ H Q → t σ H Q) : PI X tg e t' := ⟨fun pins s σ H Q I q => h.run pins s σ H Q I (hi σ H Q q)⟩
theorem PS.imp {X : Cx} {e : Stmt} {t t' : TS} (h : PS X e t) (hi : ∀ D σ H, t' D σ H → t D σ H) : PS X e t' := ⟨fun pins s σ H D I q => h.run pins s σ H D I (hi D σ H q)⟩
theorem PSs.imp {X : Cx} {e : List Stmt} {t t' : TS} (h : PSs X e t) (hi : ∀ D σ H, t' D σ H → t D σ H) : PSs X e t' := ⟨fun pins s σ H D I q => h.run pins s σ H D I (hi D σ H q)⟩

section
variable (kx : Nat → Value) (K : PySem.W.Frag) (W : WX)
def RdE (m : Env → Sto → Res D) : TE := fun σ H Q => ∃ w s S, w.H = H ∧ StR K w σ s ∧ RS K w S ∧ Aft kx K W σ (RD K) w (m s S) Q
def RdA (m : Env → Sto → Res (List D)) : TA := fun σ H Q => ∃ w s S, w.H = H ∧ StR K w σ s ∧ RS K w S ∧ Aft kx K W σ (RDs K) w (m s S) Q
def RdT (m : Env → Sto → Res Bool) : TT := fun σ H Q => ∃ w s S, w.H = H ∧ StR K w σ s ∧ RS K w S ∧ Aft kx K W σ (fun _ b b' => b = b') w (m s S) Q
end
/-- the promise of a def -/
def spF (kx : Nat → Value) (K : PySem.W.Frag) (ar : Nat) (g : List D → Sto → Res D) : Sp := fun vs H Q E =>
  ∃ w ds S, w.H = H ∧ RS K w S ∧ RDs K w ds vs ∧ ds.length = ar ∧ Aft kx K (fun cls d _ H => E cls d H) [] (RD K) w (g ds S) Q

structure CxOk (c : Ct) (G : Nat → List D → Sto → Res D) (k : Nat) (kx : Nat → Value) (X : Cx) : Prop where
  hN : X.N = c.N
  nd : c.N.Nodup
  sc : X.env.scope = c.sc
  calm : X.calm = true
  room : Room k X.A
  con : ∀ x d, c.g.consts.lookup x = some d → ∃ v u, X.mg x = some u ∧ RelV v u ∧ ∀ w, RD X.K w d v
  bui : ∀ x ∈ BN, X.mg x = none
  fns : ∀ x i ar, c.g.funs.lookup x = some (i, ar) → ∃ f fd ps, X.mg x = some (.ref f) ∧ PySem.W.keepIn X.K (.ref f) = true ∧ Binds X.K fd ps [] ∧ ps.length = ar ∧
    FnOk X.prog X.w X.K X.mg X.base (L2.CX X.prog X.w) k f fd ps (spF kx X.K ar (G i))

section
variable {c : Ct} {G : Nat → List D → Sto → Res D} {k : Nat} {kx : Nat → Value} {X : Cx}
theorem CxOk.units (h : CxOk c G k kx X) : X.A.units + 200 < cLine := by have := h.room.un; omega
theorem CxOk.gl (h : CxOk c G k kx X) {x : Str} (e : isGl c x = true) : Gl X x ∧ (x == ("__debug__" : Str)) = false ∧ (x == ("__classdict__" : Str)) = false ∧ x ≠ "__name__" := by
  unfold isGl at e
  rw [Bool.and_eq_true] at e
  obtain ⟨e1, e2⟩ := e
  unfold okName at e1
  simp only [Bool.and_eq_true, Bool.not_eq_true', decide_eq_true_eq] at e1
  refine ⟨?_, e1.1.1, e1.1.2, e1.2⟩
  unfold Gl PySem.Env.kindOf
  rw [h.sc]
  split at e2
  · assumption
  · cases e2
theorem CxOk.slot (h : CxOk c G k kx X) {x : Str} {i : Nat} (e : slotR c x = some i) : X.N[i]? = some x ∧ Vis X.env.scope x ∧ (x == ("__debug__" : Str)) = false ∧ (x == ("__classdict__" : Str)) = false := by
  unfold slotR at e
  split at e
  · rename_i e1
    unfold okName at e1
    simp only [Bool.and_eq_true, Bool.not_eq_true', decide_eq_true_eq] at e1
    rw [h.hN, h.sc]
    split at e
    · exact ⟨idxOf_get e, .inl (by assumption), e1.1.1, e1.1.2⟩
    · exact ⟨idxOf_get e, .inr (.inl (by assumption)), e1.1.1, e1.1.2⟩
    · exact ⟨idxOf_get e, .inr (.inr (by assumption)), e1.1.1, e1.1.2⟩
    · cases e
  · cases e
theorem CxOk.slotw (h : CxOk c G k kx X) {x : Str} {i : Nat} (e : slotW c x = some i) : X.N[i]? = some x ∧ Loc X.env.scope x := by
  unfold slotW at e
  rw [h.hN, h.sc]
  split at e
  · exact ⟨idxOf_get e, .inl (by assumption)⟩
  · exact ⟨idxOf_get e, .inr (by assumption)⟩
  · cases e
end

/-! ### targets -/
def setsV : List Nat → List V → L2.St → L2.St
  | i :: is, v :: vs, σ => setsV is vs (σ.set i (some v))
  | _, _, σ => σ
def gT (K : PySem.W.Frag) (is : List Nat) (un : Bool) : TG := match un with
  | false => fun v σ H Q => ∃ i, is = [i] ∧ Q (σ.set i (some v)) H
  | true => fun v σ H Q => ∃ a xs, v = .ref a ∧ SqT K H a xs ∧ xs.length = is.length ∧ Q (setsV is xs σ) H
def gsT : List Nat → TGs
  | [] => gNil
  | i :: is => gCons (gName i) (gsT is)
theorem gsT_of : ∀ (is : List Nat) (xs : List V) (σ : L2.St) (H : Hp) (Q : L2.St → Hp → Prop), xs.length = is.length → Q (setsV is xs σ) H → gsT is xs σ H Q
  | [], xs, σ, H, Q, hl, h => by
    have e : xs = [] := List.eq_nil_of_length_eq_zero hl
    subst e
    exact ⟨rfl, h⟩
  | i :: is, [], σ, H, Q, hl, h => by simp at hl
  | i :: is, v :: vs, σ, H, Q, hl, h => ⟨v, vs, rfl, gsT_of is vs _ H Q (by simpa using hl) h⟩
section
variable {c : Ct} {G : Nat → List D → Sto → Res D} {k : Nat} {kx : Nat → Value} {X : Cx}
/-- what may be stored here -/
def FnW (c : Ct) (X : Cx) (is : List Nat) : Prop := ∀ x i, slotW c x = some i → i ∈ is → X.fn x = true ∨ X.env.scope.names.lookup x = some .local
theorem each_names {env : PySem.Env} : ∀ {es : List Expr} {is : List Nat}, mapO (nameIx c) es = some is → (assignEach es env).length = is.length ∧ (assignEach es env).findIdx? (·.1) = none
  | [], is, h => by
    simp only [mapO, Option.some.injEq] at h
    subst h
    exact ⟨rfl, rfl⟩
  | e :: es, is, h => by
    unfold mapO at h
    cases q : nameIx c e with
    | none => rw [q] at h; cases h
    | some i =>
      rw [q] at h
      cases q2 : mapO (nameIx c) es with
      | none => simp only [q2] at h; cases h
      | some r =>
        simp only [q2, Option.some.injEq] at h
        subst h
        obtain ⟨h1, h2⟩ := each_names (env := env) q2
        cases e with
        | Name x p =>
          have e1 : assignEach (.Name x p :: es) env = (false, assign (.Name x p) env) :: assignEach es env := rfl
          rw [e1]
          refine ⟨by simp [h1], ?_⟩
          rw [List.findIdx?_cons]
          simp [h2]
        | _ => simp only [nameIx] at q; cases q
theorem pgs_of (h : CxOk c G k kx X) : ∀ {es : List Expr} {is : List Nat}, mapO (nameIx c) es = some is → FnW c X is → PGs X es (gsT is)
  | [], is, e, _ => by
    simp only [mapO, Option.some.injEq] at e
    subst e
    exact pgs_nil
  | e :: es, is, he, hf => by
    unfold mapO at he
    cases q : nameIx c e with
    | none => rw [q] at he; cases he
    | some i =>
      rw [q] at he
      cases q2 : mapO (nameIx c) es with
      | none => simp only [q2] at he; cases he
      | some r =>
        simp only [q2, Option.some.injEq] at he
        subst he
        cases e with
        | Name x p =>
          simp only [nameIx] at q
          obtain ⟨h1, h2⟩ := h.slotw q
          exact pgs_cons (pg_name (i := i) (by rw [h.hN]; exact h.nd) h1 h2 (hf x i q List.mem_cons_self)) (pgs_of h q2 fun y j e m => hf y j e (List.mem_cons_of_mem _ m))
        | _ => simp only [nameIx] at q; cases q
theorem pg_of (h : CxOk c G k kx X) {tg : Expr} {is : List Nat} {un : Bool} (e : trT c tg = some (is, un)) (hf : FnW c X is) : PG X tg (gT X.K is un) := by
  cases tg with
  | Name x p =>
    simp only [trT] at e
    obtain ⟨i, e1, e2⟩ := Option.map_eq_some_iff.mp e
    cases e2
    obtain ⟨h1, h2⟩ := h.slotw e1
    have q := pg_name (X := X) (i := i) (pos := p) (by rw [h.hN]; exact h.nd) h1 h2 (hf x i e1 List.mem_cons_self)
    refine ⟨fun pins s σ H v u Q I r hw => ?_⟩
    obtain ⟨j, ej, hw⟩ := hw
    cases ej
    exact q.run pins s σ H v u Q I r hw
  | Tuple es kk p =>
    simp only [trT] at e
    obtain ⟨is', e1, e2⟩ := Option.map_eq_some_iff.mp e
    cases e2
    obtain ⟨h1, h2⟩ := each_names (env := X.env) e1
    have q := pg_tup (X := X) (k := kk) (pos := p) (n := is.length) h.calm (pgs_of h e1 hf) h1 h2
    refine ⟨fun pins s σ H v u Q I r hw => ?_⟩
    obtain ⟨a, xs, ev, hq, hl, hw⟩ := hw
    exact q.run pins s σ H v u Q I r ⟨a, xs, ev, hq, hl, gsT_of is xs σ H Q hl hw⟩
  | _ => simp only [trT] at e; cases e
end

/-! ### stores and the slots -/
section
variable {K : PySem.W.Frag} {w : Wd}
theorem StR.set {σ : L2.St} {s : Env} {i : Nat} {d : D} {v : V} (h : StR K w σ s) (hd : RD K w d v) : StR K w (σ.set i (some v)) (s.set i (some d)) := by
  refine ⟨by simp [h.len], fun j d' e => ?_⟩
  by_cases hj : j = i
  · subst hj
    have hl : j < (s.set j (some d)).length := (List.getElem?_eq_some_iff.mp e).1
    rw [List.length_set] at hl
    rw [List.getElem?_set_self hl] at e
    cases e
    exact ⟨v, by rw [List.getElem?_set_self (by rw [h.len]; exact hl)], hd⟩
  · rw [List.getElem?_set_ne (Ne.symm hj)] at e
    obtain ⟨u, e1, e2⟩ := h.at_ j d' e
    exact ⟨u, by rw [List.getElem?_set_ne (Ne.symm hj)]; exact e1, e2⟩
theorem StR.sets : ∀ {is : List Nat} {ds : List D} {vs : List V} {σ : L2.St} {s : Env}, StR K w σ s → RDs K w ds vs → StR K w (setsV is vs σ) (Eng.sets is ds s)
  | [], ds, vs, σ, s, h, hd => by simpa [setsV, Eng.sets] using h
  | i :: is, [], vs, σ, s, h, hd => by rw [hd.nil_inv]; simpa [setsV, Eng.sets] using h
  | i :: is, d :: ds, vs, σ, s, h, hd => by
    obtain ⟨v, r, rfl, h1, h2⟩ := hd.cons_inv
    show StR K w (setsV is r (σ.set i (some v))) (Eng.sets is ds (s.set i (some d)))
    exact StR.sets (h.set h1) h2
theorem StR.unset {σ : L2.St} {s : Env} {i : Nat} (h : StR K w σ s) : StR K w (σ.set i none) (s.set i none) := by
  refine ⟨by simp [h.len], fun j d' e => ?_⟩
  by_cases hj : j = i
  · subst hj
    have hl : j < (s.set j none).length := (List.getElem?_eq_some_iff.mp e).1
    rw [List.length_set] at hl
    rw [List.getElem?_set_self hl] at e
    cases e
  · rw [List.getElem?_set_ne (Ne.symm hj)] at e
    obtain ⟨u, e1, e2⟩ := h.at_ j d' e
    exact ⟨u, by rw [List.getElem?_set_ne (Ne.symm hj)]; exact e1, e2⟩
theorem StR.wipe {σ : L2.St} {s : Env} (h : StR K w σ s) : ∀ vs : List Nat, StR K w (L2.wipe σ vs) (Eng.wipe s vs)
  | [] => h
  | v :: vs => (StR.wipe h vs).unset
theorem wipe_set {σ : L2.St} {i : Nat} {x : Option V} : ∀ {vs : List Nat}, i ∈ vs → L2.wipe (σ.set i x) vs = L2.wipe σ vs
  | [], h => by simp at h
  | v :: vs, h => by
    unfold L2.wipe
    by_cases hv : i ∈ vs
    · rw [wipe_set hv]
    · have e : i = v := by
        rcases List.mem_cons.mp h with e | e
        · exact e
        · exact absurd e hv
      subst e
      have comm : ∀ (l : List Nat), i ∉ l → L2.wipe (σ.set i x) l = (L2.wipe σ l).set i x := by
        intro l
        induction l with
        | nil => intro _; rfl
        | cons a l ih =>
          intro hn
          simp only [List.mem_cons, not_or] at hn
          unfold L2.wipe
          rw [ih hn.2, List.set_comm _ _ hn.1]
      rw [comm vs hv, List.set_set]
theorem wipe_sets : ∀ {is : List Nat} {xs : List V} {σ : L2.St} {vs : List Nat}, (∀ i ∈ is, i ∈ vs) → L2.wipe (setsV is xs σ) vs = L2.wipe σ vs
  | [], xs, σ, vs, h => by simp [setsV]
  | i :: is, [], σ, vs, h => by simp [setsV]
  | i :: is, x :: xs, σ, vs, h => by
    show L2.wipe (setsV is xs (σ.set i (some x))) vs = _
    rw [wipe_sets fun j hj => h j (List.mem_cons_of_mem _ hj), wipe_set (h i List.mem_cons_self)]
theorem wipe_idem {σ : L2.St} (vs : List Nat) : L2.wipe (L2.wipe σ vs) vs = L2.wipe σ vs := by
  have h : ∀ (ws : List Nat) (τ : L2.St), (∀ i ∈ ws, i ∈ vs) → L2.wipe (L2.wipe τ ws) vs = L2.wipe τ vs := by
    intro ws
    induction ws with
    | nil => intro τ _; rfl
    | cons a ws ih =>
      intro τ hs
      show L2.wipe ((L2.wipe τ ws).set a none) vs = _
      rw [wipe_set (hs a List.mem_cons_self), ih τ fun i hi => hs i (List.mem_cons_of_mem _ hi)]
  exact h vs σ fun i hi => hi
/-- the target takes an item -/
theorem gT_of {is : List Nat} {un : Bool} {d : D} {v : V} {σ : L2.St} {s s' : Env} {Q : L2.St → Hp → Prop} (h : StR K w σ s) (hd : RD K w d v) (e : bindT is un d s = some s')
    (hq : ∀ σ', StR K w σ' s' → (∀ vs, (∀ i ∈ is, i ∈ vs) → L2.wipe σ' vs = L2.wipe σ vs) → Q σ' w.H) : gT K is un v σ w.H Q := by
  cases un with
  | false =>
    unfold bindT at e
    cases is with
    | nil => cases e
    | cons i r =>
      cases r with
      | nil =>
        simp only [Option.some.injEq] at e
        subst e
        exact ⟨i, rfl, hq _ (h.set hd) fun vs hv => wipe_set (hv i List.mem_cons_self)⟩
      | cons _ _ => cases e
  | true =>
    unfold bindT at e
    cases d with
    | tup xs =>
      simp only at e
      split at e
      · rename_i hl
        cases e
        obtain ⟨a, vs, rfl, h1, h2, h3⟩ := hd.tupI
        exact ⟨a, vs, rfl, SqT.of h1, by rw [h3.length]; exact hl, hq _ (h.sets h3) fun us hv => wipe_sets hv⟩
      · cases e
    | _ => cases e
end

/-! ### what is walked -/
/-- J goes over these items, as long as the store's list stands -/
def WalkD (K : PySem.W.Frag) (w1 : Wd) (p : List D × Option Nat) (J : It) : Prop := ∀ w2 S2, Ext w1 w2 → RS K w2 S2 → chk p.1 p.2 S2 = true →
  J.stop p.1.length w2.H ∧ ∀ (i : Nat) (d : D), p.1[i]? = some d → J.go i w2.H ∧ ∀ v H', J.yld i w2.H v H' → ∃ w3, w3.H = H' ∧ Ext w2 w3 ∧ RS K w3 S2 ∧ RD K w3 d v
def srcR (k : SK) (ds : List D) (S : Sto) : Res (List D × Option Nat) := ofO (items k ds S) S
def RdI (kx : Nat → Value) (K : PySem.W.Frag) (W : WX) (m : Env → Sto → Res (List D × Option Nat)) : TI := fun σ H Q => ∃ w s S, w.H = H ∧ StR K w σ s ∧ RS K w S ∧ Aft kx K W σ (WalkD K) w (m s S) Q
section
variable {K : PySem.W.Frag} {w : Wd} {S : Sto}
theorem walk_lst {xs : List D} {a : Addr} {vs : List V} (h1 : LsA w a vs) (h3 : RDs K w xs vs) : WalkD K w (xs, none) (Itl K a) := fun w2 S2 x rs _ => by
  have q := (h1.ext x).2
  have r := RDs.ext x _ _ h3
  refine ⟨⟨vs, SqL.of q, by rw [r.length]; exact Nat.le_refl _⟩, fun i d e => ?_⟩
  obtain ⟨v, e1, e2⟩ := r.get e
  refine ⟨⟨vs, v, SqL.of q, e1⟩, fun v' H' y => ?_⟩
  obtain ⟨rfl, y⟩ := y
  have := y vs (SqL.of q)
  rw [e1] at this; cases this
  exact ⟨w2, rfl, Ext.refl _, rs, e2⟩
theorem walk_tup {xs : List D} {a : Addr} {vs : List V} (h1 : w.H a = some (.tup vs)) (h3 : RDs K w xs vs) : WalkD K w (xs, none) (Itt K a) := fun w2 S2 x rs _ => by
  have q := x.tup _ _ h1
  have r := RDs.ext x _ _ h3
  refine ⟨⟨vs, SqT.of q, by rw [r.length]; exact Nat.le_refl _⟩, fun i d e => ?_⟩
  obtain ⟨v, e1, e2⟩ := r.get e
  refine ⟨⟨vs, v, SqT.of q, e1⟩, fun v' H' y => ?_⟩
  obtain ⟨rfl, y⟩ := y
  have := y vs (SqT.of q)
  rw [e1] at this; cases this
  exact ⟨w2, rfl, Ext.refl _, rs, e2⟩
theorem walk_loc {xs : List D} {n : Nat} {a : Addr} (e : w.r[n]? = some a) : WalkD K w (xs, some n) (Itl K a) := fun w2 S2 x rs hc => by
  have e2 := rho_get x e
  have hc : S2[n]? = some (.lst xs) := of_decide_eq_true hc
  obtain ⟨vs, q, _, r⟩ := rs.obj n a _ e2 hc
  refine ⟨⟨vs, SqL.of q, by rw [r.length]; exact Nat.le_refl _⟩, fun i d e => ?_⟩
  obtain ⟨v, e1, e2⟩ := r.get e
  refine ⟨⟨vs, v, SqL.of q, e1⟩, fun v' H' y => ?_⟩
  obtain ⟨rfl, y⟩ := y
  have := y vs (SqL.of q)
  rw [e1] at this; cases this
  exact ⟨w2, rfl, Ext.refl _, rs, e2⟩
theorem walk_str {s : List Nat} (ok : okS s) : WalkD K w (s.map fun c => .str [c], none) (Its (sv s)) := fun w2 S2 x rs _ => by
  refine ⟨by show (sv s).cps.size ≤ _; simp [sv], fun i d e => ?_⟩
  rw [List.getElem?_map] at e
  obtain ⟨c, e1, rfl⟩ := Option.map_eq_some_iff.mp e
  refine ⟨by show i < (sv s).cps.size; simpa [sv] using (List.getElem?_eq_some_iff.mp e1).1, fun v' H' y => ?_⟩
  obtain ⟨rfl, c', e2, rfl⟩ := y
  have e3 : (sv s).cps[i]? = s[i]? := by simp [sv]
  rw [e3, e1] at e2
  cases e2
  refine ⟨w2, rfl, Ext.refl _, rs, ?_⟩
  simp only [RD]
  exact ⟨rfl, ok.one (List.mem_of_getElem? e1)⟩
theorem walk_rng {lo : Int} {n : Nat} : WalkD K w ((List.range n).map fun (i : Nat) => .int (lo + i), none) (Itr lo n) := fun w2 S2 x rs _ => by
  refine ⟨by show n ≤ _; simp, fun i d e => ?_⟩
  rw [List.getElem?_map] at e
  obtain ⟨c, e1, rfl⟩ := Option.map_eq_some_iff.mp e
  obtain ⟨h1, h2⟩ := List.getElem?_eq_some_iff.mp e1
  simp at h1 h2
  subst h2
  refine ⟨h1, fun v' H' y => ?_⟩
  obtain ⟨rfl, rfl⟩ := y
  exact ⟨w2, rfl, Ext.refl _, rs, by simp only [RD]⟩
end
/-- a list, a tuple, a text -/
def iAny (K : PySem.W.Frag) (tl : TE) : TI := fun σ H R => tl σ H fun x H1 => (∃ a, x = .ref a ∧ (∃ xs, SqL K H1 a xs) ∧ R (Itl K a) H1) ∨ (∃ a, x = .ref a ∧ (∃ xs, SqT K H1 a xs) ∧ R (Itt K a) H1) ∨ ∃ z, x = .str z ∧ R (Its z) H1
theorem pi_any {X : Cx} {tg l : Expr} {tl : TE} (hl : PE X l tl) : PI X tg l (iAny X.K tl) := by
  refine ⟨fun pins s σ H R I h => ?_⟩
  refine thn (hl.run pins s σ H _ I h) fun v s1 ⟨x, H1, I1, r1, q1⟩ => ?_
  rcases q1 with ⟨a, e, ⟨xs, hq⟩, q⟩ | ⟨a, e, ⟨xs, hq⟩, q⟩ | ⟨z, e, q⟩
  · subst e
    cases r1
    obtain ⟨its, rv, p, hz⟩ := I1.list hq
    refine wpAny_pyIter_list p.isList ?_
    refine ⟨s1.heap.objs.size, [s1.heap.objs.size], _, _, H1, rfl, I1.kept (t' := s1.toks) fun b o e => Heap.get?_push_of_some _ e, turn_list a _, ⟨_, Heap.get?_push_size _ rfl, rfl, rfl⟩, fun b hb => ?_, q⟩
    have e : b = s1.heap.objs.size := by simpa using hb
    subst e
    exact I1.fpOk (Nat.le_refl _) (I1.hok.fresh (Nat.le_refl _))
  · subst e
    cases r1
    obtain ⟨its, rv, p, hz⟩ := I1.tuple hq
    refine wpAny_pyIter_tuple (show s1.heap.IsTuple a its.toArray from p) ?_
    refine ⟨s1.heap.objs.size, [s1.heap.objs.size], _, _, H1, rfl, I1.kept (t' := s1.toks) fun b o e => Heap.get?_push_of_some _ e, turn_tuple a _, ⟨_, Heap.get?_push_size _ rfl, rfl, rfl⟩, fun b hb => ?_, q⟩
    have e : b = s1.heap.objs.size := by simpa using hb
    subst e
    exact I1.fpOk (Nat.le_refl _) (I1.hok.fresh (Nat.le_refl _))
  · subst e
    obtain ⟨t, rfl⟩ := r1
    cases ha : z.cps.all (· < 128)
    · exact wpAny_pyIter_wide ha (pi_one (tk := s1.toks) I1 _ (turn_str _ z t "str_iterator" (.inr rfl)) ⟨_, Heap.get?_push_size _ rfl, rfl, rfl⟩ q)
    · exact wpAny_pyIter_ascii ha (pi_one (tk := s1.toks) I1 _ (turn_str _ z t "str_ascii_iterator" (.inl rfl)) ⟨_, Heap.get?_push_size _ rfl, rfl, rfl⟩ q)
end Eng

/-! Eng9 -/
set_option Elab.async false
set_option linter.all false
set_option maxRecDepth 100000
set_option maxHeartbeats 4000000
/-! Expressions: what the evaluator gives is what the text does. -/
namespace Eng
open PySem PySem.Spec PyProof.Rows L2

def plainX : Expr → Bool
  | .Starred _ _ => false
  | .Slice _ _ _ _ => false
  | .Set _ _ _ => false
  | _ => true
def isBool : Expr → Bool
  | .BoolOp _ _ _ => true
  | _ => false
structure Snd (c : Ct) (e : Expr) (e' : E) : Prop where
  pe : ∀ {G : Nat → List D → Sto → Res D} {k : Nat} {kx : Nat → Value} {X : Cx} {W : WX}, CxOk c G k kx X → Takes X W → PE X e (RdE kx X.K W (ev G e'))
  pt : ∀ {G : Nat → List D → Sto → Res D} {k : Nat} {kx : Nat → Value} {X : Cx} {W : WX}, CxOk c G k kx X → Takes X W → PT X e (RdT kx X.K W fun s S => tst (ev G e' s S))
  pw : isBool e = true → ∀ {G : Nat → List D → Sto → Res D} {k : Nat} {kx : Nat → Value} {X : Cx} {W : WX}, CxOk c G k kx X → Takes X W → PW X e (RdT kx X.K W fun s S => tst (ev G e' s S))
  pl : plainX e = true
def SndR (R : Rec) : Prop := ∀ c e e', R c e = some e' → Snd c e e'

theorem bind_assoc {a b d : Type} (r : Res a) (f : a → Sto → Res b) (g : b → Sto → Res d) : (r.bind f).bind g = r.bind fun x S => (f x S).bind g := by cases r <;> rfl
theorem bind_ok {a b : Type} (x : a) (S : Sto) (f : a → Sto → Res b) : (Res.ok x S).bind f = f x S := rfl
theorem Aft.eqv {a b : Type} {kx : Nat → Value} {K : PySem.W.Frag} {W : WX} {σ : L2.St} {R : Wd → a → b → Prop} {w : Wd} {r r' : Res a} {Q : b → Hp → Prop} (h : Aft kx K W σ R w r Q) (e : r = r') : Aft kx K W σ R w r' Q := e ▸ h

section
variable {c : Ct} {G : Nat → List D → Sto → Res D} {k : Nat} {kx : Nat → Value} {X : Cx} {W : WX}
theorem star_of {e : Expr} (h : plainX e = true) (es : List Expr) (env : PySem.Env) : starEach (e :: es) env = (false, eval e env) :: starEach es env := by
  cases e <;> first | rfl | (exact absurd h (by decide)) | (simp [plainX] at h)
theorem nostar_of {pos : Pos} {env : PySem.Env} : ∀ {es : List Expr}, (∀ e ∈ es, plainX e = true) → (backTo pos (starEach es env)).any (·.1) = false
  | [], _ => rfl
  | e :: es, h => by
    rw [star_of (h e List.mem_cons_self)]
    show (false || (backTo pos (starEach es env)).any (·.1)) = false
    rw [nostar_of fun x hx => h x (List.mem_cons_of_mem _ hx)] <;> rfl
theorem noset_of {e : Expr} (h : plainX e = true) (env : PySem.Env) (x : Value) : foldedSetIterable e env x = pure x := by
  cases e <;> first | rfl | (simp [plainX] at h)
theorem nomark_of {e : Expr} (h : plainX e = true) (op : CmpOp) : behindInMarks op e = false := by
  cases e <;> first | rfl | (simp [plainX] at h)
theorem mapO_mem {a b : Type} {f : a → Option b} : ∀ {xs : List a} {ys : List b}, mapO f xs = some ys → ∀ x ∈ xs, ∃ y, f x = some y
  | [], ys, h, x, hx => by simp at hx
  | x :: xs, ys, h, z, hz => by
    unfold mapO at h
    cases q : f x with
    | none => rw [q] at h; cases h
    | some y =>
      rw [q] at h
      cases q2 : mapO f xs with
      | none => simp only [q2] at h; cases h
      | some r =>
        rcases List.mem_cons.mp hz with e | hz
        · subst e; exact ⟨y, q⟩
        · exact mapO_mem q2 z hz
theorem mapO_cons {a b : Type} {f : a → Option b} {x : a} {xs : List a} {ys : List b} (h : mapO f (x :: xs) = some ys) : ∃ y r, f x = some y ∧ mapO f xs = some r ∧ ys = y :: r := by
  unfold mapO at h
  cases q : f x with
  | none => rw [q] at h; cases h
  | some y =>
    rw [q] at h
    cases q2 : mapO f xs with
    | none => simp only [q2] at h; cases h
    | some r => simp only [q2, Option.some.injEq] at h; exact ⟨y, r, rfl, rfl, h.symm⟩
theorem mapO_len {a b : Type} {f : a → Option b} : ∀ {xs : List a} {ys : List b}, mapO f xs = some ys → ys.length = xs.length
  | [], ys, h => by simp only [mapO, Option.some.injEq] at h; subst h; rfl
  | x :: xs, ys, h => by
    obtain ⟨y, r, _, h2, rfl⟩ := mapO_cons h
    simp [mapO_len h2]
/-- a list of arguments -/
theorem snd_list {R : Rec} (hR : SndR R) (hc : CxOk c G k kx X) (tk : Takes X W) : ∀ {es : List Expr} {es' : List E}, mapO (R c) es = some es' → PA X es (RdA kx X.K W (evs G es'))
  | [], es', h => by
    simp only [mapO, Option.some.injEq] at h
    subst h
    refine PA.imp pa_nil fun σ H Q q => ?_
    obtain ⟨w, s, S, rfl, st, rs, q⟩ := q
    simp only [evs] at q
    exact q [] w (Ext.refl w) rs RDs.nil
  | e :: es, es', h => by
    obtain ⟨y, r, h1, h2, rfl⟩ := mapO_cons h
    have s1 := hR c e y h1
    refine PA.imp (pa_cons (s1.pe hc tk) (snd_list hR hc tk h2) (star_of s1.pl es X.env)) fun σ H Q q => ?_
    obtain ⟨w, s, S, rfl, st, rs, q⟩ := q
    simp only [evs] at q
    refine ⟨w, s, S, rfl, st, rs, q.bind fun d S1 v w1 _ x1 rs1 rd1 q1 => ⟨w1, s, S1, rfl, st.ext x1, rs1, q1.bind fun ds S2 vs w2 _ x2 rs2 rd2 q2 => ?_⟩⟩
    exact q2 (v :: vs) w2 (Ext.refl w2) rs2 (RDs.cons (RD.ext x2 _ _ rd1) rd2)
theorem plain_list {R : Rec} (hR : SndR R) {es : List Expr} {es' : List E} (h : mapO (R c) es = some es') : ∀ e ∈ es, plainX e = true := fun e he =>
  let ⟨y, hy⟩ := mapO_mem h e he
  (hR c e y hy).pl

/-- a test by its value -/
theorem pt_gen {e : Expr} {m : Env → Sto → Res D} (h : PE X e (RdE kx X.K W m)) (he : ∀ whole, isTrue e X.env whole = (do let v ← whole; standAt e.pos; holding [v] (truthy v))) : PT X e (RdT kx X.K W fun s S => tst (m s S)) := by
  refine PT.imp (pt_truth h he) fun σ H Q q => ?_
  obtain ⟨w, s, S, rfl, st, rs, q⟩ := q
  refine ⟨w, s, S, rfl, st, rs, q.bind fun d S1 v w1 _ x1 rs1 rd1 q1 => ?_⟩
  obtain ⟨b, eb, q1⟩ := q1.ofO
  exact ⟨b, tru_of rs1 rd1 eb, q1 b w1 (Ext.refl w1) rs1 rfl⟩

/-! ### one, two operands -/
theorem rd1 {a : E} {p : Pr} {t : (V → Hp → VK → Prop)} {σ : L2.St} {H : Hp} {Q : VK}
    (hp : ∀ {w : Wd} {S : Sto} {d : D} {v : V} {Q : VK}, RS X.K w S → RD X.K w d v → Aft kx X.K W σ (RD X.K) w (pr p [d] S) Q → t v w.H Q)
    (q : RdE kx X.K W (ev G (.pr p [a])) σ H Q) : RdE kx X.K W (ev G a) σ H (fun v H1 => t v H1 Q) := by
  obtain ⟨w, s, S, rfl, st, rs, q⟩ := q
  simp only [ev, evs, bind_assoc, bind_ok] at q
  exact ⟨w, s, S, rfl, st, rs, q.bind fun d S1 v w1 _ x1 rs1 rd1 q1 => hp rs1 rd1 q1⟩
theorem rd2 {a b : E} {p : Pr} {t : R2} {σ : L2.St} {H : Hp} {Q : VK}
    (hp : ∀ {w : Wd} {S : Sto} {d e : D} {v u : V} {Q : VK}, RS X.K w S → RD X.K w d v → RD X.K w e u → Aft kx X.K W σ (RD X.K) w (pr p [d, e] S) Q → t v u w.H Q)
    (q : RdE kx X.K W (ev G (.pr p [a, b])) σ H Q) : RdE kx X.K W (ev G a) σ H (fun v H1 => RdE kx X.K W (ev G b) σ H1 fun u H2 => t v u H2 Q) := by
  obtain ⟨w, s, S, rfl, st, rs, q⟩ := q
  simp only [ev, evs, bind_assoc, bind_ok] at q
  exact ⟨w, s, S, rfl, st, rs, q.bind fun d S1 v w1 _ x1 rs1 rd1 q1 => ⟨w1, s, S1, rfl, st.ext x1, rs1, q1.bind fun e S2 u w2 _ x2 rs2 rd2 q2 => hp rs2 (RD.ext x2 _ _ rd1) rd2 q2⟩⟩

/-! ### the arithmetic -/
def rBin (K : PySem.W.Frag) : Pr → R2
  | .add => rAddD K
  | .sub => rI0 fun i j => .int (i - j)
  | .mul => rMulD K
  | .fdiv => rI CDiv fun i j => .int (i / j)
  | .mod => rI (fun _ j => 0 < j) fun i j => .int (i % j)
  | _ => fun _ _ _ _ => False
theorem op_bin {op : Operator} {p : Pr} (h : bOp op = some p) : OpR X (binaryOp op) (rBin X.K p) := by
  cases op <;> simp only [bOp, Option.some.injEq, reduceCtorEq] at h <;> subst h
  · exact op_addD
  · exact op_sub
  · exact op_mulD
  · exact op_mod
  · exact op_fdiv
theorem px_bin {op : Operator} {p : Pr} (h : bOp op = some p) {w : Wd} {S : Sto} {σ : L2.St} {d e : D} {v u : V} {Q : VK} (rs : RS X.K w S) (h1 : RD X.K w d v) (h2 : RD X.K w e u) (q : Aft kx X.K W σ (RD X.K) w (pr p [d, e] S) Q) : rBin X.K p v u w.H Q := by
  cases op <;> simp only [bOp, Option.some.injEq, reduceCtorEq] at h <;> subst h
  · exact px_add rs h1 h2 q
  · exact px_sub rs h1 h2 q
  · exact px_mul rs h1 h2 q
  · exact px_mod rs h1 h2 q
  · exact px_fdiv rs h1 h2 q
/-! ### the comparisons -/
def rCmp (K : PySem.W.Frag) : Pr → R2
  | .eq => rEqX K
  | .ne => rNeX K
  | .lt => rLtD
  | .le => rLeD
  | .gt => rI0 fun i j => .bl (decide (j < i))
  | .ge => rI0 fun i j => .bl (decide (j ≤ i))
  | .isin => rInA K false
  | .notin => rInA K true
  | _ => fun _ _ _ _ => False
theorem op_cmp {op : CmpOp} {p : Pr} (hu : X.A.units + 200 < cLine) (h : cOp op = some p) : OpR X (compareOp op) (rCmp X.K p) := by
  cases op <;> simp only [cOp, Option.some.injEq, reduceCtorEq] at h <;> subst h
  · exact op_eqX hu
  · exact op_neX hu
  · exact op_ltD
  · exact op_leD
  · exact op_gt
  · exact op_ge
  · exact op_inA hu
  · exact op_notInA hu
theorem px_cmp {op : CmpOp} {p : Pr} (h : cOp op = some p) {w : Wd} {S : Sto} {σ : L2.St} {d e : D} {v u : V} {Q : VK} (rs : RS X.K w S) (h1 : RD X.K w d v) (h2 : RD X.K w e u) (q : Aft kx X.K W σ (RD X.K) w (pr p [d, e] S) Q) : rCmp X.K p v u w.H Q := by
  cases op <;> simp only [cOp, Option.some.injEq, reduceCtorEq] at h <;> subst h
  · exact px_eq rs h1 h2 q
  · exact px_ne rs h1 h2 q
  · exact px_lt rs h1 h2 q
  · exact px_le rs h1 h2 q
  · exact px_gt rs h1 h2 q
  · exact px_ge rs h1 h2 q
  · exact px_inA (neg := false) rs h1 h2 q
  · exact px_inA (neg := true) rs h1 h2 q
end
/-- a comparison answers with a truth -/
theorem gd_bl {c : Prop} [Decidable c] {x y : D} {S S1 : Sto} (h : gd c x S = .ok y S1) : y = x := by
  unfold gd at h
  split at h
  · cases h; rfl
  · cases h
theorem isIn_bl {a b d : D} {S S1 : Sto} {p : Bool} (h : pr.isIn a b S p = .ok d S1) : ∃ t, d = .bl t := by
  unfold pr.isIn at h
  split at h
  · cases h; exact ⟨_, rfl⟩
  · exact ⟨_, gd_bl h⟩
  · exact ⟨_, gd_bl h⟩
  · split at h
    · cases h; exact ⟨_, rfl⟩
    · cases h
  · cases h
theorem cmp_bl {op : CmpOp} {p : Pr} (h : cOp op = some p) {a b d : D} {S S1 : Sto} (e : pr p [a, b] S = .ok d S1) : ∃ t, d = .bl t := by
  cases op <;> simp only [cOp, Option.some.injEq, reduceCtorEq] at h <;> subst h
  · simp only [pr] at e; exact ⟨_, gd_bl e⟩
  · simp only [pr] at e; exact ⟨_, gd_bl e⟩
  · cases a <;> cases b <;> simp only [pr, reduceCtorEq] at e <;> (cases e; exact ⟨_, rfl⟩)
  · cases a <;> cases b <;> simp only [pr, reduceCtorEq] at e <;> (cases e; exact ⟨_, rfl⟩)
  · cases a <;> cases b <;> simp only [pr, reduceCtorEq] at e <;> (cases e; exact ⟨_, rfl⟩)
  · cases a <;> cases b <;> simp only [pr, reduceCtorEq] at e <;> (cases e; exact ⟨_, rfl⟩)
  · simp only [pr] at e; exact isIn_bl e
  · simp only [pr] at e; exact isIn_bl e
theorem isC_bl {a b d : D} {S S1 : Sto} {p : Bool} (h : pr.isC a b S p = .ok d S1) : ∃ t, d = .bl t := by
  unfold pr.isC at h
  split at h
  · cases h; exact ⟨_, rfl⟩
  · split at h
    · cases h; exact ⟨_, rfl⟩
    · cases h
  · cases h
/-- a test from a value that is a truth -/
theorem tst_bl {kx : Nat → Value} {K : PySem.W.Frag} {W : WX} {σ : L2.St} {w : Wd} {r : Res D} {Q : Bool → Hp → Prop} (hb : ∀ d S1, r = .ok d S1 → ∃ t, d = .bl t) (h : Aft kx K W σ (fun _ b b' => b = b') w (r.bind fun d S => ofO (truth S d) S) Q) :
    Aft kx K W σ (RD K) w r (fun z H' => ∃ t, z = .bl t ∧ Q t H') := by
  refine h.bind fun d S1 v w1 e x1 rs1 rd1 q1 => ?_
  obtain ⟨t, rfl⟩ := hb d S1 e
  refine ⟨t, rd1.blI, ?_⟩
  exact q1 t w1 (Ext.refl w1) rs1 rfl
end Eng

/-! Eng10 -/
set_option Elab.async false
set_option linter.all false
set_option maxRecDepth 100000
set_option maxHeartbeats 4000000
/-! Expressions, form by form. -/
namespace Eng
open PySem PySem.Spec PyProof.Rows L2
variable {c : Ct} {R : Rec}

theorem nobool {e : Expr} {P : Prop} (h : isBool e = false) : isBool e = true → P := fun z => by rw [h] at z; cases z
/-- from the value alone -/
theorem Snd.of {e : Expr} {e' : E} (pe : ∀ {G : Nat → List D → Sto → Res D} {k : Nat} {kx : Nat → Value} {X : Cx} {W : WX}, CxOk c G k kx X → Takes X W → PE X e (RdE kx X.K W (ev G e')))
    (he : ∀ (env : PySem.Env) whole, isTrue e env whole = (do let v ← whole; standAt e.pos; holding [v] (truthy v))) (hb : isBool e = false) (pl : plainX e = true) : Snd c e e' :=
  ⟨fun hc tk => pe hc tk, fun hc tk => pt_gen (pe hc tk) (he _), nobool hb, pl⟩

theorem rd_con {kx : Nat → Value} {K : PySem.W.Frag} {W : WX} {G : Nat → List D → Sto → Res D} {d : D} {v : V} (hd : ∀ w, RD K w d v) {σ : L2.St} {H : Hp} {Q : VK} (q : RdE kx K W (ev G (.con d)) σ H Q) : Q v H := by
  obtain ⟨w, s, S, rfl, st, rs, q⟩ := q
  simp only [ev] at q
  exact q.val rs (hd w)
theorem snd_const {k : Const} {j : Nat} {pos : Pos} {e' : E} (h : trC k = some e') : Snd c (.Constant k j pos) e' := by
  refine Snd.of (fun {G k' kx X W} hc tk => ?_) (fun _ _ => rfl) rfl rfl
  cases k with
  | none => simp only [trC, Option.some.injEq] at h; subst h; exact PE.imp pe_non fun σ H Q q => rd_con (fun w => by simp only [RD]) q
  | bool b => simp only [trC, Option.some.injEq] at h; subst h; exact PE.imp pe_bl fun σ H Q q => rd_con (fun w => by simp only [RD]) q
  | int b => simp only [trC, Option.some.injEq] at h; subst h; exact PE.imp pe_int fun σ H Q q => rd_con (fun w => by simp only [RD]) q
  | str x =>
    simp only [trC] at h
    split at h
    · rename_i hx
      cases h
      refine PE.imp pe_str fun σ H Q q => rd_con (v := .str x) (fun w => ?_) q
      simp only [RD]
      refine ⟨?_, ?_, hx.2⟩
      · congr 1
      · have : x.cps.toList.length = x.length := by simp [Str.length]
        rw [this]; unfold szL; omega
    · cases h
  | _ => simp only [trC] at h; cases h
theorem trC_con {k : Const} {e' : E} (h : trC k = some e') : ∃ d, e' = .con d := by
  cases k <;> simp only [trC, Option.some.injEq, reduceCtorEq] at h <;> first | exact ⟨_, h.symm⟩ | skip
  split at h
  · cases h; exact ⟨_, rfl⟩
  · cases h
theorem snd_name {x : Str} {pos : Pos} {e' : E} (h : (match slotR c x with
    | some i => some (.var i)
    | none => if isGl c x = true then (c.g.consts.lookup x).map .con else none) = some e') : Snd c (.Name x pos) e' := by
  refine Snd.of (fun {G k' kx X W} hc tk => ?_) (fun _ _ => rfl) rfl rfl
  cases q : slotR c x with
  | some i =>
    rw [q] at h
    simp only [Option.some.injEq] at h
    subst h
    obtain ⟨h1, h2, h3, h4⟩ := hc.slot q
    refine PE.imp (pe_var h1 h2 h3 h4) fun σ H Q q => ?_
    obtain ⟨w, s, S, rfl, st, rs, q⟩ := q
    simp only [ev, getV] at q
    cases e : s[i]? with
    | none => rw [e] at q; exact q.elim
    | some o =>
      rw [e] at q
      cases o with
      | none => exact q.elim
      | some d =>
        obtain ⟨v, e1, e2⟩ := st.at_ i d e
        exact ⟨v, e1, q.val rs e2⟩
  | none =>
    rw [q] at h
    simp only at h
    split at h
    · rename_i hg
      obtain ⟨d, e1, rfl⟩ := Option.map_eq_some_iff.mp h
      obtain ⟨v, u, h1, h2, h3⟩ := hc.con x d e1
      obtain ⟨g1, g2, _, _⟩ := hc.gl hg
      exact PE.imp (pe_glob g1 h1 h2 g2) fun σ H Q q => rd_con h3 q
    · cases h
theorem evs_len {G : Nat → List D → Sto → Res D} {s : Env} : ∀ (es' : List E) (S S1 : Sto) (ds : List D), evs G es' s S = .ok ds S1 → ds.length = es'.length := by
  intro es'
  induction es' with
  | nil => intro S S1 ds e; simp only [evs] at e; cases e; rfl
  | cons a r ih =>
    intro S S1 ds e
    simp only [evs] at e
    cases q : ev G a s S with
    | ok d S2 =>
      rw [q] at e
      simp only [Res.bind] at e
      cases q2 : evs G r s S2 with
      | ok ds' S3 => rw [q2] at e; simp only at e; cases e; simp [ih _ _ _ q2]
      | exc _ _ => rw [q2] at e; cases e
      | no => rw [q2] at e; cases e
    | exc _ _ => rw [q] at e; cases e
    | no => rw [q] at e; cases e
theorem snd_tuple (hR : SndR R) {es : List Expr} {es' : List E} {j : Nat} {pos : Pos} (hl : es.length ≤ 1000) (h : mapO (R c) es = some es') : Snd c (.Tuple es j pos) (.tup es') := by
  refine Snd.of (fun {G k' kx X W} hc tk => ?_) (fun _ _ => rfl) rfl rfl
  refine PE.imp (pe_tup (snd_list hR hc tk h)) fun σ H Q q => ?_
  obtain ⟨w, s, S, rfl, st, rs, q⟩ := q
  simp only [ev] at q
  refine ⟨w, s, S, rfl, st, rs, q.bind fun ds S1 vs w1 e x1 rs1 rd1 q1 => ?_⟩
  have l : ds.length ≤ 1000 := by rw [evs_len es' S S1 ds e, mapO_len h]; exact hl
  have l2 := rd1.length
  exact ⟨by rw [l2, sizeLine_eq]; omega, q1.tup rs1 (by unfold szL; omega) rd1⟩
theorem snd_lst (hR : SndR R) {es : List Expr} {es' : List E} {pos : Pos} (hl : es.length ≤ 1000) (h : mapO (R c) es = some es') : Snd c (.List es pos) (.lst es') := by
  refine Snd.of (fun {G k' kx X W} hc tk => ?_) (fun _ _ => rfl) rfl rfl
  refine PE.imp (pe_lst (snd_list hR hc tk h)) fun σ H Q q => ?_
  obtain ⟨w, s, S, rfl, st, rs, q⟩ := q
  simp only [ev] at q
  refine ⟨w, s, S, rfl, st, rs, q.bind fun ds S1 vs w1 e x1 rs1 rd1 q1 => ?_⟩
  have l : ds.length ≤ 1000 := by rw [evs_len es' S S1 ds e, mapO_len h]; exact hl
  have l2 := rd1.length
  exact ⟨by rw [l2, sizeLine_eq]; omega, q1.lst rs1 (by unfold szL; omega) rd1⟩
theorem snd_bin (hR : SndR R) {a b : Expr} {op : Operator} {pos : Pos} {p : Pr} {a' b' : E} (h : bOp op = some p) (h1 : R c a = some a') (h2 : R c b = some b') : Snd c (.BinOp a op b pos) (.pr p [a', b']) :=
  Snd.of (fun {G k' kx X W} hc tk => PE.imp (pe_op (op_bin h) ((hR c a a' h1).pe hc tk) ((hR c b b' h2).pe hc tk)) fun σ H Q q => rd2 (fun rs d1 d2 q => px_bin h rs d1 d2 q) q) (fun _ _ => rfl) rfl rfl
theorem snd_neg (hR : SndR R) {a : Expr} {pos : Pos} {a' : E} (h1 : R c a = some a') : Snd c (.UnaryOp .USub a pos) (.pr .neg [a']) :=
  Snd.of (fun {G k' kx X W} hc tk => PE.imp (pe_un un_neg ((hR c a a' h1).pe hc tk)) fun σ H Q q => rd1 (fun rs d1 q => px_neg rs d1 q) q) (fun _ _ => rfl) rfl rfl
theorem snd_not (hR : SndR R) {a : Expr} {pos : Pos} {a' : E} (h1 : R c a = some a') : Snd c (.UnaryOp .Not a pos) (.pr .not [a']) := by
  refine ⟨fun {G k' kx X W} hc tk => ?_, fun {G k' kx X W} hc tk => ?_, nobool rfl, rfl⟩
  · refine PE.imp (pe_notT ((hR c a a' h1).pe hc tk)) fun σ H Q q => ?_
    obtain ⟨w, s, S, rfl, st, rs, q⟩ := q
    simp only [ev, evs, bind_assoc, bind_ok] at q
    refine ⟨w, s, S, rfl, st, rs, q.bind fun d S1 v w1 _ x1 rs1 rd1 q1 => ?_⟩
    simp only [pr] at q1
    obtain ⟨z, ez, q1⟩ := q1.ofO
    obtain ⟨t, e1, rfl⟩ := Option.map_eq_some_iff.mp ez
    exact ⟨t, tru_of rs1 rd1 e1, q1.bl rs1⟩
  · refine PT.imp (pt_not ((hR c a a' h1).pt hc tk)) fun σ H Q q => ?_
    obtain ⟨w, s, S, rfl, st, rs, q⟩ := q
    refine ⟨w, s, S, rfl, st, rs, ?_⟩
    simp only [tst, ev, evs, bind_assoc, bind_ok] at q ⊢
    have e : ∀ (r : Res D), (r.bind fun x S => (pr .not [x] S).bind fun d S => ofO (truth S d) S) = (r.bind fun x S => ofO (truth S x) S).bind fun b S => .ok (!b) S := by
      intro r
      cases r with
      | ok x S =>
        simp only [Res.bind, pr]
        cases truth S x with
        | none => rfl
        | some b => rfl
      | exc _ _ => rfl
      | no => rfl
    rw [e] at q
    exact q.bind fun b S1 b' w1 _ x1 rs1 eb q1 => by subst eb; exact q1 (!b) w1 (Ext.refl w1) rs1 rfl
/-! ### and, or -/
theorem tst_and {G : Nat → List D → Sto → Res D} {a b : E} {s : Env} {S : Sto} : tst (ev G (.and a b) s S) = (tst (ev G a s S)).bind fun t S1 => if t = true then tst (ev G b s S1) else .ok false S1 := by
  simp only [tst, ev, bind_assoc]
  cases ev G a s S with
  | ok d S1 =>
    simp only [Res.bind]
    cases e : truth S1 d with
    | none => rfl
    | some t => cases t <;> simp [ofO, e]
  | exc _ _ => rfl
  | no => rfl
theorem tst_or {G : Nat → List D → Sto → Res D} {a b : E} {s : Env} {S : Sto} : tst (ev G (.or a b) s S) = (tst (ev G a s S)).bind fun t S1 => if t = true then .ok true S1 else tst (ev G b s S1) := by
  simp only [tst, ev, bind_assoc]
  cases ev G a s S with
  | ok d S1 =>
    simp only [Res.bind]
    cases e : truth S1 d with
    | none => rfl
    | some t => cases t <;> simp [ofO, e]
  | exc _ _ => rfl
  | no => rfl
theorem snd_bool (hR : SndR R) {op : BoolOp} {a b : Expr} {r : List Expr} {pos : Pos} {a' b' : E} (h1 : R c a = some a') (h2 : R c (.BoolOp op (b :: r) pos) = some b') :
    Snd c (.BoolOp op (a :: b :: r) pos) (match op with | .And => .and a' b' | .Or => .or a' b') := by
  have sa := hR c a a' h1
  have sb := hR c _ b' h2
  cases op with
  | And =>
    have pw : ∀ {G : Nat → List D → Sto → Res D} {k : Nat} {kx : Nat → Value} {X : Cx} {W : WX}, CxOk c G k kx X → Takes X W → PW X (.BoolOp .And (a :: b :: r) pos) (RdT kx X.K W fun s S => tst (ev G (.and a' b') s S)) := by
      intro G k kx X W hc tk
      refine PW.imp (pw_and (sa.pt hc tk) (sb.pw rfl hc tk)) fun σ H Q q => ?_
      obtain ⟨w, s, S, rfl, st, rs, q⟩ := q
      dsimp only at q
      rw [tst_and] at q
      refine ⟨w, s, S, rfl, st, rs, q.bind fun t S1 t' w1 _ x1 rs1 et q1 => ?_⟩
      subst et
      cases t with
      | true => exact ⟨w1, s, S1, rfl, st.ext x1, rs1, q1⟩
      | false => exact q1 false w1 (Ext.refl w1) rs1 rfl
    refine ⟨fun {G k' kx X W} hc tk => ?_, fun {G k' kx X W} hc tk => (pw hc tk).pt, fun _ {G k' kx X W} hc tk => pw hc tk, rfl⟩
    refine PE.imp (pe_andT (sa.pe hc tk) (sb.pe hc tk)) fun σ H Q q => ?_
    obtain ⟨w, s, S, rfl, st, rs, q⟩ := q
    simp only [ev] at q
    refine ⟨w, s, S, rfl, st, rs, q.bind fun d S1 v w1 _ x1 rs1 rd1 q1 => ?_⟩
    cases e : truth S1 d with
    | none => simp only [e] at q1; exact q1.elim
    | some t =>
      simp only [e] at q1
      refine ⟨t, tru_of rs1 rd1 e, ?_⟩
      cases t with
      | true => exact ⟨w1, s, S1, rfl, st.ext x1, rs1, q1⟩
      | false => exact q1.val rs1 rd1
  | Or =>
    have pw : ∀ {G : Nat → List D → Sto → Res D} {k : Nat} {kx : Nat → Value} {X : Cx} {W : WX}, CxOk c G k kx X → Takes X W → PW X (.BoolOp .Or (a :: b :: r) pos) (RdT kx X.K W fun s S => tst (ev G (.or a' b') s S)) := by
      intro G k kx X W hc tk
      refine PW.imp (pw_or (sa.pt hc tk) (sb.pw rfl hc tk)) fun σ H Q q => ?_
      obtain ⟨w, s, S, rfl, st, rs, q⟩ := q
      dsimp only at q
      rw [tst_or] at q
      refine ⟨w, s, S, rfl, st, rs, q.bind fun t S1 t' w1 _ x1 rs1 et q1 => ?_⟩
      subst et
      cases t with
      | false => exact ⟨w1, s, S1, rfl, st.ext x1, rs1, q1⟩
      | true => exact q1 true w1 (Ext.refl w1) rs1 rfl
    refine ⟨fun {G k' kx X W} hc tk => ?_, fun {G k' kx X W} hc tk => (pw hc tk).pt, fun _ {G k' kx X W} hc tk => pw hc tk, rfl⟩
    refine PE.imp (pe_orT (sa.pe hc tk) (sb.pe hc tk)) fun σ H Q q => ?_
    obtain ⟨w, s, S, rfl, st, rs, q⟩ := q
    simp only [ev] at q
    refine ⟨w, s, S, rfl, st, rs, q.bind fun d S1 v w1 _ x1 rs1 rd1 q1 => ?_⟩
    cases e : truth S1 d with
    | none => simp only [e] at q1; exact q1.elim
    | some t =>
      simp only [e] at q1
      refine ⟨t, tru_of rs1 rd1 e, ?_⟩
      cases t with
      | false => exact ⟨w1, s, S1, rfl, st.ext x1, rs1, q1⟩
      | true => exact q1.val rs1 rd1
theorem snd_bool1 (hR : SndR R) {op : BoolOp} {a : Expr} {pos : Pos} {a' : E} (h1 : R c a = some a') : Snd c (.BoolOp op [a] pos) a' := by
  have sa := hR c a a' h1
  refine ⟨fun {G k' kx X W} hc tk => pe_one (sa.pe hc tk), fun {G k' kx X W} hc tk => ?_, fun _ {G k' kx X W} hc tk => ?_, rfl⟩
  · cases op with
    | And => exact (pw_and1 (sa.pt hc tk)).pt
    | Or => exact (pw_or1 (sa.pt hc tk)).pt
  · cases op with
    | And => exact pw_and1 (sa.pt hc tk)
    | Or => exact pw_or1 (sa.pt hc tk)
/-! ### comparisons -/
theorem snd_cmp (hR : SndR R) {a b : Expr} {op : CmpOp} {pos : Pos} {p : Pr} {a' b' : E} (h : cOp op = some p) (h1 : R c a = some a') (h2 : R c b = some b') : Snd c (.Compare a [op] [b] pos) (.pr p [a', b']) := by
  have sa := hR c a a' h1
  have sb := hR c b b' h2
  refine ⟨fun {G k' kx X W} hc tk => ?_, fun {G k' kx X W} hc tk => ?_, nobool rfl, rfl⟩
  · exact PE.imp (pe_cmpR (op_cmp hc.units h) (sa.pe hc tk) (sb.pe hc tk) (nomark_of sb.pl op)) fun σ H Q q => rd2 (fun rs d1 d2 q => px_cmp h rs d1 d2 q) q
  · refine PT.imp (pt_cmpR (op_cmp hc.units h) (sa.pe hc tk) (sb.pe hc tk) (nomark_of sb.pl op)) fun σ H Q q => ?_
    refine rd2 (p := p) (fun rs d1 d2 q => px_cmp h rs d1 d2 q) ?_
    obtain ⟨w, s, S, rfl, st, rs, q⟩ := q
    refine ⟨w, s, S, rfl, st, rs, tst_bl (fun d S1 e => ?_) q⟩
    simp only [ev, evs, bind_assoc, bind_ok] at e
    cases q1 : ev G a' s S with
    | ok d1 S2 =>
      rw [q1] at e
      simp only [Res.bind] at e
      cases q2 : ev G b' s S2 with
      | ok d2 S3 => rw [q2] at e; simp only at e; exact cmp_bl h e
      | exc _ _ => rw [q2] at e; cases e
      | no => rw [q2] at e; cases e
    | exc _ _ => rw [q1] at e; cases e
    | no => rw [q1] at e; cases e
theorem snd_is (hR : SndR R) {a : Expr} {k : Const} {j : Nat} {pos p2 : Pos} {a' : E} {d : D} (h1 : R c a = some a') (h2 : trC k = some (.con d)) : Snd c (.Compare a [.Is] [.Constant k j p2] pos) (.pr (.isc d) [a']) ∧ Snd c (.Compare a [.IsNot] [.Constant k j p2] pos) (.pr (.isntc d) [a']) := by
  have sa := hR c a a' h1
  have sb : Snd c (.Constant k j p2) (.con d) := snd_const h2
  have key : ∀ {G : Nat → List D → Sto → Res D} {kx : Nat → Value} {X : Cx} {W : WX} {p : Pr} {t : R2} {σ : L2.St} {H : Hp} {Q : VK},
      (∀ {w : Wd} {S : Sto} {d1 : D} {v u : V} {Q : VK}, RS X.K w S → RD X.K w d1 v → RD X.K w d u → Aft kx X.K W σ (RD X.K) w (pr p [d1] S) Q → t v u w.H Q) →
      RdE kx X.K W (ev G (.pr p [a'])) σ H Q → RdE kx X.K W (ev G a') σ H (fun v H1 => RdE kx X.K W (ev G (.con d)) σ H1 fun u H2 => t v u H2 Q) := by
    intro G kx X W p t σ H Q hp q
    obtain ⟨w, s, S, rfl, st, rs, q⟩ := q
    simp only [ev, evs, bind_assoc, bind_ok] at q
    refine ⟨w, s, S, rfl, st, rs, q.bind fun d1 S1 v w1 _ x1 rs1 rd1 q1 => ⟨w1, s, S1, rfl, st.ext x1, rs1, ?_⟩⟩
    simp only [ev]
    intro u w2 x2 rs2 rd2
    exact hp rs2 (RD.ext x2 _ _ rd1) rd2 (q1.mono x2)
  refine ⟨⟨fun {G k' kx X W} hc tk => ?_, fun {G k' kx X W} hc tk => ?_, nobool rfl, rfl⟩, ⟨fun {G k' kx X W} hc tk => ?_, fun {G k' kx X W} hc tk => ?_, nobool rfl, rfl⟩⟩
  · exact PE.imp (pe_cmpR op_isD (sa.pe hc tk) (sb.pe hc tk) (nomark _)) fun σ H Q q => key (fun rs d1 d2 q => px_isc rs d1 d2 q) q
  · refine PT.imp (pt_cmpR op_isD (sa.pe hc tk) (sb.pe hc tk) (nomark _)) fun σ H Q q => ?_
    refine key (p := .isc d) (fun rs d1 d2 q => px_isc rs d1 d2 q) ?_
    obtain ⟨w, s, S, rfl, st, rs, q⟩ := q
    refine ⟨w, s, S, rfl, st, rs, tst_bl (fun d S1 e => ?_) q⟩
    simp only [ev, evs, bind_assoc, bind_ok] at e
    cases q1 : ev G a' s S with
    | ok d1 S2 => rw [q1] at e; simp only [Res.bind, pr] at e; exact isC_bl e
    | exc _ _ => rw [q1] at e; cases e
    | no => rw [q1] at e; cases e
  · exact PE.imp (pe_cmpR op_notD (sa.pe hc tk) (sb.pe hc tk) (nomark _)) fun σ H Q q => key (fun rs d1 d2 q => px_isntc rs d1 d2 q) q
  · refine PT.imp (pt_cmpR op_notD (sa.pe hc tk) (sb.pe hc tk) (nomark _)) fun σ H Q q => ?_
    refine key (p := .isntc d) (fun rs d1 d2 q => px_isntc rs d1 d2 q) ?_
    obtain ⟨w, s, S, rfl, st, rs, q⟩ := q
    refine ⟨w, s, S, rfl, st, rs, tst_bl (fun d S1 e => ?_) q⟩
    simp only [ev, evs, bind_assoc, bind_ok] at e
    cases q1 : ev G a' s S with
    | ok d1 S2 => rw [q1] at e; simp only [Res.bind, pr] at e; exact isC_bl e
    | exc _ _ => rw [q1] at e; cases e
    | no => rw [q1] at e; cases e
theorem chn_bl {G : Nat → List D → Sto → Res D} {o1 o2 : CmpOp} {p q : Pr} (h1 : cOp o1 = some p) (h2 : cOp o2 = some q) {a b e : E} {s : Env} {S S1 : Sto} {d : D} (h : ev G (.chn p q a b e) s S = .ok d S1) : ∃ t, d = .bl t := by
  simp only [ev] at h
  cases q1 : ev G a s S with
  | ok d1 S2 =>
    rw [q1] at h
    simp only [Res.bind] at h
    cases q2 : ev G b s S2 with
    | ok d2 S3 =>
      rw [q2] at h
      simp only at h
      cases q3 : pr p [d1, d2] S3 with
      | ok d3 S4 =>
        rw [q3] at h
        simp only at h
        obtain ⟨t, rfl⟩ := cmp_bl h1 q3
        cases t with
        | true =>
          simp only at h
          cases q4 : ev G e s S4 with
          | ok d4 S5 => rw [q4] at h; simp only at h; exact cmp_bl h2 h
          | exc _ _ => rw [q4] at h; cases h
          | no => rw [q4] at h; cases h
        | false => simp only at h; cases h; exact ⟨_, rfl⟩
      | exc _ _ => rw [q3] at h; cases h
      | no => rw [q3] at h; cases h
    | exc _ _ => rw [q2] at h; cases h
    | no => rw [q2] at h; cases h
  | exc _ _ => rw [q1] at h; cases h
  | no => rw [q1] at h; cases h
theorem snd_chain (hR : SndR R) {a b d : Expr} {o1 o2 : CmpOp} {pos : Pos} {p q : Pr} {a' b' d' : E} (e1 : cOp o1 = some p) (e2 : cOp o2 = some q) (h1 : R c a = some a') (h2 : R c b = some b') (h3 : R c d = some d') :
    Snd c (.Compare a [o1, o2] [b, d] pos) (.chn p q a' b' d') := by
  have sa := hR c a a' h1
  have sb := hR c b b' h2
  have sd := hR c d d' h3
  have hm : lastMarks [o1, o2] [b, d] = false := by
    show behindInMarks o2 d = false
    exact nomark_of sd.pl o2
  have key : ∀ {G : Nat → List D → Sto → Res D} {kx : Nat → Value} {X : Cx} {W : WX} {σ : L2.St} {H : Hp} {Q : VK}, RdE kx X.K W (ev G (.chn p q a' b' d')) σ H Q →
      tChain (rCmp X.K p) (rCmp X.K q) (RdE kx X.K W (ev G a')) (RdE kx X.K W (ev G b')) (RdE kx X.K W (ev G d')) σ H Q := by
    intro G kx X W σ H Q q
    obtain ⟨w, s, S, rfl, st, rs, q⟩ := q
    simp only [ev] at q
    refine ⟨w, s, S, rfl, st, rs, q.bind fun d1 S1 v w1 _ x1 rs1 rd1 q1 => ⟨w1, s, S1, rfl, st.ext x1, rs1, q1.bind fun d2 S2 u w2 _ x2 rs2 rd2 q2 => ?_⟩⟩
    refine px_cmp e1 rs2 (RD.ext x2 _ _ rd1) rd2 (q2.bind fun d3 S3 z w3 e x3 rs3 rd3 q3 => ?_)
    obtain ⟨t, rfl⟩ := cmp_bl e1 e
    refine ⟨t, rd3.blI, ?_⟩
    cases t with
    | false => exact q3.bl rs3
    | true =>
      simp only at q3
      exact ⟨w3, s, S3, rfl, ((st.ext x1).ext x2).ext x3, rs3, q3.bind fun d4 S4 y w4 _ x4 rs4 rd4 q4 => px_cmp e2 rs4 (RD.ext (x3.trans x4) _ _ rd2) rd4 q4⟩
  refine ⟨fun {G k' kx X W} hc tk => ?_, fun {G k' kx X W} hc tk => ?_, nobool rfl, rfl⟩
  · exact PE.imp (pe_chain (op_cmp hc.units e1) (op_cmp hc.units e2) (sa.pe hc tk) (sb.pe hc tk) (sd.pe hc tk) hm) fun σ H Q q => key q
  · refine PT.imp (pt_chain (op_cmp hc.units e1) (op_cmp hc.units e2) (sa.pe hc tk) (sb.pe hc tk) (sd.pe hc tk) hm) fun σ H Q q => ?_
    refine key (G := G) (kx := kx) (X := X) (W := W) ?_
    obtain ⟨w, s, S, rfl, st, rs, q⟩ := q
    exact ⟨w, s, S, rfl, st, rs, tst_bl (fun d S1 e => chn_bl e1 e2 e) q⟩
/-! ### a if t else b -/
theorem snd_ite (hR : SndR R) {t a b : Expr} {pos : Pos} {t' a' b' : E} (h0 : R c t = some t') (h1 : R c a = some a') (h2 : R c b = some b') : Snd c (.IfExp t a b pos) (.ite t' a' b') := by
  have st' := hR c t t' h0
  have sa := hR c a a' h1
  have sb := hR c b b' h2
  refine ⟨fun {G k' kx X W} hc tk => ?_, fun {G k' kx X W} hc tk => ?_, nobool rfl, rfl⟩
  · refine PE.imp (pe_ifExp (st'.pt hc tk) (sa.pe hc tk) (sb.pe hc tk)) fun σ H Q q => ?_
    obtain ⟨w, s, S, rfl, st, rs, q⟩ := q
    simp only [ev] at q
    refine ⟨w, s, S, rfl, st, rs, q.bind fun t S1 t' w1 _ x1 rs1 et q1 => ?_⟩
    subst et
    cases t with
    | true => exact ⟨w1, s, S1, rfl, st.ext x1, rs1, q1⟩
    | false => exact ⟨w1, s, S1, rfl, st.ext x1, rs1, q1⟩
  · refine ⟨fun pins s0 σ H Q I q => ?_⟩
    obtain ⟨w, s, S, rfl, st, rs, q⟩ := q
    simp only [tst, ev, bind_assoc] at q
    have key : RdT kx X.K W (fun s S => tst (ev G t' s S)) σ w.H (fun b H1 => if b = true then RdT kx X.K W (fun s S => tst (ev G a' s S)) σ H1 Q else RdT kx X.K W (fun s S => tst (ev G b' s S)) σ H1 Q) := by
      refine ⟨w, s, S, rfl, st, rs, ?_⟩
      have q' : Aft kx X.K W σ (fun _ b b' => b = b') w ((tst (ev G t' s S)).bind fun t S1 => if t = true then tst (ev G a' s S1) else tst (ev G b' s S1)) Q := by
        refine q.eqv ?_
        simp only [tst, bind_assoc]
        cases ev G t' s S with
        | ok d S1 =>
          simp only [Res.bind]
          cases truth S1 d with
          | none => rfl
          | some t => cases t <;> rfl
        | exc _ _ => rfl
        | no => rfl
      refine q'.bind fun t S1 t' w1 _ x1 rs1 et q1 => ?_
      subst et
      cases t with
      | true => exact ⟨w1, s, S1, rfl, st.ext x1, rs1, q1⟩
      | false => exact ⟨w1, s, S1, rfl, st.ext x1, rs1, q1⟩
    refine isTrue_IfExp (thn ((st'.pt hc tk).run pins s0 σ w.H _ I key) fun b s1 ⟨H1, I1, q1⟩ => ?_)
    cases b with
    | true => exact (sa.pt hc tk).run pins s1 σ H1 Q I1 q1
    | false => exact (sb.pt hc tk).run pins s1 σ H1 Q I1 q1
end Eng

/-! Eng11 -/
set_option Elab.async false
set_option linter.all false
set_option maxRecDepth 100000
set_option maxHeartbeats 4000000
/-! Subscripts, calls, methods. -/
namespace Eng
open PySem PySem.Spec PyProof.Rows L2
variable {c : Ct} {R : Rec}

/-! ### subscripts -/
theorem plainIx_of {e : Expr} (h : plainX e = true) : PlainIx e := by
  intro o i
  cases e <;> first | rfl | (simp [plainX] at h)
theorem snd_idx (hR : SndR R) {a b : Expr} {pos : Pos} {a' b' : E} (h1 : R c a = some a') (h2 : R c b = some b') : Snd c (.Subscript a b pos) (.pr .idx [a', b']) :=
  Snd.of (fun {G k' kx X W} hc tk => PE.imp (pe_ix (ix_A hc.units) ((hR c a a' h1).pe hc tk) ((hR c b b' h2).pe hc tk) (plainIx_of (hR c b b' h2).pl)) fun σ H Q q => rd2 (fun rs d1 d2 q => px_idxA rs d1 d2 q) q) (fun _ _ => rfl) rfl rfl
theorem snd_slc0 (hR : SndR R) {a : Expr} {pos p2 : Pos} {a' : E} (h1 : R c a = some a') : Snd c (.Subscript a (.Slice none none none p2) pos) (.pr (.slc false false) [a']) := by
  refine Snd.of (fun {G k' kx X W} hc tk => ?_) (fun _ _ => rfl) rfl rfl
  refine PE.imp (pe_slice sl_D ((hR c a a' h1).pe hc tk) po_none po_none) fun σ H Q q => ?_
  obtain ⟨w, s, S, rfl, st, rs, q⟩ := q
  simp only [ev, evs, bind_assoc, bind_ok] at q
  refine ⟨w, s, S, rfl, st, rs, q.bind fun d S1 v w1 _ x1 rs1 rd1 q1 => ?_⟩
  exact px_slc rs1 (RV.of rs1 rd1) q1
theorem snd_slcL (hR : SndR R) {a l : Expr} {pos p2 : Pos} {a' l' : E} (h1 : R c a = some a') (h2 : R c l = some l') : Snd c (.Subscript a (.Slice (some l) none none p2) pos) (.pr (.slc true false) [a', l']) := by
  refine Snd.of (fun {G k' kx X W} hc tk => ?_) (fun _ _ => rfl) rfl rfl
  refine PE.imp (pe_slice sl_D ((hR c a a' h1).pe hc tk) (po_some ((hR c l l' h2).pe hc tk)) po_none) fun σ H Q q => ?_
  obtain ⟨w, s, S, rfl, st, rs, q⟩ := q
  simp only [ev, evs, bind_assoc, bind_ok] at q
  refine ⟨w, s, S, rfl, st, rs, q.bind fun d S1 v w1 _ x1 rs1 rd1 q1 => ⟨w1, s, S1, rfl, st.ext x1, rs1, q1.bind fun e S2 u w2 _ x2 rs2 rd2 q2 => ?_⟩⟩
  cases e with
  | int i => exact ⟨i, rd2.intI, px_slc rs2 (RV.of rs2 (RD.ext x2 _ _ rd1)) q2⟩
  | _ => exact q2.elim
theorem snd_slcH (hR : SndR R) {a l : Expr} {pos p2 : Pos} {a' l' : E} (h1 : R c a = some a') (h2 : R c l = some l') : Snd c (.Subscript a (.Slice none (some l) none p2) pos) (.pr (.slc false true) [a', l']) := by
  refine Snd.of (fun {G k' kx X W} hc tk => ?_) (fun _ _ => rfl) rfl rfl
  refine PE.imp (pe_slice sl_D ((hR c a a' h1).pe hc tk) po_none (po_some ((hR c l l' h2).pe hc tk))) fun σ H Q q => ?_
  obtain ⟨w, s, S, rfl, st, rs, q⟩ := q
  simp only [ev, evs, bind_assoc, bind_ok] at q
  refine ⟨w, s, S, rfl, st, rs, q.bind fun d S1 v w1 _ x1 rs1 rd1 q1 => ⟨w1, s, S1, rfl, st.ext x1, rs1, q1.bind fun e S2 u w2 _ x2 rs2 rd2 q2 => ?_⟩⟩
  cases e with
  | int i => exact ⟨i, rd2.intI, px_slc rs2 (RV.of rs2 (RD.ext x2 _ _ rd1)) q2⟩
  | _ => exact q2.elim
theorem snd_slcB (hR : SndR R) {a l h : Expr} {pos p2 : Pos} {a' l' h' : E} (h1 : R c a = some a') (h2 : R c l = some l') (h3 : R c h = some h') : Snd c (.Subscript a (.Slice (some l) (some h) none p2) pos) (.pr (.slc true true) [a', .pr .asint [l'], h']) := by
  refine Snd.of (fun {G k' kx X W} hc tk => ?_) (fun _ _ => rfl) rfl rfl
  refine PE.imp (pe_slice sl_D ((hR c a a' h1).pe hc tk) (po_some ((hR c l l' h2).pe hc tk)) (po_some ((hR c h h' h3).pe hc tk))) fun σ H Q q => ?_
  obtain ⟨w, s, S, rfl, st, rs, q⟩ := q
  simp only [ev, evs, bind_assoc, bind_ok] at q
  refine ⟨w, s, S, rfl, st, rs, q.bind fun d S1 v w1 _ x1 rs1 rd1 q1 => ⟨w1, s, S1, rfl, st.ext x1, rs1, q1.bind fun e S2 u w2 _ x2 rs2 rd2 q2 => ?_⟩⟩
  cases e with
  | int i =>
    simp only [pr, bind_ok] at q2
    refine ⟨i, rd2.intI, w2, s, S2, rfl, (st.ext x1).ext x2, rs2, q2.bind fun f S3 y w3 _ x3 rs3 rd3 q3 => ?_⟩
    cases f with
    | int j => exact ⟨j, rd3.intI, px_slc rs3 (RV.of rs3 (RD.ext (x2.trans x3) _ _ rd1)) q3⟩
    | _ => exact q3.elim
  | _ => exact q2.elim
theorem snd_rev (hR : SndR R) {a : Expr} {pos p1 p2 p3 : Pos} {j : Nat} {a' : E} (h1 : R c a = some a') : Snd c (.Subscript a (.Slice none none (some (.UnaryOp .USub (.Constant (.int 1) j p1) p2)) p3) pos) (.pr .rev [a']) := by
  refine Snd.of (fun {G k' kx X W} hc tk => ?_) (fun _ _ => rfl) rfl rfl
  refine PE.imp (pe_revD ((hR c a a' h1).pe hc tk)) fun σ H Q q => ?_
  obtain ⟨w, s, S, rfl, st, rs, q⟩ := q
  simp only [ev, evs, bind_assoc, bind_ok] at q
  refine ⟨w, s, S, rfl, st, rs, q.bind fun d S1 v w1 _ x1 rs1 rd1 q1 => ?_⟩
  exact px_rev rs1 rd1 q1
end Eng

/-! Eng12 -/
set_option Elab.async false
set_option linter.all false
set_option maxRecDepth 100000
set_option maxHeartbeats 4000000
/-! Calls, methods. -/
namespace Eng
open PySem PySem.Spec PyProof.Rows L2
variable {c : Ct} {R : Rec}

theorem Aft.flat {a b : Type} {kx : Nat → Value} {K : PySem.W.Frag} {W : WX} {σ : L2.St} {R : Wd → a → b → Prop} {w : Wd} {r : Res a} {Q : b → Hp → Prop} (h : Aft kx K W σ R w r Q) : Aft kx K (fun cls d _ H => W cls d σ H) [] R w r Q := by
  cases r with
  | ok d S => exact h
  | exc e S => exact h
  | no => exact h
theorem split_args {es : List Expr} {es' : List E} (hR : SndR R) (h : mapO (R c) es = some es') (hn : 0 < es.length) : ∃ e r, es = e :: r ∧ (∀ env : PySem.Env, starEach (e :: r) env = (false, eval e env) :: starEach r env) ∧ ∀ (pos : Pos) (env : PySem.Env), (backTo pos (starEach r env)).any (·.1) = false := by
  cases es with
  | nil => simp at hn
  | cons e r =>
    have hp := plain_list hR h
    exact ⟨e, r, rfl, fun env => star_of (hp e List.mem_cons_self) r env, fun pos env => nostar_of fun x hx => hp x (List.mem_cons_of_mem _ hx)⟩
theorem snd_own (hR : SndR R) {f : Str} {p pos : Pos} {args : List Expr} {es : List E} {i ar : Nat} (hg : isGl c f = true) (hf : c.g.funs.lookup f = some (i, ar)) (hl : args.length = ar) (h0 : 0 < ar) (h : mapO (R c) args = some es) : Snd c (.Call (.Name f p) args [] pos) (.call i es) := by
  refine Snd.of (fun {G k' kx X W} hc tk => ?_) (fun _ _ => rfl) rfl rfl
  obtain ⟨g1, g2, _, _⟩ := hc.gl hg
  obtain ⟨a, fd, ps, m1, m2, m3, m4, F⟩ := hc.fns f i ar hf
  obtain ⟨e, r, rfl, s1, s2⟩ := split_args hR h (by omega)
  refine PE.imp (pe_callS F hc.room g1 m1 m2 m3 (fun σ => passAt tk σ) (snd_list hR hc tk h) g2 (s1 _) (s2 _ _)) fun σ H Q q => ?_
  obtain ⟨w, s, S, rfl, st, rs, q⟩ := q
  simp only [ev] at q
  refine ⟨w, s, S, rfl, st, rs, q.bind fun ds S1 vs w1 e1 x1 rs1 rd1 q1 => ?_⟩
  exact ⟨w1, ds, S1, rfl, rs1, rd1, by rw [evs_len es S S1 ds e1, mapO_len h]; exact hl, q1.flat⟩
theorem snd_blt (hR : SndR R) {f : Str} {p : Pr} {p1 pos : Pos} {args : List Expr} {es : List E} {u : Value} {r : PySem.W.Frag → List V → Hp → VK → Prop} (hu : (∃ id, u = .builtin id) ∨ ∃ T, u = .type T) (hg : isGl c f = true) (hb : f ∈ BN) (hv : bootBuiltins f = some u)
    (hcall : ∀ {X : Cx}, X.calm = true → CallR X u (r X.K))
    (hpx : ∀ {kx : Nat → Value} {K : PySem.W.Frag} {W : WX} {σ : L2.St} {w : Wd} {S : Sto} {Q : VK} {ds : List D} {vs : List V}, ds.length = es.length → RS K w S → RDs K w ds vs → Aft kx K W σ (RD K) w (pr p ds S) Q → r K vs w.H Q)
    (h0 : 0 < args.length) (h : mapO (R c) args = some es) : Snd c (.Call (.Name f p1) args [] pos) (.pr p es) := by
  refine Snd.of (fun {G k' kx X W} hc tk => ?_) (fun _ _ => rfl) rfl rfl
  obtain ⟨g1, g2, _, g3⟩ := hc.gl hg
  obtain ⟨e, rr, rfl, s1, s2⟩ := split_args hR h h0
  have key : ∀ {σ : L2.St} {H : Hp} {Q : VK}, RdE kx X.K W (ev G (.pr p es)) σ H Q → tCB (r X.K) (RdA kx X.K W (evs G es)) σ H Q := by
    intro σ H Q q
    obtain ⟨w, s, S, rfl, st, rs, q⟩ := q
    simp only [ev] at q
    exact ⟨w, s, S, rfl, st, rs, q.bind fun ds S1 vs w1 e1 x1 rs1 rd1 q1 => hpx (evs_len es S S1 ds e1) rs1 rd1 q1⟩
  rcases hu with ⟨id, rfl⟩ | ⟨T, rfl⟩
  · exact PE.imp (pe_callB (hcall hc.calm) g1 (hc.bui f hb) hv (snd_list hR hc tk h) g3 g2 (s1 _) (s2 _ _)) fun σ H Q q => key q
  · exact PE.imp (pe_callTy (hcall hc.calm) g1 (hc.bui f hb) hv (snd_list hR hc tk h) g3 g2 (s1 _) (s2 _ _)) fun σ H Q q => key q
theorem one_of {K : PySem.W.Frag} {w : Wd} {ds : List D} {vs : List V} (hl : ds.length = 1) (h : RDs K w ds vs) : ∃ d v, ds = [d] ∧ vs = [v] ∧ RD K w d v := by
  cases ds with
  | nil => cases hl
  | cons d r =>
    cases r with
    | nil =>
      obtain ⟨v, r, rfl, h1, h2⟩ := h.cons_inv
      exact ⟨d, v, rfl, by rw [h2.nil_inv], h1⟩
    | cons _ _ => simp at hl
theorem two_of {K : PySem.W.Frag} {w : Wd} {ds : List D} {vs : List V} (hl : ds.length = 2) (h : RDs K w ds vs) : ∃ d e v u, ds = [d, e] ∧ vs = [v, u] ∧ RD K w d v ∧ RD K w e u := by
  cases ds with
  | nil => cases hl
  | cons d r =>
    obtain ⟨v, r', rfl, h1, h2⟩ := h.cons_inv
    obtain ⟨e, u, rfl, rfl, h3⟩ := one_of (by simpa using hl) h2
    exact ⟨d, e, v, u, rfl, rfl, h1, h3⟩
theorem snd_b1 (hR : SndR R) {f : Str} {p : Pr} {p1 pos : Pos} {a : Expr} {a' : E} (hg : isGl c f = true) (hb : f ∈ BN) (hp : b1 f = some p) (h : R c a = some a') : Snd c (.Call (.Name f p1) [a] [] pos) (.pr p [a']) := by
  have hm : mapO (R c) [a] = some [a'] := by simp only [mapO, h]
  unfold b1 at hp
  split at hp
  · rename_i e; subst e; cases hp
    exact snd_blt hR (r := rLenX) (.inl ⟨_, rfl⟩) hg hb (by decide +kernel) (fun _ => call_lenX) (fun hl rs rd q => by obtain ⟨d, v, rfl, rfl, r1⟩ := one_of hl rd; exact px_len rs r1 q) (by simp) hm
  split at hp
  · rename_i e; subst e; cases hp
    exact snd_blt hR (r := rAll) (.inl ⟨_, rfl⟩) hg hb (by decide +kernel) (fun hc => cr_all hc) (fun hl rs rd q => by obtain ⟨d, v, rfl, rfl, r1⟩ := one_of hl rd; exact px_all rs r1 q) (by simp) hm
  split at hp
  · rename_i e; subst e; cases hp
    exact snd_blt hR (r := rAny) (.inl ⟨_, rfl⟩) hg hb (by decide +kernel) (fun hc => cr_any hc) (fun hl rs rd q => by obtain ⟨d, v, rfl, rfl, r1⟩ := one_of hl rd; exact px_any rs r1 q) (by simp) hm
  split at hp
  · rename_i e; subst e; cases hp
    exact snd_blt hR (r := rSum) (.inl ⟨_, rfl⟩) hg hb (by decide +kernel) (fun hc => cr_sum hc) (fun hl rs rd q => by obtain ⟨d, v, rfl, rfl, r1⟩ := one_of hl rd; exact px_sum rs r1 q) (by simp) hm
  split at hp
  · rename_i e; subst e; cases hp
    exact snd_blt hR (r := rTupleX) (.inr ⟨_, rfl⟩) hg hb (by decide +kernel) (fun hc => call_tuple_of) (fun hl rs rd q => by obtain ⟨d, v, rfl, rfl, r1⟩ := one_of hl rd; exact px_tuple rs r1 q) (by simp) hm
  split at hp
  · rename_i e; subst e; cases hp
    exact snd_blt hR (r := rListX) (.inr ⟨_, rfl⟩) hg hb (by decide +kernel) (fun hc => call_list_of) (fun hl rs rd q => by obtain ⟨d, v, rfl, rfl, r1⟩ := one_of hl rd; exact px_list rs r1 q) (by simp) hm
  split at hp
  · rename_i e; subst e; cases hp
    exact snd_blt hR (r := fun _ => rIntX) (.inr ⟨_, rfl⟩) hg hb (by decide +kernel) (fun hc => call_int1) (fun hl rs rd q => by obtain ⟨d, v, rfl, rfl, r1⟩ := one_of hl rd; exact px_int rs r1 q) (by simp) hm
  split at hp
  · rename_i e; subst e; cases hp
    exact snd_blt hR (r := rMax) (.inl ⟨_, rfl⟩) hg hb (by decide +kernel) (fun hc => cr_max hc) (fun hl rs rd q => by obtain ⟨d, v, rfl, rfl, r1⟩ := one_of hl rd; exact px_maxl rs r1 q) (by simp) hm
  · cases hp
theorem snd_b2 (hR : SndR R) {f : Str} {p : Pr} {p1 pos : Pos} {a b : Expr} {a' b' : E} (hg : isGl c f = true) (hb : f ∈ BN) (hp : b2 f = some p) (h : R c a = some a') (h' : R c b = some b') : Snd c (.Call (.Name f p1) [a, b] [] pos) (.pr p [a', b']) := by
  have hm : mapO (R c) [a, b] = some [a', b'] := by simp only [mapO, h, h']
  unfold b2 at hp
  split at hp
  · rename_i e; subst e; cases hp
    exact snd_blt hR (r := fun _ xs H Q => ∃ i j, xs = [.int i, .int j] ∧ Q (.int (if j < i then j else i)) H) (.inl ⟨_, rfl⟩) hg hb (by decide +kernel) (fun hc => call_min2 hc) (fun hl rs rd q => by obtain ⟨d, e, v, u, rfl, rfl, r1, r2⟩ := two_of hl rd; exact px_min2 rs r1 r2 q) (by simp) hm
  split at hp
  · rename_i e; subst e; cases hp
    exact snd_blt hR (r := fun _ xs H Q => ∃ i j, xs = [.int i, .int j] ∧ Q (.int (if j > i then j else i)) H) (.inl ⟨_, rfl⟩) hg hb (by decide +kernel) (fun hc => call_max2 hc) (fun hl rs rd q => by obtain ⟨d, e, v, u, rfl, rfl, r1, r2⟩ := two_of hl rd; exact px_max2 rs r1 r2 q) (by simp) hm
  · cases hp
/-! ### isinstance -/
theorem tyOf_boot {x : Str} {t : Ty} (h : tyOf x = some t) : x ∈ BN ∧ bootBuiltins x = some (.type t.nm) := by
  unfold tyOf at h
  split at h
  · rename_i e; subst e; cases h; exact ⟨by decide +kernel, by decide +kernel⟩
  split at h
  · rename_i e; subst e; cases h; exact ⟨by decide +kernel, by decide +kernel⟩
  split at h
  · rename_i e; subst e; cases h; exact ⟨by decide +kernel, by decide +kernel⟩
  split at h
  · rename_i e; subst e; cases h; exact ⟨by decide +kernel, by decide +kernel⟩
  split at h
  · rename_i e; subst e; cases h; exact ⟨by decide +kernel, by decide +kernel⟩
  · cases h
theorem pe_ty {G : Nat → List D → Sto → Res D} {k : Nat} {kx : Nat → Value} {X : Cx} (hc : CxOk c G k kx X) {e : Expr} {t : Ty} (h : tyE c e = some t) : PE X e (tC (.ty t.nm)) ∧ plainX e = true := by
  cases e with
  | Name x p =>
    simp only [tyE] at h
    split at h
    · rename_i hg
      obtain ⟨g1, g2, _, g3⟩ := hc.gl hg
      obtain ⟨b1, b2⟩ := tyOf_boot h
      exact ⟨pe_bltn g1 (hc.bui x b1) b2 rfl g3 g2, rfl⟩
    · cases h
  | _ => simp only [tyE] at h; cases h
def tTys (ts : List Ty) : TA := fun _ H Q => Q (ts.map fun t => .ty t.nm) H
theorem pa_tys {G : Nat → List D → Sto → Res D} {k : Nat} {kx : Nat → Value} {X : Cx} (hc : CxOk c G k kx X) : ∀ {es : List Expr} {ts : List Ty}, mapO (tyE c) es = some ts → PA X es (tTys ts)
  | [], ts, h => by
    simp only [mapO, Option.some.injEq] at h
    subst h
    exact PA.imp pa_nil fun σ H Q q => q
  | e :: es, ts, h => by
    obtain ⟨t, r, h1, h2, rfl⟩ := mapO_cons h
    obtain ⟨p1, p2⟩ := pe_ty hc h1
    exact PA.imp (pa_cons p1 (pa_tys hc h2) (star_of p2 es X.env)) fun σ H Q q => q
theorem snd_isi1 (hR : SndR R) {p1 pos : Pos} {a b : Expr} {a' : E} {t : Ty} (hg : isGl c "isinstance" = true) (h : R c a = some a') (h' : tyE c b = some t) : Snd c (.Call (.Name "isinstance" p1) [a, b] [] pos) (.pr (.isi [t]) [a']) := by
  have sa := hR c a a' h
  refine Snd.of (fun {G k' kx X W} hc tk => ?_) (fun _ _ => rfl) rfl rfl
  obtain ⟨g1, g2, _, g3⟩ := hc.gl hg
  obtain ⟨q1, q2⟩ := pe_ty hc h'
  refine PE.imp (pe_callB call_isi g1 (hc.bui _ (by decide +kernel)) (by decide +kernel) (pa_cons (sa.pe hc tk) (pa_cons q1 pa_nil (star_of q2 [] X.env)) (star_of sa.pl [b] X.env)) g3 g2 (star_of sa.pl [b] X.env) (by rw [star_of q2 []] <;> rfl)) fun σ H Q q => ?_
  obtain ⟨w, s, S, rfl, st, rs, q⟩ := q
  simp only [ev, evs, bind_assoc, bind_ok] at q
  exact ⟨w, s, S, rfl, st, rs, q.bind fun d S1 v w1 _ x1 rs1 rd1 q1 => px_isi1 rs1 rd1 q1⟩
theorem snd_isiT (hR : SndR R) {p1 pos p2 : Pos} {a b : Expr} {bs : List Expr} {j : Nat} {a' : E} {ts : List Ty} (hg : isGl c "isinstance" = true) (hl : bs.length ≤ 100) (h : R c a = some a') (h' : mapO (tyE c) (b :: bs) = some ts) :
    Snd c (.Call (.Name "isinstance" p1) [a, .Tuple (b :: bs) j p2] [] pos) (.pr (.isi ts) [a']) := by
  have sa := hR c a a' h
  refine Snd.of (fun {G k' kx X W} hc tk => ?_) (fun _ _ => rfl) rfl rfl
  obtain ⟨g1, g2, _, g3⟩ := hc.gl hg
  have q1 := pa_tys hc h'
  refine PE.imp (pe_callB call_isiT g1 (hc.bui _ (by decide +kernel)) (by decide +kernel) (pa_cons (sa.pe hc tk) (pa_cons (pe_tup q1) pa_nil (star_of rfl [] X.env)) (star_of sa.pl _ X.env)) g3 g2 (star_of sa.pl _ X.env) (by rw [star_of rfl []] <;> rfl)) fun σ H Q q => ?_
  obtain ⟨w, s, S, rfl, st, rs, q⟩ := q
  simp only [ev, evs, bind_assoc, bind_ok] at q
  refine ⟨w, s, S, rfl, st, rs, q.bind fun d S1 v w1 _ x1 rs1 rd1 q1 => ?_⟩
  have l := mapO_len h'
  refine ⟨by rw [List.length_map, sizeLine_eq, l]; simp; omega, fun p hp => ?_⟩
  obtain ⟨t, r, e1, e2, rfl⟩ := mapO_cons h'
  exact px_isiT (t := t) (ts := r) (p := p) (w := w1.new p (.tup ((t :: r).map fun (t : Ty) => V.ty t.nm))) (rs1.new hp) (RD.ext (Ext.new hp) _ _ rd1) (show upd w1.H p (.tup ((t :: r).map fun (t : Ty) => V.ty t.nm)) p = _ from upd_same) (q1.mono (Ext.new hp))
/-! ### methods -/
theorem base_of {o : Expr} (h : okRecv o = true) (m : Str) (env : PySem.Env) : attributeBase o m env (eval o env) = eval o env := by
  cases o with
  | Call f args kws pos =>
    cases f <;> first | (simp [okRecv] at h; done) | skip
    cases args with
    | nil => simp [okRecv] at h
    | cons _ _ => rfl
  | _ => first | rfl | (simp [okRecv] at h)
theorem few_of {e : Expr} {es : List Expr} (h : ∀ x ∈ e :: es, plainX x = true) (hl : (e :: es).length < 30) (cpos : Pos) (env : PySem.Env) : ((backTo cpos (starEach (e :: es) env)).all (fun x => !x.1) && (backToKw cpos (keywordEach [] env)).all (fun x => x.1.isSome)
      && decide ((e :: es).length + ([] : List Keyword).length + (if ([] : List Keyword).isEmpty then 0 else 1) < 30)) = true := by
  have h1 : (backTo cpos (starEach (e :: es) env)).all (fun x => !x.1) = true := by
    have := nostar_of (pos := cpos) (env := env) h
    rw [List.any_eq_false] at this
    rw [List.all_eq_true]
    intro x hx
    have := this x hx
    simpa using this
  have h2 : (backToKw cpos (keywordEach [] env)).all (fun x => x.1.isSome) = true := by rfl
  have h3 : decide ((e :: es).length + ([] : List Keyword).length + (if ([] : List Keyword).isEmpty then 0 else 1) < 30) = true := decide_eq_true (by show (e :: es).length + 0 + 0 < 30; omega)
  rw [h1, h2, h3] <;> rfl
theorem okM_lst {p : Pr} (hp : p = .app ∨ p = .ext) {K : PySem.W.Frag} {w : Wd} {S : Sto} {d : D} {v : V} (rs : RS K w S) (rd : RD K w d v) (h : okM p d S = true) : tyV K "list" v w.H := by
  have rv := RV.of rs rd
  have e : ∃ xs, Eng.rs S d = .lst xs := by
    rcases hp with rfl | rfl <;> (simp only [okM] at h; split at h <;> first | exact ⟨_, by assumption⟩ | cases h)
  obtain ⟨xs, e⟩ := e
  rw [e] at rv
  obtain ⟨a, vs, rfl, h1, _, _⟩ := rv.lstI
  exact .inl ⟨rfl, vs, SqL.of h1⟩
theorem okM_dct {p : Pr} (hp : p = .get ∨ p = .setd) {K : PySem.W.Frag} {w : Wd} {S : Sto} {d : D} {v : V} (rs : RS K w S) (rd : RD K w d v) (h : okM p d S = true) : ∃ a, v = .ref a ∧ IsD w.H a := by
  cases d with
  | loc n =>
    obtain ⟨a, rfl, e⟩ := rd.locI
    have e1 : ∃ kvs, S[n]? = some (.dct kvs) := by
      rcases hp with rfl | rfl <;> (simp only [okM] at h; split at h <;> first | exact ⟨_, by assumption⟩ | cases h)
    obtain ⟨kvs, e1⟩ := e1
    exact ⟨a, rfl, isD_of rs e e1⟩
  | _ => rcases hp with rfl | rfl <;> (simp only [okM] at h; cases h)
theorem snd_m0 (hR : SndR R) {o : Expr} {m : Str} {p : Pr} {apos pos : Pos} {o' : E} (hp : m0 m = some p) (hr : okRecv o = true) (hln : (apos.endLine == pos.line) = true) (h : R c o = some o') : Snd c (.Call (.Attribute o m apos) [] [] pos) (.mth p o' []) := by
  refine Snd.of (fun {G k' kx X W} hc tk => ?_) (fun _ _ => rfl) rfl rfl
  unfold m0 at hp
  split at hp
  · rename_i e; subst e; cases hp
    refine PE.imp (pe_bm0 PySem.F.plainAttrs_str PySem.F.slot_str_upper PySem.F.type_str_upper mt_upper ((hR c o o' h).pe hc tk) (base_of hr _ _) hln) fun σ H Q q => ?_
    obtain ⟨w, s, S, rfl, st, rs, q⟩ := q
    simp only [ev, evs, bind_ok] at q
    refine ⟨w, s, S, rfl, st, rs, q.bind fun d S1 v w1 _ x1 rs1 rd1 q1 => ?_⟩
    split at q1
    · exact px_upper rs1 rd1 q1
    · exact q1.elim
  · cases hp
theorem snd_m1 (hR : SndR R) {o a : Expr} {m : Str} {p : Pr} {apos pos : Pos} {o' a' : E} (hp : m1 m = some p) (hr : okRecv o = true) (hln : (apos.endLine == pos.line) = true) (h : R c o = some o') (h' : R c a = some a') : Snd c (.Call (.Attribute o m apos) [a] [] pos) (.mth p o' [a']) := by
  refine Snd.of (fun {G k' kx X W} hc tk => ?_) (fun _ _ => rfl) rfl rfl
  have sa := hR c a a' h'
  have hm : mapO (R c) [a] = some [a'] := by simp only [mapO, h']
  have hf := few_of (e := a) (es := []) (fun x hx => by simp at hx; subst hx; exact sa.pl) (by simp) pos X.env
  have hs : starEach [a] X.env = (false, eval a X.env) :: starEach [] X.env := star_of sa.pl [] X.env
  unfold m1 at hp
  split at hp
  · rename_i e; subst e; cases hp
    refine PE.imp (pe_bm PySem.F.plainAttrs_list PySem.F.slot_list_append PySem.F.type_list_append mt_append ((hR c o o' h).pe hc tk) (snd_list hR hc tk hm) (base_of hr _ _) hf hln hs rfl) fun σ H Q q => ?_
    obtain ⟨w, s, S, rfl, st, rs, q⟩ := q
    simp only [ev] at q
    refine ⟨w, s, S, rfl, st, rs, q.bind fun d S1 v w1 _ x1 rs1 rd1 q1 => ?_⟩
    split at q1
    · rename_i ok
      refine ⟨okM_lst (.inl rfl) rs1 rd1 ok, w1, s, S1, rfl, st.ext x1, rs1, q1.bind fun ds S2 vs w2 e2 x2 rs2 rd2 q2 => ?_⟩
      obtain ⟨d', v', rfl, rfl, r2⟩ := one_of (evs_len _ _ _ _ e2) rd2
      exact (px_app rs2 (RD.ext x2 _ _ rd1) r2 q2).2
    · exact q1.elim
  split at hp
  · rename_i e; subst e; cases hp
    refine PE.imp (pe_bm PySem.F.plainAttrs_list PySem.F.slot_list_extend PySem.F.type_list_extend mt_extend ((hR c o o' h).pe hc tk) (snd_list hR hc tk hm) (base_of hr _ _) hf hln hs rfl) fun σ H Q q => ?_
    obtain ⟨w, s, S, rfl, st, rs, q⟩ := q
    simp only [ev] at q
    refine ⟨w, s, S, rfl, st, rs, q.bind fun d S1 v w1 _ x1 rs1 rd1 q1 => ?_⟩
    split at q1
    · rename_i ok
      refine ⟨okM_lst (.inr rfl) rs1 rd1 ok, w1, s, S1, rfl, st.ext x1, rs1, q1.bind fun ds S2 vs w2 e2 x2 rs2 rd2 q2 => ?_⟩
      obtain ⟨d', v', rfl, rfl, r2⟩ := one_of (evs_len _ _ _ _ e2) rd2
      exact (px_ext rs2 (RD.ext x2 _ _ rd1) r2 q2).2
    · exact q1.elim
  · cases hp
theorem snd_m2 (hR : SndR R) {o a b : Expr} {m : Str} {p : Pr} {apos pos : Pos} {o' a' b' : E} (hp : m2 m = some p) (hr : okRecv o = true) (hln : (apos.endLine == pos.line) = true) (h : R c o = some o') (h1 : R c a = some a') (h2 : R c b = some b') :
    Snd c (.Call (.Attribute o m apos) [a, b] [] pos) (.mth p o' [a', b']) := by
  refine Snd.of (fun {G k' kx X W} hc tk => ?_) (fun _ _ => rfl) rfl rfl
  have so := hR c o o' h
  have sa := hR c a a' h1
  have sb := hR c b b' h2
  have hf := few_of (e := a) (es := [b]) (fun x hx => by simp at hx; rcases hx with rfl | rfl; exact sa.pl; exact sb.pl) (by simp) pos X.env
  have M : M2 X o m apos a b pos := ⟨base_of hr _ _, hf, hln, by rw [star_of sa.pl, star_of sb.pl] <;> rfl⟩
  unfold m2 at hp
  split at hp
  · rename_i e; subst e; cases hp
    refine PE.imp (pe_dget2 (by have := hc.units; omega) (so.pe hc tk) (sa.pe hc tk) (sb.pe hc tk) M) fun σ H Q q => ?_
    obtain ⟨w, s, S, rfl, st, rs, q⟩ := q
    simp only [ev, evs, bind_assoc, bind_ok] at q
    refine ⟨w, s, S, rfl, st, rs, q.bind fun d S1 v w1 _ x1 rs1 rd1 q1 => ?_⟩
    split at q1
    · rename_i ok
      obtain ⟨l, rfl, hd⟩ := okM_dct (.inl rfl) rs1 rd1 ok
      refine ⟨l, rfl, hd, w1, s, S1, rfl, st.ext x1, rs1, q1.bind fun d2 S2 v2 w2 e2 x2 rs2 rd2 q2 => ⟨w2, s, S2, rfl, (st.ext x1).ext x2, rs2, q2.bind fun d3 S3 v3 w3 e3 x3 rs3 rd3 q3 => ?_⟩⟩
      obtain ⟨l', o, e, g, q⟩ := px_get rs3 (RD.ext (x2.trans x3) _ _ rd1) (RD.ext x3 _ _ rd2) rd3 q3
      cases e
      exact ⟨o, g, q⟩
    · exact q1.elim
  split at hp
  · rename_i e; subst e; cases hp
    refine PE.imp (pe_dsetd (so.pe hc tk) (sa.pe hc tk) (sb.pe hc tk) M) fun σ H Q q => ?_
    obtain ⟨w, s, S, rfl, st, rs, q⟩ := q
    simp only [ev, evs, bind_assoc, bind_ok] at q
    refine ⟨w, s, S, rfl, st, rs, q.bind fun d S1 v w1 _ x1 rs1 rd1 q1 => ?_⟩
    split at q1
    · rename_i ok
      obtain ⟨l, rfl, hd⟩ := okM_dct (.inr rfl) rs1 rd1 ok
      refine ⟨l, rfl, hd, w1, s, S1, rfl, st.ext x1, rs1, q1.bind fun d2 S2 v2 w2 e2 x2 rs2 rd2 q2 => ⟨w2, s, S2, rfl, (st.ext x1).ext x2, rs2, q2.bind fun d3 S3 v3 w3 e3 x3 rs3 rd3 q3 => ?_⟩⟩
      obtain ⟨l', e, q⟩ := px_setd rs3 (RD.ext (x2.trans x3) _ _ rd1) (RD.ext x3 _ _ rd2) rd3 q3
      cases e
      exact q
    · exact q1.elim
  · cases hp
theorem snd_dnew {pos : Pos} : Snd c (.Dict [] [] pos) (.pr .dnew []) := by
  refine Snd.of (fun {G k' kx X W} hc tk => ?_) (fun _ _ => rfl) rfl rfl
  refine PE.imp pe_dnewK fun σ H Q q => ?_
  obtain ⟨w, s, S, rfl, st, rs, q⟩ := q
  simp only [ev, evs, bind_ok] at q
  exact px_dnew rs q
end Eng

/-! Eng13 -/
set_option Elab.async false
set_option linter.all false
set_option maxRecDepth 100000
set_option maxHeartbeats 4000000
/-! What is walked; comprehensions. -/
namespace Eng
open PySem PySem.Spec PyProof.Rows L2 RZ
variable {c : Ct} {R : Rec}

section
variable {K : PySem.W.Frag} {w : Wd} {S : Sto}
theorem zipIdx_get {a : Type} : ∀ (xs : List a) (i k : Nat), (xs.zipIdx k)[i]? = (xs[i]?).map fun x => (x, k + i)
  | [], i, k => by simp
  | x :: xs, 0, k => by simp
  | x :: xs, i + 1, k => by
    have := zipIdx_get xs i (k + 1)
    have e : k + 1 + i = k + (i + 1) := by omega
    simpa [e] using this
theorem walk_enum {xs : List D} {a : Addr} {vs : List V} (h1 : LsA w a vs) (h3 : RDs K w xs vs) : WalkD K w (xs.zipIdx.map fun p => .tup [.int p.2, p.1], none) (Ite K a) := fun w2 S2 x rs _ => by
  have q := (h1.ext x).2
  have r := RDs.ext x _ _ h3
  refine ⟨⟨vs, SqL.of q, by rw [r.length]; simp⟩, fun i d e => ?_⟩
  simp only [List.getElem?_map, zipIdx_get] at e
  cases ex : xs[i]? with
  | none => rw [ex] at e; cases e
  | some y =>
    rw [ex] at e
    simp only [Option.map_some, Option.some.injEq] at e
    subst e
    obtain ⟨v, e1, e2⟩ := r.get ex
    refine ⟨⟨vs, v, SqL.of q, e1⟩, fun v' H' yl => ?_⟩
    obtain ⟨T, x', rfl, hT, rfl, hx⟩ := yl
    have := hx vs (SqL.of q)
    rw [e1] at this; cases this
    refine ⟨w2.new T (.tup [.int (i : Nat), v]), rfl, Ext.new hT, rs.new hT, ?_⟩
    simp only [RD]
    refine ⟨T, [.int (i : Nat), v], rfl, upd_same, by simp [szL], RDs.cons (by simp only [RD]; simp) (RDs.cons (RD.ext (Ext.new hT) _ _ e2) RDs.nil)⟩
theorem zip_get {a b : Type} : ∀ (xs : List a) (ys : List b) (i : Nat) (p : a × b), (xs.zip ys)[i]? = some p → xs[i]? = some p.1 ∧ ys[i]? = some p.2
  | [], ys, i, p, h => by simp at h
  | x :: xs, [], i, p, h => by simp at h
  | x :: xs, y :: ys, 0, p, h => by simp at h; subst h; exact ⟨rfl, rfl⟩
  | x :: xs, y :: ys, i + 1, p, h => by
    simp only [List.zip_cons_cons, List.getElem?_cons_succ] at h
    simpa using zip_get xs ys i p h
theorem walk_zipL {xs ys : List D} {a b : Addr} {vs us : List V} (h1 : LsA w a vs) (h3 : RDs K w xs vs) (g1 : LsA w b us) (g3 : RDs K w ys us) : WalkD K w ((xs.zip ys).map fun p => .tup [p.1, p.2], none) (Itz K a b) := fun w2 S2 x rs _ => by
  have q := (h1.ext x).2
  have r := RDs.ext x _ _ h3
  have q' := (g1.ext x).2
  have r' := RDs.ext x _ _ g3
  refine ⟨⟨vs, us, SqL.of q, SqL.of q', ?_⟩, fun i d e => ?_⟩
  · rw [r.length, r'.length]; simp only [List.length_map, List.length_zip]; omega
  rw [List.getElem?_map] at e
  obtain ⟨p, e0, rfl⟩ := Option.map_eq_some_iff.mp e
  obtain ⟨z1, z2⟩ := zip_get _ _ _ _ e0
  obtain ⟨v, e1, e2⟩ := r.get z1
  obtain ⟨u, f1, f2⟩ := r'.get z2
  refine ⟨⟨vs, us, v, u, SqL.of q, SqL.of q', e1, f1⟩, fun v' H' yl => ?_⟩
  obtain ⟨T, x', y', rfl, hT, rfl, hx, hy⟩ := yl
  have t1 := hx vs (SqL.of q)
  have t2 := hy us (SqL.of q')
  rw [e1] at t1; cases t1
  rw [f1] at t2; cases t2
  refine ⟨w2.new T (.tup [v, u]), rfl, Ext.new hT, rs.new hT, ?_⟩
  simp only [RD]
  exact ⟨T, [v, u], rfl, upd_same, by simp [szL], RDs.cons (RD.ext (Ext.new hT) _ _ e2) (RDs.cons (RD.ext (Ext.new hT) _ _ f2) RDs.nil)⟩
theorem walk_zipT {xs ys : List D} {a b : Addr} {vs us : List V} (h1 : w.H a = some (.tup vs)) (h3 : RDs K w xs vs) (g1 : w.H b = some (.tup us)) (g3 : RDs K w ys us) : WalkD K w ((xs.zip ys).map fun p => .tup [p.1, p.2], none) (ItzT K a b) := fun w2 S2 x rs _ => by
  have q := x.tup _ _ h1
  have r := RDs.ext x _ _ h3
  have q' := x.tup _ _ g1
  have r' := RDs.ext x _ _ g3
  refine ⟨⟨vs, us, SqT.of q, SqT.of q', ?_⟩, fun i d e => ?_⟩
  · rw [r.length, r'.length]; simp only [List.length_map, List.length_zip]; omega
  rw [List.getElem?_map] at e
  obtain ⟨p, e0, rfl⟩ := Option.map_eq_some_iff.mp e
  obtain ⟨z1, z2⟩ := zip_get _ _ _ _ e0
  obtain ⟨v, e1, e2⟩ := r.get z1
  obtain ⟨u, f1, f2⟩ := r'.get z2
  refine ⟨⟨vs, us, v, u, SqT.of q, SqT.of q', e1, f1⟩, fun v' H' yl => ?_⟩
  obtain ⟨T, x', y', rfl, hT, rfl, hx, hy⟩ := yl
  have t1 := hx vs (SqT.of q)
  have t2 := hy us (SqT.of q')
  rw [e1] at t1; cases t1
  rw [f1] at t2; cases t2
  refine ⟨w2.new T (.tup [v, u]), rfl, Ext.new hT, rs.new hT, ?_⟩
  simp only [RD]
  exact ⟨T, [v, u], rfl, upd_same, by simp [szL], RDs.cons (RD.ext (Ext.new hT) _ _ e2) (RDs.cons (RD.ext (Ext.new hT) _ _ f2) RDs.nil)⟩
end

/-- the reckoning of a source -/
def evI (G : Nat → List D → Sto → Res D) (k : SK) (es : List E) (s : Env) (S : Sto) : Res (List D × Option Nat) := (evs G es s S).bind fun ds S1 => srcR k ds S1
theorem src_seq {G : Nat → List D → Sto → Res D} {kx : Nat → Value} {X : Cx} {W : WX} {tg it : Expr} {e : E} (h : PE X it (RdE kx X.K W (ev G e))) : PI X tg it (RdI kx X.K W (evI G .seq [e])) := by
  refine PI.imp (pi_any h) fun σ H Q q => ?_
  obtain ⟨w, s, S, rfl, st, rs, q⟩ := q
  simp only [evI, evs, bind_assoc, bind_ok] at q
  refine ⟨w, s, S, rfl, st, rs, q.bind fun d S1 v w1 _ x1 rs1 rd1 q1 => ?_⟩
  unfold srcR at q1
  obtain ⟨p, ep, q1⟩ := q1.ofO
  have fin : ∀ J, WalkD X.K w1 p J → Q J w1.H := fun J hJ => q1 J w1 (Ext.refl w1) rs1 hJ
  cases d with
  | lst xs =>
    simp only [items, Option.some.injEq] at ep; subst ep
    obtain ⟨a, vs, rfl, h1, h2, h3⟩ := rd1.lstI
    exact .inl ⟨a, rfl, ⟨vs, SqL.of h1.2⟩, fin _ (walk_lst h1 h3)⟩
  | tup xs =>
    simp only [items, Option.some.injEq] at ep; subst ep
    obtain ⟨a, vs, rfl, h1, h2, h3⟩ := rd1.tupI
    exact .inr (.inl ⟨a, rfl, ⟨vs, SqT.of h1⟩, fin _ (walk_tup h1 h3)⟩)
  | str z =>
    simp only [items, Option.some.injEq] at ep; subst ep
    obtain ⟨rfl, ok⟩ := rd1.strI
    exact .inr (.inr ⟨_, rfl, fin _ (walk_str ok)⟩)
  | loc n =>
    obtain ⟨a, rfl, e1⟩ := rd1.locI
    obtain ⟨m, e2, e3⟩ := rs1.loc e1
    simp only [items, e2] at ep
    cases m with
    | lst xs =>
      simp only [Option.some.injEq] at ep; subst ep
      obtain ⟨vs, h1, _, _⟩ := e3
      exact .inl ⟨a, rfl, ⟨vs, SqL.of h1⟩, fin _ (walk_loc e1)⟩
    | dct _ => cases ep
    | dtt _ => cases ep
  | _ => simp only [items] at ep; cases ep
theorem src_rng1 {G : Nat → List D → Sto → Res D} {k : Nat} {kx : Nat → Value} {X : Cx} {W : WX} {tg a : Expr} {p pos : Pos} {a' : E} (hc : CxOk c G k kx X) (tk : Takes X W) (hR : SndR R) (hg : isGl c "range" = true) (h : R c a = some a') : PI X tg (.Call (.Name "range" p) [a] [] pos) (RdI kx X.K W (evI G .rng [a'])) := by
  obtain ⟨g1, _, _, _⟩ := hc.gl hg
  have hm : mapO (R c) [a] = some [a'] := by simp only [mapO, h]
  refine PI.imp (pi_range1 g1 (hc.bui _ (by decide +kernel)) (snd_list hR hc tk hm) (star_of (hR c a a' h).pl [] X.env)) fun σ H Q q => ?_
  obtain ⟨w, s, S, rfl, st, rs, q⟩ := q
  unfold evI at q
  refine ⟨w, s, S, rfl, st, rs, q.bind fun ds S1 vs w1 e1 x1 rs1 rd1 q1 => ?_⟩
  obtain ⟨d, v, rfl, rfl, r1⟩ := one_of (evs_len _ _ _ _ e1) rd1
  unfold srcR at q1
  obtain ⟨p, ep, q1⟩ := q1.ofO
  cases d with
  | int j =>
    obtain rfl := r1.intI
    simp only [items] at ep
    split at ep
    · rename_i hj
      cases ep
      have := walk_rng (K := X.K) (w := w1) (lo := 0) (n := j.toNat)
      simp only [Int.zero_add] at this
      exact ⟨j, rfl, hj.1, hj.2, q1 _ w1 (Ext.refl w1) rs1 this⟩
    · cases ep
  | _ => simp only [items] at ep; cases ep
theorem src_rng2 {G : Nat → List D → Sto → Res D} {k : Nat} {kx : Nat → Value} {X : Cx} {W : WX} {tg a b : Expr} {p pos : Pos} {a' b' : E} (hc : CxOk c G k kx X) (tk : Takes X W) (hR : SndR R) (hg : isGl c "range" = true) (h : R c a = some a') (h' : R c b = some b') : PI X tg (.Call (.Name "range" p) [a, b] [] pos) (RdI kx X.K W (evI G .rng [a', b'])) := by
  obtain ⟨g1, _, _, _⟩ := hc.gl hg
  have hm : mapO (R c) [a, b] = some [a', b'] := by simp only [mapO, h, h']
  refine PI.imp (pi_range2 g1 (hc.bui _ (by decide +kernel)) (snd_list hR hc tk hm) (by rw [star_of (hR c a a' h).pl, star_of (hR c b b' h').pl] <;> rfl) (star_of (hR c b b' h').pl [] X.env)) fun σ H Q q => ?_
  obtain ⟨w, s, S, rfl, st, rs, q⟩ := q
  unfold evI at q
  refine ⟨w, s, S, rfl, st, rs, q.bind fun ds S1 vs w1 e1 x1 rs1 rd1 q1 => ?_⟩
  obtain ⟨d, e, v, u, rfl, rfl, r1, r2⟩ := two_of (evs_len _ _ _ _ e1) rd1
  unfold srcR at q1
  obtain ⟨p, ep, q1⟩ := q1.ofO
  cases d with
  | int i =>
    cases e with
    | int j =>
      obtain rfl := r1.intI
      obtain rfl := r2.intI
      simp only [items] at ep
      split at ep
      · rename_i hj
        cases ep
        exact ⟨i, j, rfl, hj, q1 _ w1 (Ext.refl w1) rs1 (walk_rng (K := X.K) (w := w1) (lo := i) (n := (j - i).toNat))⟩
      · cases ep
    | _ => simp only [items] at ep; cases ep
  | _ => cases e <;> (simp only [items] at ep; cases ep)
theorem tupT_of {tg : Expr} (h : isTupT tg = true) : ∃ es k p, tg = .Tuple es k p := by
  cases tg <;> first | (simp [isTupT] at h; done) | exact ⟨_, _, _, rfl⟩
theorem src_enum {G : Nat → List D → Sto → Res D} {k : Nat} {kx : Nat → Value} {X : Cx} {W : WX} {tg a : Expr} {p pos : Pos} {a' : E} (hc : CxOk c G k kx X) (tk : Takes X W) (hR : SndR R) (hg : isGl c "enumerate" = true) (ht : isTupT tg = true) (h : R c a = some a') : PI X tg (.Call (.Name "enumerate" p) [a] [] pos) (RdI kx X.K W (evI G .enum [a'])) := by
  obtain ⟨g1, _, _, _⟩ := hc.gl hg
  obtain ⟨es, kk, tp, rfl⟩ := tupT_of ht
  have hm : mapO (R c) [a] = some [a'] := by simp only [mapO, h]
  refine PI.imp (pi_enum g1 (hc.bui _ (by decide +kernel)) (snd_list hR hc tk hm) (star_of (hR c a a' h).pl [] X.env)) fun σ H Q q => ?_
  obtain ⟨w, s, S, rfl, st, rs, q⟩ := q
  unfold evI at q
  refine ⟨w, s, S, rfl, st, rs, q.bind fun ds S1 vs w1 e1 x1 rs1 rd1 q1 => ?_⟩
  obtain ⟨d, v, rfl, rfl, r1⟩ := one_of (evs_len _ _ _ _ e1) rd1
  unfold srcR at q1
  obtain ⟨p, ep, q1⟩ := q1.ofO
  cases d with
  | lst xs =>
    simp only [items, Option.some.injEq] at ep; subst ep
    obtain ⟨a, vs, rfl, h1, h2, h3⟩ := r1.lstI
    exact ⟨a, vs, rfl, SqL.of h1.2, q1 _ w1 (Ext.refl w1) rs1 (walk_enum h1 h3)⟩
  | _ => simp only [items] at ep; cases ep
theorem src_zip {G : Nat → List D → Sto → Res D} {k : Nat} {kx : Nat → Value} {X : Cx} {W : WX} {tg a b : Expr} {p pos : Pos} {a' b' : E} (hc : CxOk c G k kx X) (tk : Takes X W) (hR : SndR R) (hg : isGl c "zip" = true) (ht : isTupT tg = true) (h : R c a = some a') (h' : R c b = some b') : PI X tg (.Call (.Name "zip" p) [a, b] [] pos) (RdI kx X.K W (evI G .zip [a', b'])) := by
  obtain ⟨g1, _, _, _⟩ := hc.gl hg
  obtain ⟨es, kk, tp, rfl⟩ := tupT_of ht
  have hm : mapO (R c) [a, b] = some [a', b'] := by simp only [mapO, h, h']
  refine PI.imp (pi_zipA g1 (hc.bui _ (by decide +kernel)) (snd_list hR hc tk hm) (star_of (hR c a a' h).pl _ X.env) (by rw [star_of (hR c b b' h').pl] <;> rfl)) fun σ H Q q => ?_
  obtain ⟨w, s, S, rfl, st, rs, q⟩ := q
  unfold evI at q
  refine ⟨w, s, S, rfl, st, rs, q.bind fun ds S1 vs w1 e1 x1 rs1 rd1 q1 => ?_⟩
  obtain ⟨d, e, v, u, rfl, rfl, r1, r2⟩ := two_of (evs_len _ _ _ _ e1) rd1
  unfold srcR at q1
  obtain ⟨p, ep, q1⟩ := q1.ofO
  cases d with
  | lst xs =>
    cases e with
    | lst ys =>
      simp only [items, Option.some.injEq] at ep; subst ep
      obtain ⟨a, vs, rfl, h1, h2, h3⟩ := r1.lstI
      obtain ⟨b, us, rfl, g1, g2, g3⟩ := r2.lstI
      exact ⟨a, b, vs, us, rfl, .inl ⟨SqL.of h1.2, SqL.of g1.2, q1 _ w1 (Ext.refl w1) rs1 (walk_zipL h1 h3 g1 g3)⟩⟩
    | _ => simp only [items] at ep; cases ep
  | tup xs =>
    cases e with
    | tup ys =>
      simp only [items, Option.some.injEq] at ep; subst ep
      obtain ⟨a, vs, rfl, h1, h2, h3⟩ := r1.tupI
      obtain ⟨b, us, rfl, g1, g2, g3⟩ := r2.tupI
      exact ⟨a, b, vs, us, rfl, .inr ⟨SqT.of h1, SqT.of g1, q1 _ w1 (Ext.refl w1) rs1 (walk_zipT h1 h3 g1 g3)⟩⟩
    | _ => simp only [items] at ep; cases ep
  | _ => cases e <;> (simp only [items] at ep; cases ep)
theorem src_of {G : Nat → List D → Sto → Res D} {k : Nat} {kx : Nat → Value} {X : Cx} {W : WX} {tg it : Expr} {kk : SK} {es : List E} (hc : CxOk c G k kx X) (tk : Takes X W) (hR : SndR R) (h : trSrc R c tg it = some (kk, es)) : PI X tg it (RdI kx X.K W (evI G kk es)) ∧ (∀ env x, foldedSetIterable it env x = pure x) := by
  have gen : ∀ it, (R c it).map (fun e => (SK.seq, [e])) = some (kk, es) → PI X tg it (RdI kx X.K W (evI G kk es)) ∧ (∀ env x, foldedSetIterable it env x = pure x) := by
    intro it h
    obtain ⟨e, e1, e2⟩ := Option.map_eq_some_iff.mp h
    cases e2
    exact ⟨src_seq ((hR c it e e1).pe hc tk), fun env x => noset_of (hR c it e e1).pl env x⟩
  unfold trSrc at h
  split at h
  · rename_i x p args p2
    split at h
    · rename_i hg
      split at h
      · rename_i e; subst e
        split at h
        · obtain ⟨e, e1, e2⟩ := Option.map_eq_some_iff.mp h
          cases e2
          exact ⟨src_rng1 hc tk hR hg.1 e1, fun _ _ => rfl⟩
        · rename_i a b
          cases h1 : R c a with
          | none => rw [h1] at h; cases h
          | some a' =>
            cases h2 : R c b with
            | none => rw [h1, h2] at h; cases h
            | some b' =>
              rw [h1, h2] at h; cases h
              exact ⟨src_rng2 hc tk hR hg.1 h1 h2, fun _ _ => rfl⟩
        · cases h
      split at h
      · rename_i e; subst e
        split at h
        · split at h
          · rename_i ht
            obtain ⟨e, e1, e2⟩ := Option.map_eq_some_iff.mp h
            cases e2
            exact ⟨src_enum hc tk hR hg.1 ht e1, fun _ _ => rfl⟩
          · cases h
        · cases h
      split at h
      · rename_i e; subst e
        split at h
        · rename_i a b
          split at h
          · rename_i ht
            cases h1 : R c a with
            | none => rw [h1] at h; cases h
            | some a' =>
              cases h2 : R c b with
              | none => rw [h1, h2] at h; cases h
              | some b' =>
                rw [h1, h2] at h; cases h
                exact ⟨src_zip hc tk hR hg.1 ht h1 h2, fun _ _ => rfl⟩
          · cases h
        · cases h
      · exact gen _ h
    · exact gen _ h
  · exact gen _ h

/-! ### comprehensions -/
section
variable {K : PySem.W.Frag}
/-- the list that grows -/
structure Gro (w1 : Wd) (D : Addr) (w : Wd) (acc : List Eng.D) (av : List V) : Prop where
  ext : Ext w1 w
  at_ : w.H D = some (.lst av)
  nF : ¬ w.F D
  nr : D ∉ w.r
  ds : RDs K w acc av
theorem Gro.go {w1 w w' : Wd} {D : Addr} {acc : List Eng.D} {av : List V} (g : Gro (K := K) w1 D w acc av) (x : Ext w w') : Gro (K := K) w1 D w' acc av := by
  obtain ⟨h1, h2, h3⟩ := x.frm D g.nF g.nr (by rw [g.at_]; simp)
  exact ⟨g.ext.trans x, by rw [h1]; exact g.at_, h2, h3, RDs.ext x _ _ g.ds⟩
theorem Gro.put {w1 w : Wd} {D : Addr} {acc : List Eng.D} {av : List V} {y : Eng.D} {v : V} (g : Gro (K := K) w1 D w acc av) (h0 : w1.H D = none) (hy : RD K w y v) : Gro (K := K) w1 D (w.put D (.lst (av ++ [v]))) (acc ++ [y]) (av ++ [v]) := by
  have k := Wk.side (o := .lst (av ++ [v])) g.nF g.at_
  refine ⟨⟨⟨fun b xs h => k.tup _ _ (g.ext.tup _ _ h), fun b o u h => k.frz _ _ _ (g.ext.frz _ _ _ h), fun b xs f h => k.lst _ _ (g.ext.phi _ f) (g.ext.lst _ _ f h), fun b f => g.ext.phi _ f, g.ext.rho⟩, fun b h1 h2 h3 => ?_⟩, upd_same, g.nF, g.nr, RDs.wk k _ _ (g.ds.append (RDs.cons hy RDs.nil))⟩
  obtain ⟨e1, e2, e3⟩ := g.ext.frm b h1 h2 h3
  have hb : b ≠ D := fun z => h3 (by rw [z]; exact h0)
  exact ⟨(upd_ne hb).trans e1, e2, e3⟩
/-- a list that nobody knows yet -/
def RNew (K : PySem.W.Frag) (w0 w : Wd) (xs : List Eng.D) (v : V) : Prop := ∃ p vs, v = .ref p ∧ w0.H p = none ∧ w.H p = some (.lst vs) ∧ ¬ w.F p ∧ p ∉ w.r ∧ xs.length ≤ szL ∧ RDs K w xs vs
theorem Ext.fresh {w w1 : Wd} {S : Sto} {p : Addr} (x : Ext w w1) (rs : RS K w1 S) (h : w1.H p = none) : w.H p = none := by
  cases e : w.H p with
  | none => rfl
  | some o =>
    exfalso
    by_cases hF : w.F p
    · exact rs.live p (x.phi p hF) h
    by_cases hr : p ∈ w.r
    · obtain ⟨m, e⟩ := x.rho
      exact rs.mem (by rw [e]; exact List.mem_append_left _ hr) h
    · have := (x.frm p hF hr (by rw [e]; simp)).1
      rw [h, e] at this
      cases this
/-- .. stays as it is from here on -/
theorem RNew.frz {w0 w : Wd} {xs : List Eng.D} {v : V} {S : Sto} (h : RNew K w0 w xs v) (x : Ext w0 w) (rs : RS K w S) : ∃ w', w'.H = w.H ∧ Ext w0 w' ∧ RS K w' S ∧ RD K w' (.lst xs) v := by
  obtain ⟨D, av, rfl, h0, at_, nF, nr, hl, ds⟩ := h
  have k : Wk w ⟨w.H, fun b => w.F b ∨ b = D, w.r⟩ := ⟨fun _ _ h => h, fun _ _ _ h => h, fun _ _ _ h => h, fun b f => .inl f, ⟨[], by simp⟩⟩
  refine ⟨⟨w.H, fun b => w.F b ∨ b = D, w.r⟩, rfl, ⟨⟨fun b xs h => x.tup _ _ h, fun b o u h => x.frz _ _ _ h, fun b xs f h => x.lst _ _ f h, fun b f => .inl (x.phi _ f), x.rho⟩, fun b h1 h2 h3 => ?_⟩, ⟨rs.len, rs.nd, fun a ha f => ?_, fun a f => ?_, fun n a m e1 e2 => (rs.obj n a m e1 e2).wk k rfl⟩, ?_⟩
  · obtain ⟨e1, e2, e3⟩ := x.frm b h1 h2 h3
    exact ⟨e1, fun f => f.elim e2 fun z => h3 (by rw [z]; exact h0), e3⟩
  · rcases f with f | f
    · exact rs.apart a ha f
    · subst f; exact nr ha
  · rcases f with f | f
    · exact rs.live a f
    · subst f; show w.H a ≠ none; rw [at_]; simp
  · simp only [RD]
    exact ⟨D, av, rfl, ⟨.inr rfl, at_⟩, hl, RDs.wk k _ _ ds⟩
/-- .. is the store's from here on -/
theorem RNew.sto {w0 w : Wd} {xs : List Eng.D} {v : V} {S : Sto} (h : RNew K w0 w xs v) (x : Ext w0 w) (rs : RS K w S) : ∃ w', w'.H = w.H ∧ Ext w0 w' ∧ RS K w' (S ++ [.lst xs]) ∧ RD K w' (.loc S.length) v := by
  obtain ⟨D, av, rfl, h0, at_, nF, nr, hl, ds⟩ := h
  have k : Wk w ⟨w.H, w.F, w.r ++ [D]⟩ := ⟨fun _ _ h => h, fun _ _ _ h => h, fun _ _ _ h => h, fun b f => f, ⟨[D], rfl⟩⟩
  refine ⟨⟨w.H, w.F, w.r ++ [D]⟩, rfl, ⟨⟨fun b xs h => x.tup _ _ h, fun b o u h => x.frz _ _ _ h, fun b xs f h => x.lst _ _ f h, fun b f => x.phi _ f, ?_⟩, fun b h1 h2 h3 => ?_⟩, ⟨?_, ?_, fun a ha f => ?_, fun a f => rs.live a f, fun n a m e1 e2 => ?_⟩, ?_⟩
  · obtain ⟨m, e⟩ := x.rho
    exact ⟨m ++ [D], by show w.r ++ [D] = _; rw [e, List.append_assoc]⟩
  · obtain ⟨e1, e2, e3⟩ := x.frm b h1 h2 h3
    refine ⟨e1, e2, fun m => ?_⟩
    have m : b ∈ w.r ++ [D] := m
    rcases List.mem_append.mp m with m | m
    · exact e3 m
    · simp at m; subst m; exact h3 h0
  · show (w.r ++ [D]).length = _
    simp [rs.len]
  · show (w.r ++ [D]).Nodup
    rw [List.nodup_append]
    exact ⟨rs.nd, by simp, fun a ha b hb e => by simp at hb; subst hb; subst e; exact nr ha⟩
  · have ha : a ∈ w.r ++ [D] := ha
    rcases List.mem_append.mp ha with ha | ha
    · exact rs.apart a ha f
    · simp at ha; subst ha; exact nF f
  · have e1 : (w.r ++ [D])[n]? = some a := e1
    by_cases hn : n < w.r.length
    · rw [List.getElem?_append_left hn] at e1
      rw [List.getElem?_append_left (by rw [← rs.len]; exact hn)] at e2
      exact (rs.obj n a m e1 e2).wk k rfl
    · rw [List.getElem?_append_right (by omega)] at e1
      rw [List.getElem?_append_right (by rw [← rs.len]; omega)] at e2
      rw [rs.len] at e1
      cases q : n - S.length with
      | zero =>
        rw [q] at e1 e2; simp at e1 e2; subst e1; subst e2
        exact ⟨av, at_, hl, RDs.wk k _ _ ds⟩
      | succ j => rw [q] at e1; simp at e1
  · simp only [RD]
    exact ⟨D, rfl, by show (w.r ++ [D])[S.length]? = some D; rw [← rs.len]; simp⟩
end
theorem own_name {N : List Str} {scope : Scope} {x : Str} {i : Nat} (hu : ∀ y ∈ scope.names, scope.names.lookup y.1 = some y.2) (h : idxOf x N = some i) (hm : i ∈ (ownOf N scope).map (·.2)) : scope.names.lookup x = some .local ∨ scope.names.lookup x = some .cell := by
  obtain ⟨p, hp, e⟩ := List.mem_map.mp hm
  unfold ownOf at hp
  obtain ⟨y, hy, ey⟩ := List.mem_filterMap.mp hp
  have q := hu y hy
  have same : ∀ j, idxOf y.1 N = some j → j = i → y.1 = x := fun j h1 h2 => by
    subst h2
    have a := idxOf_get h1
    have b := idxOf_get h
    rw [a] at b
    exact Option.some.inj b
  split at ey
  · rename_i hk
    obtain ⟨j, e1, e2⟩ := Option.map_eq_some_iff.mp ey
    subst e2
    rw [same j e1 e, hk] at q
    exact .inl q
  · rename_i hk
    obtain ⟨j, e1, e2⟩ := Option.map_eq_some_iff.mp ey
    subst e2
    rw [same j e1 e, hk] at q
    exact .inr q
  · cases ey
theorem CxOk.blk {G : Nat → List D → Sto → Res D} {k : Nat} {kx : Nat → Value} {X : Cx} (h : CxOk c G k kx X) (s : Shared) (H : Hp) (scope : Scope) (C : Addr) (cl : List (Str × Addr)) (fp : List Addr) : CxOk (subCt c scope) G k kx (X.blk s H scope (compEnvC scope cl C X.env) fp) := by
  refine ⟨h.hN, h.nd, ?_, h.calm, h.room, h.con, h.bui, h.fns⟩
  show relS scope X.env.scope = _
  rw [h.sc] <;> rfl
theorem items_chk {k : SK} {ds : List D} {S : Sto} {p : List D × Option Nat} (h : items k ds S = some p) : chk p.1 p.2 S = true := by
  unfold items at h
  split at h
  · split at h
    · cases h; exact decide_eq_true (by assumption)
    · cases h
  all_goals first
    | (cases h; done)
    | (cases h; rfl)
    | (split at h
       · cases h; rfl
       · cases h)
theorem evI_chk {G : Nat → List D → Sto → Res D} {k : SK} {es : List E} {s : Env} {S S1 : Sto} {p : List D × Option Nat} (h : evI G k es s S = .ok p S1) : chk p.1 p.2 S1 = true := by
  unfold evI at h
  cases q : evs G es s S with
  | ok ds S2 =>
    rw [q] at h
    simp only [Res.bind, srcR] at h
    cases q2 : items k ds S2 with
    | none => rw [q2] at h; cases h
    | some p' => rw [q2] at h; cases h; exact items_chk q2
  | exc _ _ => rw [q] at h; cases h
  | no => rw [q] at h; cases h
/-- a comprehension, its list not yet known -/
def compE (G : Nat → List D → Sto → Res D) (own is : List Nat) (un : Bool) (k : SK) (es cs : List E) (el : E) (s : Env) (S : Sto) : Res (List D) := (evI G k es s S).bind fun p S1 => if p.1.length ≤ szL then compL (fun d => bindT is un d (Eng.wipe s own)) (fun s S => evT G cs s S) (fun s S => ev G el s S) (chk p.1 p.2) p.1 S1 else .no
theorem ev_comp {G : Nat → List D → Sto → Res D} {own is : List Nat} {un : Bool} {k : SK} {es cs : List E} {el : E} {s : Env} {S : Sto} : ev G (.comp own is un k es cs el) s S = (compE G own is un k es cs el s S).bind fun ys S2 => .ok (.lst ys) S2 := by
  simp only [ev]
  unfold compE evI
  rw [bind_assoc, bind_assoc]
  congr 1
  funext ds S1
  unfold srcR
  cases items k ds S1 with
  | none => rfl
  | some p =>
    simp only [ofO, bind_ok]
    split <;> rfl
def RdN (kx : Nat → Value) (K : PySem.W.Frag) (W : WX) (m : Env → Sto → Res (List D)) : TE := fun σ H Q => ∃ w s S, w.H = H ∧ StR K w σ s ∧ RS K w S ∧ Aft kx K W σ (RNew K w) w (m s S) Q
theorem RdN.of {kx : Nat → Value} {K : PySem.W.Frag} {W : WX} {m : Env → Sto → Res (List D)} {σ : L2.St} {H : Hp} {Q : VK} (h : RdE kx K W (fun s S => (m s S).bind fun ys S2 => .ok (.lst ys) S2) σ H Q) : RdN kx K W m σ H Q := by
  obtain ⟨w, s, S, rfl, st, rs, q⟩ := h
  refine ⟨w, s, S, rfl, st, rs, ?_⟩
  dsimp only at q
  cases e : m s S with
  | ok ys S1 =>
    rw [e] at q
    intro v w' x rs' h
    obtain ⟨w2, e2, x2, rs2, rd2⟩ := h.frz x rs'
    rw [← e2]
    exact q v w2 x2 rs2 rd2
  | exc _ _ => rw [e] at q; exact q
  | no => rw [e] at q; exact q
theorem comp_parts (hR : SndR R) {elt tg it : Expr} {ifs : List Expr} {scope : Scope} {e' : E} (h : trComp R c elt tg it ifs scope = some e') : ∃ (is : List Nat) (un : Bool) (k : SK) (es cs : List E) (el : E), e' = .comp ((ownOf c.N scope).map (·.2)) is un k es cs el ∧
    ∀ {G : Nat → List D → Sto → Res D} {k' : Nat} {kx : Nat → Value} {X : Cx} {W : WX}, CxOk c G k' kx X → Takes X W → ∃ (wi : TI) (g : TG) (tt : TT) (te : TE), PI X tg it wi ∧ BlkOk X.N X.env.scope scope (ownOf c.N scope) ∧
      (∀ (s : Shared) (H : Hp) (C : Addr) (cl : List (Str × Addr)) (fp : List Addr), PG (X.blk s H scope (compEnvC scope cl C X.env) fp) tg g) ∧ (∀ (s : Shared) (H : Hp) (C : Addr) (cl : List (Str × Addr)) (fp : List Addr), PTs (X.blk s H scope (compEnvC scope cl C X.env) fp) ifs tt) ∧
      (∀ (s : Shared) (H : Hp) (C : Addr) (cl : List (Str × Addr)) (fp : List Addr), PE (X.blk s H scope (compEnvC scope cl C X.env) fp) elt te) ∧ (∀ x, foldedSetIterable it X.env x = pure x) ∧
      ∀ σ H Q, RdN kx X.K W (compE G ((ownOf c.N scope).map (·.2)) is un k es cs el) σ H Q → tLc wi g tt te ((ownOf c.N scope).map (·.2)) σ H Q := by
  unfold trComp at h
  split at h
  · rename_i hb
    split at h
    · rename_i is un kk es cs el h1 h2 h3 h4
      split at h
      · rename_i hi
        cases h
        refine ⟨is, un, kk, es, cs, el, rfl, fun {G k' kx X W} hc tk => ?_⟩
        have bk : BlkOk X.N X.env.scope scope (ownOf c.N scope) := by rw [hc.hN, hc.sc]; exact blkOk_by hb
        obtain ⟨src, srcS⟩ := src_of hc tk hR h2
        have hpt : ∀ (s : Shared) (H : Hp) (C : Addr) (cl : List (Str × Addr)) (fp : List Addr), PTs (X.blk s H scope (compEnvC scope cl C X.env) fp) ifs (RdT kx X.K (fun _ _ _ _ => False) fun s S => evT G cs s S) := by
          intro s H C cl fp
          have hc' := hc.blk s H scope C cl fp
          cases ifs with
          | nil =>
            simp only [mapO, Option.some.injEq] at h3; subst h3
            refine PTs.imp pts_nil fun σ H Q q => ?_
            obtain ⟨w, s, S, rfl, st, rs, q⟩ := q
            simp only [evT] at q
            exact q true w (Ext.refl w) rs rfl
          | cons f r =>
            obtain ⟨y, ys, q1, q2, rfl⟩ := mapO_cons h3
            have l := mapO_len q2
            have l2 := hi.2
            cases r with
            | nil =>
              simp only [mapO, Option.some.injEq] at q2; subst q2
              refine PTs.imp (pts_one ((hR _ _ _ q1).pt hc' takes0)) fun σ H Q q => ?_
              simp only [evT] at q
              exact q
            | cons _ _ => simp only [List.length_cons] at l l2; omega
        refine ⟨_, gT X.K is un, RdT kx X.K (fun _ _ _ _ => False) (fun s S => evT G cs s S), RdE kx X.K (fun _ _ _ _ => False) (ev G el), src, bk, fun s H C cl fp => pg_of (hc.blk s H scope C cl fp) h1 ?_, hpt, fun s H C cl fp => (hR _ _ _ h4).pe (hc.blk s H scope C cl fp) takes0, srcS X.env, fun σ H Q q => ?_⟩
        · intro x i hx hm
          have hm' : i ∈ (ownOf c.N scope).map (·.2) := by
            have := hi.1
            rw [List.all_eq_true] at this
            simpa using this i hm
          have hx' : idxOf x c.N = some i := by
            unfold slotW at hx
            split at hx <;> first | exact hx | cases hx
          rcases own_name bk.uniq hx' hm' with q | q
          · right
            show (relS scope X.env.scope).names.lookup x = _
            exact lookup_relS_keep (by decide) q
          · left
            show (scope.names.lookup x == some NameKind.cell) = true
            rw [q] <;> rfl
        obtain ⟨w, s, S, rfl, st, rs, q⟩ := q
        unfold compE at q
        refine ⟨w, s, S, rfl, st, rs, q.bind fun p S1 J w1 e0 x1 rs1 hJ q1 => ?_⟩
        split at q1
        rotate_left
        · exact q1.elim
        rename_i hlen
        intro D hD
        have st1 := (st.ext x1).wipe ((ownOf c.N scope).map (·.2))
        generalize hb' : (fun d => bindT is un d (Eng.wipe s ((ownOf c.N scope).map (·.2)))) = bb at q1
        refine ⟨fun i m Hc => ∃ w2 S2 acc av, w2.H = Hc ∧ Gro (K := X.K) w1 D w2 acc av ∧ RS X.K w2 S2 ∧ m + i = p.1.length ∧ acc.length ≤ i ∧ chk p.1 p.2 S2 = true ∧
          Aft kx X.K W σ (RNew X.K w) w1 ((compL bb (fun s S => evT G cs s S) (fun s S => ev G el s S) (chk p.1 p.2) (p.1.drop i) S2).bind fun ys S3 => .ok (acc ++ ys) S3) Q, ⟨p.1.length, w1.new D (.lst []), S1, [], [], rfl, ⟨Ext.new hD, upd_same, rs1.notF hD, rs1.notIn hD, RDs.nil⟩, rs1.new hD, rfl, Nat.le_refl _, evI_chk e0, q1.eqv (by simp only [List.drop_zero, List.nil_append]; cases compL bb (fun s S => evT G cs s S) (fun s S => ev G el s S) (chk p.1 p.2) p.1 S1 <;> rfl)⟩, ?_⟩
        rintro i m Hc ⟨w2, S2, acc, av, rfl, g, rs2, hm, ha, hk, q2⟩
        obtain ⟨walk1, walk2⟩ := hJ w2 S2 g.ext rs2 hk
        cases hd : p.1[i]? with
        | none =>
          have hi' : i = p.1.length := by
            have := List.getElem?_eq_none_iff.mp hd
            omega
          left
          refine ⟨by rw [hi']; exact walk1, ?_⟩
          rw [hi', List.drop_length] at q2
          simp only [compL, bind_ok, List.append_nil] at q2
          exact q2 _ w2 g.ext rs2 ⟨D, av, rfl, x1.fresh rs1 hD, g.at_, g.nF, g.nr, by omega, g.ds⟩
        | some d =>
          right
          obtain ⟨wg, wy⟩ := walk2 i d hd
          have hlt := (List.getElem?_eq_some_iff.mp hd).1
          have hdr : p.1.drop i = d :: p.1.drop (i + 1) := by
            rw [List.drop_eq_getElem_cons hlt]
            congr 1
            exact (List.getElem?_eq_some_iff.mp hd).2
          rw [hdr] at q2
          simp only [compL] at q2
          refine ⟨wg, fun H' => ∃ m', m' < m ∧ ∃ w2 S2 acc av, w2.H = H' ∧ Gro (K := X.K) w1 D w2 acc av ∧ RS X.K w2 S2 ∧ m' + (i + 1) = p.1.length ∧ acc.length ≤ i + 1 ∧ chk p.1 p.2 S2 = true ∧
            Aft kx X.K W σ (RNew X.K w) w1 ((compL bb (fun s S => evT G cs s S) (fun s S => ev G el s S) (chk p.1 p.2) (p.1.drop (i + 1)) S2).bind fun ys S3 => .ok (acc ++ ys) S3) Q, fun _ h => h, fun x H' y => ?_⟩
          obtain ⟨w3, rfl, x3, rs3, rd3⟩ := wy x H' y
          have g3 := g.go x3
          cases eb : bb d with
          | none => rw [eb] at q2; exact q2.elim
          | some s1 =>
            rw [eb] at q2
            simp only at q2
            rw [← hb'] at eb
            refine gT_of (st1.ext g3.ext) rd3 eb fun σ2 st2 hw => ⟨?_, w3, s1, S2, rfl, st2, rs3, ?_⟩
            · rw [hw _ (fun j hj => by
                have := hi.1
                rw [List.all_eq_true] at this
                simpa using this j hj)]
              exact wipe_idem _
            · dsimp only at q2 ⊢
              cases et : evT G cs s1 S2 with
              | no => rw [et] at q2; exact q2.elim
              | exc _ _ => rw [et] at q2; exact q2.elim
              | ok tt S4 =>
                rw [et] at q2
                simp only [Res.calm, bind_ok] at q2
                intro b w4 x4 rs4 eb2
                subst eb2
                have g4 := g3.go x4
                cases tt with
                | false =>
                  simp only [Bool.false_eq_true, if_false] at q2 ⊢
                  split at q2
                  · rename_i hk4
                    exact ⟨m - 1, by omega, w4, S4, acc, av, rfl, g4, rs4, by omega, by omega, hk4, q2⟩
                  · exact q2.elim
                | true =>
                  simp only [if_true] at q2 ⊢
                  refine ⟨w4, s1, S4, rfl, st2.ext x4, rs4, ?_⟩
                  cases ee : ev G el s1 S4 with
                  | no => rw [ee] at q2; exact q2.elim
                  | exc _ _ => rw [ee] at q2; exact q2.elim
                  | ok y S5 =>
                    rw [ee] at q2
                    simp only [bind_ok] at q2
                    intro v w5 x5 rs5 rd5
                    have g5 := g4.go x5
                    have l5 := g5.ds.length
                    split at q2
                    · rename_i hk5
                      refine ⟨av, g5.at_, by rw [l5, ← szL_eq]; omega, m - 1, by omega, w5.put D (.lst (av ++ [v])), S5, acc ++ [y], av ++ [v], rfl, g5.put hD rd5, rs5.side g5.nF g5.nr g5.at_, by omega, by simp; omega, hk5, q2.eqv ?_⟩
                      rw [bind_assoc]
                      congr 1
                      funext ys S6
                      simp [bind_ok]
                    · exact q2.elim
      · cases h
    · cases h
  · cases h
theorem snd_comp (hR : SndR R) {elt tg it : Expr} {ifs : List Expr} {scope : Scope} {pos : Pos} {e' : E} (h : trComp R c elt tg it ifs scope = some e') : Snd c (.ListComp elt [⟨tg, it, ifs, 0⟩] scope pos) e' := by
  obtain ⟨is, un, kk, es, cs, el, rfl, parts⟩ := comp_parts hR h
  refine Snd.of (fun {G k' kx X W} hc tk => ?_) (fun _ _ => rfl) rfl rfl
  obtain ⟨wi, g, tt, te, h1, h2, h3, h4, h5, h6, h7⟩ := parts hc tk
  refine PE.imp (pe_lc hc.calm (by rw [hc.hN]; exact hc.nd) h1 h2 h3 h4 h5 h6) fun σ H Q q => h7 σ H Q (RdN.of ?_)
  obtain ⟨w, s, S, rfl, st, rs, q⟩ := q
  exact ⟨w, s, S, rfl, st, rs, q.eqv ev_comp⟩
end Eng

/-! Eng14 -/
set_option Elab.async false
set_option linter.all false
set_option maxRecDepth 100000
set_option maxHeartbeats 4000000
/-! Every expression. -/
namespace Eng
open PySem PySem.Spec PyProof.Rows L2
variable {c : Ct} {R : Rec}

theorem snd_call (hR : SndR R) {f : Str} {p pos : Pos} {args : List Expr} {e' : E} (h : trCall R c f args = some e') : Snd c (.Call (.Name f p) args [] pos) e' := by
  unfold trCall at h
  split at h
  · rename_i hg
    split at h
    · rename_i i ar hf
      split at h
      · rename_i hl
        obtain ⟨es, e1, rfl⟩ := Option.map_eq_some_iff.mp h
        exact snd_own hR hg hf hl.1 hl.2 e1
      · cases h
    · split at h
      · rename_i hb
        split at h
        · split at h
          · rename_i p a' e1 e2; cases h
            exact snd_b1 hR hg hb e1 e2
          · cases h
        · split at h
          · rename_i e; subst e
            split at h
            · split at h
              · rename_i hl
                split at h
                · rename_i a' ts e1 e2; cases h
                  exact snd_isiT hR hg hl e1 e2
                · cases h
              · cases h
            · split at h
              · rename_i a' t e1 e2; cases h
                exact snd_isi1 hR hg e1 e2
              · cases h
          · split at h
            · rename_i p a' b' e1 e2 e3; cases h
              exact snd_b2 hR hg hb e1 e2 e3
            · cases h
        · cases h
      · cases h
  · cases h
theorem snd_meth (hR : SndR R) {o : Expr} {m : Str} {apos pos : Pos} {args : List Expr} {e' : E} (hr : okRecv o = true) (hln : (apos.endLine == pos.line) = true) (h : trMeth R c o m args = some e') : Snd c (.Call (.Attribute o m apos) args [] pos) e' := by
  unfold trMeth at h
  split at h
  · split at h
    · rename_i p o' e1 e2; cases h
      exact snd_m0 hR e1 hr hln e2
    · cases h
  · split at h
    · rename_i p o' a' e1 e2 e3; cases h
      exact snd_m1 hR e1 hr hln e2 e3
    · cases h
  · split at h
    · rename_i p o' a' b' e1 e2 e3 e4; cases h
      exact snd_m2 hR e1 hr hln e2 e3 e4
    · cases h
  · cases h
theorem snd_trCmp (hR : SndR R) {a : Expr} {ops : List CmpOp} {bs : List Expr} {pos : Pos} {e' : E} (h : trCmp R c a ops bs = some e') : Snd c (.Compare a ops bs pos) e' := by
  unfold trCmp at h
  split at h
  · rename_i op b
    split at h
    · split at h
      · split at h
        · rename_i a' d e1 e2
          cases h
          exact (snd_is hR e1 e2).1
        · cases h
      · cases h
    · split at h
      · split at h
        · rename_i a' d e1 e2
          cases h
          exact (snd_is hR e1 e2).2
        · cases h
      · cases h
    · split at h
      · rename_i p a' b' e1 e2 e3; cases h
        exact snd_cmp hR e1 e2 e3
      · cases h
  · split at h
    · rename_i p q a' b' d' e1 e2 e3 e4 e5; cases h
      exact snd_chain hR e1 e2 e3 e4 e5
    · cases h
  · cases h
theorem snd_trSub (hR : SndR R) {v i : Expr} {pos : Pos} {e' : E} (h : trSub R c v i = some e') : Snd c (.Subscript v i pos) e' := by
  unfold trSub at h
  split at h
  · split at h
    · split at h
      · obtain ⟨v', e1, rfl⟩ := Option.map_eq_some_iff.mp h
        exact snd_slc0 hR e1
      · split at h
        · rename_i v' l' e1 e2; cases h
          exact snd_slcL hR e1 e2
        · cases h
      · split at h
        · rename_i v' l' e1 e2; cases h
          exact snd_slcH hR e1 e2
        · cases h
      · split at h
        · rename_i v' l' h' e1 e2 e3; cases h
          exact snd_slcB hR e1 e2 e3
        · cases h
    · split at h
      · obtain ⟨v', e1, rfl⟩ := Option.map_eq_some_iff.mp h
        exact snd_rev hR e1
      · cases h
    · cases h
  · split at h
    · rename_i v' l' e1 e2; cases h
      exact snd_idx hR e1 e2
    · cases h
theorem snd_F (hR : SndR R) : SndR (trF R) := by
  intro c e e' h
  unfold trF at h
  split at h
  · exact snd_const h
  · exact snd_name h
  · split at h
    · rename_i hl
      obtain ⟨es, e1, rfl⟩ := Option.map_eq_some_iff.mp h
      exact snd_tuple hR hl e1
    · cases h
  · split at h
    · rename_i hl
      obtain ⟨es, e1, rfl⟩ := Option.map_eq_some_iff.mp h
      exact snd_lst hR hl e1
    · cases h
  · split at h
    · rename_i p a' b' e1 e2 e3; cases h
      exact snd_bin hR e1 e2 e3
    · cases h
  · split at h
    · obtain ⟨a', e1, rfl⟩ := Option.map_eq_some_iff.mp h
      exact snd_not hR e1
    · obtain ⟨a', e1, rfl⟩ := Option.map_eq_some_iff.mp h
      exact snd_neg hR e1
    · cases h
  · split at h
    · exact snd_bool1 hR h
    · rename_i op pos vs a b r
      split at h
      · rename_i a' b' e1 e2
        cases h
        have q := snd_bool hR e1 e2
        cases op <;> exact q
      · cases h
    · cases h
  · exact snd_trCmp hR h
  · split at h
    · rename_i p a' b' e1 e2 e3; cases h
      exact snd_ite hR e1 e2 e3
    · cases h
  · exact snd_trSub hR h
  · split at h
    · split at h
      · exact snd_call hR h
      · split at h
        · rename_i hk
          exact snd_meth hR hk.1 hk.2 h
        · cases h
      · cases h
    · cases h
  · split at h
    · split at h
      · rename_i ha; subst ha
        exact snd_comp hR h
      · cases h
    · cases h
  · split at h
    · cases h; exact snd_dnew
    · cases h
  · cases h
theorem snd_E : ∀ n, SndR (trE n)
  | 0 => fun c e e' h => by simp [trE] at h
  | n + 1 => fun c e e' h => snd_F (snd_E n) c e e' h
end Eng

/-! Eng15 -/
set_option Elab.async false
set_option linter.all false
set_option maxRecDepth 100000
set_option maxHeartbeats 4000000
/-! Statements. -/
namespace Eng
open PySem PySem.Spec PyProof.Rows L2

def isComp : Expr → Bool
  | .ListComp _ _ _ _ => true
  | .SetComp _ _ _ _ => true
  | .DictComp _ _ _ _ _ => true
  | _ => false
theorem sw_not {e : Expr} (h : isComp e = false) (t : Option Expr) (l : Nat) (env : PySem.Env) : swapsWith e t l env = pure false := by
  cases e <;> first | rfl | (simp [isComp] at h)
/-- x = [..], x known while the list grows -/
def swL (c : Ct) (x : Str) (xp p : Pos) (scope : Scope) : Bool := (c.sc.names.lookup x == some .local && xp.line == p.line) && !(scope.names.any fun y => y.1 == x && (y.2 == .local || y.2 == .cell))
theorem sw_false {elt : Expr} {gs : List Comprehension} {scope : Scope} {pos py : Pos} {y : Str} {l : Nat} {env : PySem.Env} {c : Ct} (hs : env.scope = c.sc) (hk : c.sc.kind = .function) (h : swL c y py pos scope = false) : swapsWith (.ListComp elt gs scope pos) (some (.Name y py)) l env = pure false := by
  have hb : env.blockKind = .function := by unfold PySem.Env.blockKind; rw [hs, hk]; rfl
  have ky : env.kindOf y = c.sc.names.lookup y := by unfold PySem.Env.kindOf; rw [hs]
  unfold swapsWith
  simp only [hb, ky, Expr.pos]
  unfold swL at h
  show pure ((true && c.sc.names.lookup y == some .local && py.line == pos.line && !(scope.names.any fun x => x.1 == y && (x.2 == .local || x.2 == .cell)))) = _
  rw [Bool.true_and, h]
theorem sw_tr {c : Ct} {y : Str} {py pos : Pos} {scope : Scope} (h : swL c y py pos scope = true) : c.sc.names.lookup y = some .local ∧ (py.line == pos.line) = true ∧ (scope.names.any fun (n, k) => n == y && (k == .local || k == .cell)) = false := by
  unfold swL at h
  simp only [Bool.and_eq_true, Bool.not_eq_true'] at h
  exact ⟨by simpa using h.1.1, h.1.2, h.2⟩
def isTup : Expr → Bool
  | .Tuple _ _ _ => true
  | _ => false
theorem ss_not {tg e : Expr} (h : isTup e = false) (env : PySem.Env) : swappedStores [tg] e env = pure none := by
  cases e <;> first | (cases tg <;> rfl) | (simp [isTup] at h)
def isStar : Expr → Bool
  | .Starred _ _ => true
  | _ => false
def nmL (k : Str → Option NameKind) (ts : List Expr) : List Str := ts.filterMap fun
  | .Name id pos => if (k id == some .local && pos.line == (ts.head?.map (·.pos.line)).getD 0) = true then some id else none
  | _ => none
theorem ss_unf (ts vs : List Expr) (k k2 : Nat) (p p2 : Pos) (env : PySem.Env) : swappedStores [.Tuple ts k p] (.Tuple vs k2 p2) env = (if (!(ts.length == 2 || ts.length == 3) || vs.length != ts.length || env.blockKind != .function) = true then pure none else if (vs.any isStar) = true then pure none
    else if ((nmL env.kindOf ts).length != ts.length || (nmL env.kindOf ts).eraseDups.length != (nmL env.kindOf ts).length) = true then pure none else if (vs.all (foldedForSure 8)) = true then pure none
    else if (vs.all (constantsAlone 8)) = true then (do
      unsupported "assign.tuple-of-constant-expressions:order-of-the-stores"
      pure (some (nmL env.kindOf ts))) else pure (some (nmL env.kindOf ts))) := rfl
def swN (sc : Scope) (ts : List Expr) : List Str := nmL (fun y => sc.names.lookup y) ts
/-- stored by a swap -/
def swY (c : Ct) (ts vs : List Expr) : Bool := (ts.length == 2 || ts.length == 3) && vs.length == ts.length && (swN c.sc ts).length == ts.length && (swN c.sc ts).eraseDups.length == (swN c.sc ts).length && !(vs.all (foldedForSure 8)) && !(vs.all (constantsAlone 8)) && !(vs.any isStar)
/-- stored by way of a tuple -/
def swX (c : Ct) (ts vs : List Expr) : Bool := (!(ts.length == 2 || ts.length == 3) || vs.length != ts.length || (swN c.sc ts).length != ts.length || vs.all (foldedForSure 8)) && !(vs.any isStar)
theorem ss_some {env : PySem.Env} {c : Ct} {ts vs : List Expr} {k k2 : Nat} {p p2 : Pos} (hs : env.scope = c.sc) (hk : c.sc.kind = .function) (h : swY c ts vs = true) : swappedStores [.Tuple ts k p] (.Tuple vs k2 p2) env = pure (some (swN c.sc ts)) := by
  have hb : env.blockKind = .function := by unfold PySem.Env.blockKind; rw [hs, hk]; rfl
  have ky : env.kindOf = fun y => c.sc.names.lookup y := by funext y; unfold PySem.Env.kindOf; rw [hs]
  rw [ss_unf, hb, ky]
  show (if (!(ts.length == 2 || ts.length == 3) || vs.length != ts.length || ScopeKind.function != .function) = true then pure none else if (vs.any isStar) = true then pure none
    else if ((swN c.sc ts).length != ts.length || (swN c.sc ts).eraseDups.length != (swN c.sc ts).length) = true then pure none else if (vs.all (foldedForSure 8)) = true then pure none
    else if (vs.all (constantsAlone 8)) = true then (do
      unsupported "assign.tuple-of-constant-expressions:order-of-the-stores"
      pure (some (swN c.sc ts))) else pure (some (swN c.sc ts))) = _
  unfold swY at h
  simp only [Bool.and_eq_true, Bool.not_eq_true'] at h
  obtain ⟨⟨⟨⟨⟨⟨h1, h2⟩, h3⟩, h4⟩, h5⟩, h6⟩, h7⟩ := h
  have e1 : (vs.length != ts.length) = false := by simp only [bne, h2]; rfl
  have e2 : ((swN c.sc ts).length != ts.length) = false := by simp only [bne, h3]; rfl
  have e3 : ((swN c.sc ts).eraseDups.length != (swN c.sc ts).length) = false := by simp only [bne, h4]; rfl
  have e4 : (ScopeKind.function != ScopeKind.function) = false := rfl
  rw [h1, e1, e2, e3, e4, h5, h6, h7]
  rfl
theorem ss_none {env : PySem.Env} {c : Ct} {ts vs : List Expr} {k k2 : Nat} {p p2 : Pos} (hs : env.scope = c.sc) (hk : c.sc.kind = .function) (h : swX c ts vs = true) : swappedStores [.Tuple ts k p] (.Tuple vs k2 p2) env = pure none := by
  have hb : env.blockKind = .function := by unfold PySem.Env.blockKind; rw [hs, hk]; rfl
  have ky : env.kindOf = fun y => c.sc.names.lookup y := by funext y; unfold PySem.Env.kindOf; rw [hs]
  rw [ss_unf, hb, ky]
  show (if (!(ts.length == 2 || ts.length == 3) || vs.length != ts.length || ScopeKind.function != .function) = true then pure none else if (vs.any isStar) = true then pure none
    else if ((swN c.sc ts).length != ts.length || (swN c.sc ts).eraseDups.length != (swN c.sc ts).length) = true then pure none else if (vs.all (foldedForSure 8)) = true then pure none
    else if (vs.all (constantsAlone 8)) = true then (do
      unsupported "assign.tuple-of-constant-expressions:order-of-the-stores"
      pure (some (swN c.sc ts))) else pure (some (swN c.sc ts))) = _
  unfold swX at h
  simp only [Bool.and_eq_true, Bool.not_eq_true'] at h
  obtain ⟨h, h7⟩ := h
  rw [h7]
  have e4 : (ScopeKind.function != ScopeKind.function) = false := rfl
  rw [e4, Bool.or_false]
  cases e1 : (!(ts.length == 2 || ts.length == 3) || vs.length != ts.length) with
  | true => rfl
  | false =>
    rw [e1, Bool.false_or] at h
    cases e2 : ((swN c.sc ts).length != ts.length) with
    | true => rfl
    | false =>
      rw [e2, Bool.false_or] at h
      rw [h, Bool.false_or]
      cases ((swN c.sc ts).eraseDups.length != (swN c.sc ts).length) <;> rfl

/-! ### the readings -/
def AftS (kx : Nat → Value) (K : PySem.W.Frag) (W : WX) (D : Ends) (w : Wd) : Out → Prop
  | .nx s' S' => ∀ σ' w', Ext w w' → StR K w' σ' s' → RS K w' S' → D.nx σ' w'.H
  | .rt d S' => ∀ v w', Ext w w' → RS K w' S' → RD K w' d v → D.rt v w'.H
  | .exc c s' S' => ∀ σ' w', Ext w w' → StR K w' σ' s' → RS K w' S' → W (kx c) none σ' w'.H
  | .no => False
def RdS (kx : Nat → Value) (K : PySem.W.Frag) (W : WX) (m : Env → Sto → Out) : TS := fun D σ H => ∃ w s S, w.H = H ∧ StR K w σ s ∧ RS K w S ∧ AftS kx K W D w (m s S)
section
variable {kx : Nat → Value} {K : PySem.W.Frag} {W : WX} {D : Ends} {w w' : Wd}
theorem AftS.mono {o : Out} (h : AftS kx K W D w o) (x : Ext w w') : AftS kx K W D w' o := by
  cases o with
  | nx s S => exact fun σ' w2 x2 => h σ' w2 (x.trans x2)
  | rt d S => exact fun v w2 x2 => h v w2 (x.trans x2)
  | exc c s S => exact fun σ' w2 x2 => h σ' w2 (x.trans x2)
  | no => exact h
theorem AftS.eqv {o o' : Out} (h : AftS kx K W D w o) (e : o = o') : AftS kx K W D w o' := e ▸ h
variable {σ : L2.St} {s : Env}
theorem AftS.outE {r : Res Eng.D} {f : Eng.D → Sto → Out} {Q1 : VK} (h : AftS kx K W D w (outE s r f)) (st : StR K w σ s) (h1 : ∀ d S1 v w1, Ext w w1 → RS K w1 S1 → RD K w1 d v → AftS kx K W D w1 (f d S1) → Q1 v w1.H) : Aft kx K W σ (RD K) w r Q1 := by
  cases r with
  | ok d S' => exact fun v w1 x rs rd => h1 d S' v w1 x rs rd (AftS.mono (o := f d S') h x)
  | exc c S' => exact fun w1 x rs => h σ w1 x (st.ext x) rs
  | no => exact h
theorem AftS.outB {r : Res Bool} {f : Bool → Sto → Out} {Q1 : Bool → Hp → Prop} (h : AftS kx K W D w (outB s r f)) (st : StR K w σ s) (h1 : ∀ d S1 w1, Ext w w1 → RS K w1 S1 → AftS kx K W D w1 (f d S1) → Q1 d w1.H) : Aft kx K W σ (fun _ b b' => b = b') w r Q1 := by
  cases r with
  | ok d S' => exact fun v w1 x rs rd => by subst rd; exact h1 d S' w1 x rs (AftS.mono (o := f d S') h x)
  | exc c S' => exact fun w1 x rs => h σ w1 x (st.ext x) rs
  | no => exact h
theorem AftS.outL {r : Res (List Eng.D)} {f : List Eng.D → Sto → Out} {Q1 : List V → Hp → Prop} (h : AftS kx K W D w (outL s r f)) (st : StR K w σ s) (h1 : ∀ d S1 v w1, r = .ok d S1 → Ext w w1 → RS K w1 S1 → RDs K w1 d v → AftS kx K W D w1 (f d S1) → Q1 v w1.H) : Aft kx K W σ (RDs K) w r Q1 := by
  cases r with
  | ok d S' => exact fun v w1 x rs rd => h1 d S' v w1 rfl x rs rd (AftS.mono (o := f d S') h x)
  | exc c S' => exact fun w1 x rs => h σ w1 x (st.ext x) rs
  | no => exact h
theorem AftS.nx_ {s' : Env} {S' : Sto} (h : AftS kx K W D w (.nx s' S')) (st : StR K w σ s') (rs : RS K w S') : D.nx σ w.H := h σ w (Ext.refl w) st rs
end
/-- a def's body's context -/
structure SxOk (c : Ct) (G : Nat → List D → Sto → Res D) (k : Nat) (kx : Nat → Value) (X : Cx) (W : WX) : Prop extends CxOk c G k kx X where
  tk : Takes X W
  pass : PassesOwn (model X.prog X.w) X.A X.env X.xe
  fn : ∀ x, X.fn x = true
  kind : c.sc.kind = .function
def SndS (c : Ct) (st : Stmt) (st' : St) : Prop := ∀ (G : Nat → List D → Sto → Res D) (k : Nat) (kx : Nat → Value) (X : Cx) (W : WX), SxOk c G k kx X W → PS X st (RdS kx X.K W (ex G st'))
def SndB (c : Ct) (st : List Stmt) (st' : List St) : Prop := ∀ (G : Nat → List D → Sto → Res D) (k : Nat) (kx : Nat → Value) (X : Cx) (W : WX), SxOk c G k kx X W → PSs X st (RdS kx X.K W (exs G st'))
theorem sndB_of {c : Ct} {T : Stmt → Option St} (hT : ∀ st st', T st = some st' → SndS c st st') : ∀ {sts : List Stmt} {sts' : List St}, mapO T sts = some sts' → SndB c sts sts'
  | [], sts', h => by
    simp only [mapO, Option.some.injEq] at h
    subst h
    intro G k kx X W hx
    refine PSs.imp pss_nil fun D σ H q => ?_
    obtain ⟨w, s, S, rfl, st, rs, q⟩ := q
    simp only [exs] at q
    exact q.nx_ st rs
  | t :: ts, sts', h => by
    obtain ⟨y, r, h1, h2, rfl⟩ := mapO_cons h
    intro G k kx X W hx
    refine PSs.imp (pss_cons (hT t y h1 _ _ _ _ _ hx) (sndB_of hT h2 _ _ _ _ _ hx)) fun D σ H q => ?_
    obtain ⟨w, s, S, rfl, st, rs, q⟩ := q
    simp only [exs] at q
    refine ⟨w, s, S, rfl, st, rs, ?_⟩
    cases e : ex G y s S with
    | nx s1 S1 =>
      rw [e] at q
      exact fun σ' w' x st' rs' => ⟨w', s1, S1, rfl, st', rs', AftS.mono (o := exs G r s1 S1) q x⟩
    | rt d S1 => rw [e] at q; exact q
    | exc _ _ _ => rw [e] at q; exact q
    | no => rw [e] at q; exact q

variable {c : Ct} {R : Rec}
theorem s_pass {pos : Pos} : SndS c (.Pass pos) .pass := by
  intro G k kx X W hx
  refine PS.imp ps_pass fun D σ H q => ?_
  obtain ⟨w, s, S, rfl, st, rs, q⟩ := q
  simp only [ex] at q
  exact q.nx_ st rs
theorem s_doc {x : Str} {j : Nat} {p pos : Pos} : SndS c (.Expr (.Constant (.str x) j p) pos) .pass := by
  intro G k kx X W hx
  refine PS.imp ps_doc fun D σ H q => ?_
  obtain ⟨w, s, S, rfl, st, rs, q⟩ := q
  simp only [ex] at q
  exact q.nx_ st rs
theorem s_expr (hR : SndR R) {e : Expr} {e' : E} {pos : Pos} (hn : isComp e = false) (h : R c e = some e') : SndS c (.Expr e pos) (.expr e') := by
  intro G k kx X W hx
  refine PS.imp (ps_expr ((hR c e e' h).pe hx.toCxOk hx.tk) (sw_not hn _ _ _)) fun D σ H q => ?_
  obtain ⟨w, s, S, rfl, st, rs, q⟩ := q
  simp only [ex] at q
  exact ⟨w, s, S, rfl, st, rs, q.outE st fun d S1 v w1 x1 rs1 rd1 q1 => q1.nx_ (st.ext x1) rs1⟩
theorem s_ret (hR : SndR R) {e : Expr} {e' : E} {pos : Pos} (h : R c e = some e') : SndS c (.Return (some e) pos) (.ret e') := by
  intro G k kx X W hx
  refine PS.imp (ps_ret ((hR c e e' h).pe hx.toCxOk hx.tk)) fun D σ H q => ?_
  obtain ⟨w, s, S, rfl, st, rs, q⟩ := q
  simp only [ex] at q
  exact ⟨w, s, S, rfl, st, rs, q.outE st fun d S1 v w1 x1 rs1 rd1 q1 => q1 v w1 (Ext.refl w1) rs1 rd1⟩
theorem s_retN {pos : Pos} : SndS c (.Return none pos) .retN := by
  intro G k kx X W hx
  refine PS.imp ps_retN fun D σ H q => ?_
  obtain ⟨w, s, S, rfl, st, rs, q⟩ := q
  simp only [ex] at q
  exact q .non w (Ext.refl w) rs (by simp only [RD])
theorem s_if (hR : SndR R) {t : Expr} {t' : E} {a b : List Stmt} {a' b' : List St} {pos : Pos} (h : R c t = some t') (ha : SndB c a a') (hb : SndB c b b') : SndS c (.If t a b pos) (.ite t' a' b') := by
  intro G k kx X W hx
  refine PS.imp (ps_if ((hR c t t' h).pt hx.toCxOk hx.tk) (ha _ _ _ _ _ hx) (hb _ _ _ _ _ hx)) fun D σ H q => ?_
  obtain ⟨w, s, S, rfl, st, rs, q⟩ := q
  simp only [ex] at q
  refine ⟨w, s, S, rfl, st, rs, q.outB st fun b S1 w1 x1 rs1 q1 => ?_⟩
  cases b with
  | true => exact ⟨w1, s, S1, rfl, st.ext x1, rs1, q1⟩
  | false => exact ⟨w1, s, S1, rfl, st.ext x1, rs1, q1⟩
theorem s_while (hR : SndR R) {t : Expr} {t' : E} {a : List Stmt} {a' : List St} {pos : Pos} (h : R c t = some t') (ha : SndB c a a') : SndS c (.While t a [] pos) (.while t' a') := by
  intro G k kx X W hx
  refine PS.imp (ps_while hx.pass ((hR c t t' h).pt hx.toCxOk hx.tk) (ha _ _ _ _ _ hx)) fun D σ H q => ?_
  obtain ⟨w, s, S, rfl, st, rs, q⟩ := q
  simp only [ex] at q
  refine ⟨fun m σ H => ∃ w s S, w.H = H ∧ StR X.K w σ s ∧ RS X.K w S ∧ AftS kx X.K W D w (whileL (fun s S => tst (ev G t' s S)) (fun s S => exs G a' s S) m s S), ⟨whileMost, w, s, S, rfl, st, rs, q⟩, ?_⟩
  rintro m σ H ⟨w, s, S, rfl, st, rs, q⟩
  cases m with
  | zero => exact q.elim
  | succ m =>
    simp only [whileL] at q
    refine ⟨w, s, S, rfl, st, rs, ?_⟩
    dsimp only
    cases e : tst (ev G t' s S) with
    | no => rw [e] at q; exact q
    | exc x S1 => rw [e] at q; exact fun w1 x1 rs1 => q σ w1 x1 (st.ext x1) rs1
    | ok b S1 =>
      rw [e] at q
      intro b' w1 x1 rs1 eb
      subst eb
      cases b with
      | false =>
        simp only [Bool.false_eq_true, if_false]
        exact q σ w1 x1 (st.ext x1) rs1
      | true =>
        simp only [if_true]
        refine ⟨fun σ' H' => ∃ w s S, w.H = H' ∧ StR X.K w σ' s ∧ RS X.K w S ∧ AftS kx X.K W D w (whileL (fun s S => tst (ev G t' s S)) (fun s S => exs G a' s S) m s S), fun σ' H' h => ⟨m, by omega, h⟩, ?_⟩
        refine ⟨w1, s, S1, rfl, st.ext x1, rs1, ?_⟩
        dsimp only at q
        cases e2 : exs G a' s S1 with
        | nx s2 S2 =>
          rw [e2] at q
          exact fun σ' w' x st' rs' => ⟨w', s2, S2, rfl, st', rs', AftS.mono (o := whileL _ _ m s2 S2) q (x1.trans x)⟩
        | rt d S2 => rw [e2] at q; exact AftS.mono (o := .rt d S2) (D := { D with nx := _, ct := _, bk := D.nx }) q x1
        | exc _ _ _ => rw [e2] at q; exact AftS.mono (o := .exc _ _ _) (D := { D with nx := _, ct := _, bk := D.nx }) q x1
        | no => rw [e2] at q; exact q
theorem fnw_all {X : Cx} {is : List Nat} (h : ∀ x, X.fn x = true) : FnW c X is := fun x _ _ _ => .inl (h x)
theorem s_for (hR : SndR R) {tg it : Expr} {is : List Nat} {un : Bool} {kk : SK} {es : List E} {a : List Stmt} {a' : List St} {pos : Pos} (ht : trT c tg = some (is, un)) (h : trSrc R c tg it = some (kk, es)) (ha : SndB c a a') : SndS c (.For tg it a [] pos) (.for is un kk es a') := by
  intro G k kx X W hx
  obtain ⟨src, srcS⟩ := src_of hx.toCxOk hx.tk hR h
  refine PS.imp (ps_for hx.pass hx.calm src (pg_of hx.toCxOk ht (fnw_all hx.fn)) (ha _ _ _ _ _ hx) (srcS X.env)) fun D σ H q => ?_
  obtain ⟨w, s, S, rfl, st, rs, q⟩ := q
  simp only [ex] at q
  refine ⟨w, s, S, rfl, st, rs, ?_⟩
  have q' : AftS kx X.K W D w (match evI G kk es s S with
    | .ok p S1 => forL (fun d s => bindT is un d s) (fun s S => exs G a' s S) (chk p.1 p.2) p.1 s S1
    | .exc c S1 => .exc c s S1
    | .no => .no) := by
    refine q.eqv ?_
    unfold evI
    cases evs G es s S with
    | no => rfl
    | exc _ _ => rfl
    | ok ds S1 =>
      simp only [outL, bind_ok, srcR]
      cases items kk ds S1 with
      | none => rfl
      | some p => rfl
  cases e0 : evI G kk es s S with
  | no => rw [e0] at q'; exact q'
  | exc x S1 => rw [e0] at q'; exact fun w1 x1 rs1 => q' σ w1 x1 (st.ext x1) rs1
  | ok p S1 =>
    rw [e0] at q'
    intro J w1 x1 rs1 hJ
    refine ⟨fun i m σ H => ∃ w2 s2 S2, w2.H = H ∧ Ext w1 w2 ∧ StR X.K w2 σ s2 ∧ RS X.K w2 S2 ∧ m + i = p.1.length ∧ chk p.1 p.2 S2 = true ∧ AftS kx X.K W D w2 (forL (fun d s => bindT is un d s) (fun s S => exs G a' s S) (chk p.1 p.2) (p.1.drop i) s2 S2),
      ⟨p.1.length, w1, s, S1, rfl, Ext.refl w1, st.ext x1, rs1, rfl, evI_chk e0, AftS.mono (o := forL _ _ _ _ _ _) q' x1⟩, ?_⟩
    rintro i m σ2 H2 ⟨w2, s2, S2, rfl, x2, st2, rs2, hm, hk, q2⟩
    obtain ⟨walk1, walk2⟩ := hJ w2 S2 x2 rs2 hk
    cases hd : p.1[i]? with
    | none =>
      have hi' : i = p.1.length := by
        have := List.getElem?_eq_none_iff.mp hd
        omega
      left
      refine ⟨by rw [hi']; exact walk1, ?_⟩
      rw [hi', List.drop_length] at q2
      exact q2.nx_ st2 rs2
    | some d =>
      right
      obtain ⟨wg, wy⟩ := walk2 i d hd
      have hlt := (List.getElem?_eq_some_iff.mp hd).1
      have hdr : p.1.drop i = d :: p.1.drop (i + 1) := by
        rw [List.drop_eq_getElem_cons hlt]
        congr 1
        exact (List.getElem?_eq_some_iff.mp hd).2
      rw [hdr] at q2
      simp only [forL] at q2
      refine ⟨wg, fun σ' H' => ∃ m', m' < m ∧ ∃ w2 s2 S2, w2.H = H' ∧ Ext w1 w2 ∧ StR X.K w2 σ' s2 ∧ RS X.K w2 S2 ∧ m' + (i + 1) = p.1.length ∧ chk p.1 p.2 S2 = true ∧ AftS kx X.K W D w2 (forL (fun d s => bindT is un d s) (fun s S => exs G a' s S) (chk p.1 p.2) (p.1.drop (i + 1)) s2 S2), fun _ _ h => h, fun x H' y => ?_⟩
      obtain ⟨w3, rfl, x3, rs3, rd3⟩ := wy x H' y
      cases eb : bindT is un d s2 with
      | none => rw [eb] at q2; exact q2.elim
      | some s3 =>
        rw [eb] at q2
        refine gT_of (st2.ext x3) rd3 eb fun σ3 st3 _ => ⟨w3, s3, S2, rfl, st3, rs3, ?_⟩
        dsimp only at q2
        cases e2 : exs G a' s3 S2 with
        | nx s4 S4 =>
          rw [e2] at q2
          intro σ' w' x st' rs'
          dsimp only at q2
          split at q2
          · rename_i hk4
            exact ⟨m - 1, by omega, w', s4, S4, rfl, x2.trans (x3.trans x), st', rs', by omega, hk4, q2.mono (x3.trans x)⟩
          · exact q2.elim
        | rt d S2 => rw [e2] at q2; exact AftS.mono (o := .rt d S2) (D := { D with nx := _, ct := _, bk := D.nx }) q2 x3
        | exc _ _ _ => rw [e2] at q2; exact AftS.mono (o := .exc _ _ _) (D := { D with nx := _, ct := _, bk := D.nx }) q2 x3
        | no => rw [e2] at q2; exact q2
/-! ### assignments -/
theorem s_set (hR : SndR R) {x : Str} {xp pos : Pos} {e : Expr} {e' : E} {i : Nat} (hs : slotW c x = some i) (hw : ∀ (l : Nat) (env : PySem.Env), env.scope = c.sc → c.sc.kind = .function → swapsWith e (some (.Name x xp)) l env = pure false) (h : R c e = some e') : SndS c (.Assign [.Name x xp] e pos) (.set i e') := by
  intro G k kx X W hx
  obtain ⟨h1, h2⟩ := hx.slotw hs
  refine PS.imp (ps_set (by rw [hx.hN]; exact hx.nd) h1 h2 ((hR c e e' h).pe hx.toCxOk hx.tk) (hw _ _ hx.sc hx.kind) (.inl (hx.fn x))) fun D σ H q => ?_
  obtain ⟨w, s, S, rfl, st, rs, q⟩ := q
  simp only [ex] at q
  exact ⟨w, s, S, rfl, st, rs, q.outE st fun d S1 v w1 x1 rs1 rd1 q1 => q1 _ w1 (Ext.refl w1) ((st.ext x1).set rd1) rs1⟩
/-- x = [.. for ..] -/
theorem s_setC (hR : SndR R) {x : Str} {xp pos p : Pos} {elt tg it : Expr} {ifs : List Expr} {scope : Scope} {e' : E} {i : Nat} (hs : slotW c x = some i) (hw : swL c x xp p scope = true) (h : trComp R c elt tg it ifs scope = some e') :
    SndS c (.Assign [.Name x xp] (.ListComp elt [⟨tg, it, ifs, 0⟩] scope p) pos) (.set i e') ∧ SndS c (.Assign [.Name x xp] (.ListComp elt [⟨tg, it, ifs, 0⟩] scope p) pos) (.setM i e') := by
  obtain ⟨is, un, kk, es, cs, el, rfl, parts⟩ := comp_parts hR h
  obtain ⟨y1, y2, y3⟩ := sw_tr hw
  constructor
  all_goals
    intro G k kx X W hx
    obtain ⟨n1, n2⟩ := hx.slotw hs
    obtain ⟨wi, g, tt, te, h1, h2, h3, h4, h5, h6, h7⟩ := parts hx.toCxOk hx.tk
    refine PS.imp (ps_setLc hx.calm (by rw [hx.hN]; exact hx.nd) n1 (by rw [hx.sc]; exact y1) (sw_true (by rw [hx.sc]; exact hx.kind) (by rw [hx.sc]; exact y1) y2 y3) h1 h2 h3 h4 h5 h6) fun D σ H q => ?_
    refine h7 σ H _ ?_
    obtain ⟨w, s, S, rfl, st, rs, q⟩ := q
    simp only [ex, ev_comp] at q
    refine ⟨w, s, S, rfl, st, rs, ?_⟩
    cases e0 : compE G ((ownOf c.N scope).map (·.2)) is un kk es cs el s S with
    | no => rw [e0] at q; exact q
    | exc x S1 => rw [e0] at q; exact fun w1 x1 rs1 => q σ w1 x1 (st.ext x1) rs1
    | ok ys S1 =>
      rw [e0] at q
      intro v w1 x1 rs1 hn
      first
        | (obtain ⟨w2, e2, x2, rs2, rd2⟩ := hn.frz x1 rs1
           rw [← e2]
           exact q _ w2 x2 ((st.ext x2).set rd2) rs2)
        | (obtain ⟨w2, e2, x2, rs2, rd2⟩ := hn.sto x1 rs1
           rw [← e2]
           exact q _ w2 x2 ((st.ext x2).set rd2) rs2)
/-- a new list, by its form -/
structure SndM (c : Ct) (e : Expr) (e' : E) : Prop where
  pm : ∀ {G : Nat → List D → Sto → Res D} {k : Nat} {kx : Nat → Value} {X : Cx} {W : WX}, CxOk c G k kx X → Takes X W → PE X e (RdN kx X.K W fun s S => (ev G e' s S).bind fun d S => match d with
    | .lst xs => .ok xs S
    | _ => .no)
theorem Aft.lstN {kx : Nat → Value} {K : PySem.W.Frag} {W : WX} {σ : L2.St} {w w1 : Wd} {S : Sto} {Q : VK} {xs : List D} {vs : List V} (h : Aft kx K W σ (RNew K w) w1 (.ok xs S) Q) (x : Ext w w1) (hs : RS K w1 S) (hl : xs.length ≤ szL) (hr : RDs K w1 xs vs) : ∀ p, w1.H p = none → Q (.ref p) (upd w1.H p (.lst vs)) := fun p hp =>
  h (.ref p) (w1.new p (.lst vs)) (Ext.new hp) (hs.new hp) ⟨p, vs, rfl, x.fresh hs hp, upd_same, hs.notF hp, hs.notIn hp, hl, RDs.ext (Ext.new hp) _ _ hr⟩
theorem m_lst (hR : SndR R) {es : List Expr} {es' : List E} {pos : Pos} (hl : es.length ≤ 1000) (h : mapO (R c) es = some es') : SndM c (.List es pos) (.lst es') := by
  refine ⟨fun {G k' kx X W} hc tk => ?_⟩
  refine PE.imp (pe_lst (snd_list hR hc tk h)) fun σ H Q q => ?_
  obtain ⟨w, s, S, rfl, st, rs, q⟩ := q
  simp only [ev, bind_assoc, bind_ok] at q
  refine ⟨w, s, S, rfl, st, rs, q.bind fun ds S1 vs w1 e x1 rs1 rd1 q1 => ?_⟩
  have l : ds.length ≤ 1000 := by rw [evs_len es' S S1 ds e, mapO_len h]; exact hl
  have l2 := rd1.length
  exact ⟨by rw [l2, sizeLine_eq]; omega, q1.lstN x1 rs1 (by unfold szL; omega) rd1⟩
theorem ite_no {kx : Nat → Value} {K : PySem.W.Frag} {W : WX} {σ : L2.St} {w : Wd} {Rl : Wd → List D → V → Prop} {Q : VK} {P : Prop} [Decidable P] {d : D} {S : Sto} {f : D → Sto → Res (List D)} (h : Aft kx K W σ Rl w ((if P then Res.ok d S else .no).bind f) Q) (hf : f d S = .no := by rfl) : False := by
  by_cases hp : P
  · rw [if_pos hp, bind_ok, hf] at h; exact h
  · rw [if_neg hp] at h; exact h
theorem m_add (hR : SndR R) {a b : Expr} {a' b' : E} {pos : Pos} (h1 : R c a = some a') (h2 : R c b = some b') : SndM c (.BinOp a .Add b pos) (.pr .add [a', b']) := by
  refine ⟨fun {G k' kx X W} hc tk => ?_⟩
  refine PE.imp (pe_op op_addD ((hR c a a' h1).pe hc tk) ((hR c b b' h2).pe hc tk)) fun σ H Q q => ?_
  obtain ⟨w, s, S, rfl, st, rs, q⟩ := q
  simp only [ev, evs, bind_assoc, bind_ok] at q
  refine ⟨w, s, S, rfl, st, rs, q.bind fun d S1 v w1 _ x1 rs1 rd1 q1 => ⟨w1, s, S1, rfl, st.ext x1, rs1, q1.bind fun e S2 u w2 _ x2 rs2 rd2 q2 => ?_⟩⟩
  have ra := RV.of rs2 (RD.ext x2 _ _ rd1)
  have rb := RV.of rs2 rd2
  simp only [pr] at q2
  generalize Eng.rs S2 d = a' at ra q2
  generalize Eng.rs S2 e = b' at rb q2
  cases a' with
  | lst x =>
    cases b' with
    | lst y =>
      obtain ⟨p, vs, rfl, g1, g2, g3⟩ := ra.lstI
      obtain ⟨q, us, rfl, k1, k2, k3⟩ := rb.lstI
      have hg : x.length + y.length ≤ szL ∧ Aft kx X.K W σ (RNew X.K w) w2 (.ok (x ++ y) S2) Q := by
        simp only [gd] at q2
        by_cases hg : x.length + y.length ≤ szL
        · rw [if_pos hg] at q2; exact ⟨hg, q2⟩
        · rw [if_neg hg] at q2; exact q2.elim
      obtain ⟨hl, q3⟩ := hg
      have l1 := g3.length
      have l2 := k3.length
      exact .inr (.inr (.inr ⟨p, q, vs, us, rfl, rfl, g1, k1, by rw [l1, l2, ← szL_eq]; exact hl, q3.lstN (x1.trans x2) rs2 (by simpa using hl) (g3.append k3)⟩))
    | _ => exact q2.elim
  | int _ => cases b' <;> exact q2.elim
  | str _ =>
    cases b' with
    | str _ => simp only [gd] at q2; exact False.elim (ite_no q2)
    | _ => exact q2.elim
  | tup _ =>
    cases b' with
    | tup _ => simp only [gd] at q2; exact False.elim (ite_no q2)
    | _ => exact q2.elim
  | _ => cases b' <;> exact q2.elim
theorem s_setM {x : Str} {xp pos : Pos} {e : Expr} {e' : E} {i : Nat} (hs : slotW c x = some i) (hw : isComp e = false) (h : SndM c e e') : SndS c (.Assign [.Name x xp] e pos) (.setM i e') := by
  intro G k kx X W hx
  obtain ⟨h1, h2⟩ := hx.slotw hs
  refine PS.imp (ps_set (by rw [hx.hN]; exact hx.nd) h1 h2 (h.pm hx.toCxOk hx.tk) (sw_not hw _ _ _) (.inl (hx.fn x))) fun D σ H q => ?_
  obtain ⟨w, s, S, rfl, st, rs, q⟩ := q
  simp only [ex] at q
  refine ⟨w, s, S, rfl, st, rs, ?_⟩
  dsimp only
  cases e0 : ev G e' s S with
  | no => rw [e0] at q; exact q
  | exc x S1 => rw [e0] at q; exact fun w1 x1 rs1 => q σ w1 x1 (st.ext x1) rs1
  | ok d S1 =>
    rw [e0] at q
    cases d with
    | lst ys =>
      intro v w1 x1 rs1 hn
      obtain ⟨w2, e2, x2, rs2, rd2⟩ := hn.sto x1 rs1
      show D.nx _ _
      rw [← e2]
      exact q _ w2 x2 ((st.ext x2).set rd2) rs2
    | _ => exact q
theorem s_unp (hR : SndR R) {ts : List Expr} {kt : Nat} {tp pos : Pos} {e : Expr} {e' : E} {is : List Nat} (ht : mapO (nameIx c) ts = some is) (hn : isComp e = false) (hw : isTup e = false) (h : R c e = some e') : SndS c (.Assign [.Tuple ts kt tp] e pos) (.unp is e') := by
  intro G k kx X W hx
  have ht' : trT c (.Tuple ts kt tp) = some (is, true) := by simp only [trT, ht, Option.map_some]
  refine PS.imp (ps_asg ((hR c e e' h).pe hx.toCxOk hx.tk) (pg_of hx.toCxOk ht' (fnw_all hx.fn)) (show swapsWithSole [.Tuple ts kt tp] e pos.line X.env = pure false from sw_not hn (some (.Tuple ts kt tp)) pos.line X.env) (ss_not hw _)) fun D σ H q => ?_
  obtain ⟨w, s, S, rfl, st, rs, q⟩ := q
  simp only [ex] at q
  refine ⟨w, s, S, rfl, st, rs, q.outE st fun d S1 v w1 x1 rs1 rd1 q1 => ?_⟩
  cases eb : bindT is true d s with
  | none => rw [eb] at q1; exact q1.elim
  | some s1 =>
    rw [eb] at q1
    exact gT_of (st.ext x1) rd1 eb fun σ' st' _ => q1 σ' w1 (Ext.refl w1) st' rs1
theorem s_setI (hR : SndR R) {o i e : Expr} {op pos : Pos} {o' i' e' : E} (hn : isComp e = false) (h1 : R c o = some o') (h2 : R c i = some i') (h3 : R c e = some e') : SndS c (.Assign [.Subscript o i op] e pos) (.setI o' i' e') := by
  intro G k kx X W hx
  refine PS.imp (ps_dput (by have := hx.units; omega) ((hR c o o' h1).pe hx.toCxOk hx.tk) ((hR c i i' h2).pe hx.toCxOk hx.tk) ((hR c e e' h3).pe hx.toCxOk hx.tk) (sw_not hn _ _ _)) fun D σ H q => ?_
  obtain ⟨w, s, S, rfl, st, rs, q⟩ := q
  simp only [ex] at q
  refine ⟨w, s, S, rfl, st, rs, q.outE st fun d S1 v w1 x1 rs1 rd1 q1 => ⟨w1, s, S1, rfl, st.ext x1, rs1, q1.outE (st.ext x1) fun d2 S2 v2 w2 x2 rs2 rd2 q2 => ⟨w2, s, S2, rfl, (st.ext x1).ext x2, rs2, q2.outE ((st.ext x1).ext x2) fun d3 S3 v3 w3 x3 rs3 rd3 q3 => ?_⟩⟩⟩
  have st3 := ((st.ext x1).ext x2).ext x3
  obtain ⟨a, H4, e1, e2, e3⟩ := px_seti (Q := fun _ H => D.nx σ H) rs3 (RD.ext x3 _ _ rd2) rd3 (RD.ext (x2.trans x3) _ _ rd1) (q3.outE st3 fun d4 S4 v4 w4 x4 rs4 rd4 q4 => q4.nx_ (st3.ext x4) rs4)
  exact ⟨a, H4, e1, e2, e3⟩
/-! ### a, b = x, y -/
theorem s_parX (hR : SndR R) {ts es : List Expr} {kt k2 : Nat} {tp p2 pos : Pos} {es' : List E} {is : List Nat} (ht : mapO (nameIx c) ts = some is) (hl : es.length ≤ 1000) (hw : swX c ts es = true) (h : mapO (R c) es = some es') : SndS c (.Assign [.Tuple ts kt tp] (.Tuple es k2 p2) pos) (.par is es') := by
  intro G k kx X W hx
  have ht' : trT c (.Tuple ts kt tp) = some (is, true) := by simp only [trT, ht, Option.map_some]
  refine PS.imp (ps_asg ((snd_tuple hR hl h).pe hx.toCxOk hx.tk) (pg_of hx.toCxOk ht' (fnw_all hx.fn)) rfl (ss_none hx.sc hx.kind hw)) fun D σ H q => ?_
  obtain ⟨w, s, S, rfl, st, rs, q⟩ := q
  simp only [ex] at q
  have q' : AftS kx X.K W D w (outE s (ev G (.tup es') s S) fun d S => match bindT is true d s with
    | some s1 => .nx s1 S
    | none => .no) := by
    refine q.eqv ?_
    simp only [ev]
    cases evs G es' s S with
    | no => rfl
    | exc _ _ => rfl
    | ok ds S1 =>
      simp only [outL, bind_ok, outE, bindT]
      by_cases hl : ds.length = is.length
      · rw [if_pos hl, if_pos hl]
      · rw [if_neg hl, if_neg hl]
  refine ⟨w, s, S, rfl, st, rs, q'.outE st fun d S1 v w1 x1 rs1 rd1 q1 => ?_⟩
  cases eb : bindT is true d s with
  | none => rw [eb] at q1; exact q1.elim
  | some s1 =>
    rw [eb] at q1
    exact gT_of (st.ext x1) rd1 eb fun σ' st' _ => q1 σ' w1 (Ext.refl w1) st' rs1
theorem three_of {K : PySem.W.Frag} {w : Wd} {ds : List D} {vs : List V} (hl : ds.length = 3) (h : RDs K w ds vs) : ∃ d e f v u t, ds = [d, e, f] ∧ vs = [v, u, t] ∧ RD K w d v ∧ RD K w e u ∧ RD K w f t := by
  cases ds with
  | nil => cases hl
  | cons d r =>
    obtain ⟨v, r', rfl, h1, h2⟩ := h.cons_inv
    obtain ⟨e, f, u, t, rfl, rfl, h3, h4⟩ := two_of (by simpa using hl) h2
    exact ⟨d, e, f, v, u, t, rfl, rfl, h1, h3, h4⟩
theorem s_par2 (hR : SndR R) {x y : Str} {px py : Pos} {a b : Expr} {kt k2 : Nat} {tp p2 pos : Pos} {es' : List E} {i j : Nat} (hi : slotW c x = some i) (hj : slotW c y = some j) (hij : i ≠ j) (lx : c.sc.names.lookup x = some .local) (ly : c.sc.names.lookup y = some .local) (hw : swY c [.Name x px, .Name y py] [a, b] = true) (hn : swN c.sc [.Name x px, .Name y py] = [x, y])
    (h : mapO (R c) [a, b] = some es') : SndS c (.Assign [.Tuple [.Name x px, .Name y py] kt tp] (.Tuple [a, b] k2 p2) pos) (.par [i, j] es') := by
  intro G k kx X W hx
  obtain ⟨h1, _⟩ := hx.slotw hi
  obtain ⟨h2, _⟩ := hx.slotw hj
  refine PS.imp (ps_par hx.calm (by rw [hx.hN]; exact hx.nd) h1 h2 hij (by rw [hx.sc]; exact lx) (by rw [hx.sc]; exact ly) (snd_list hR hx.toCxOk hx.tk h) (by rw [ss_some hx.sc hx.kind hw, hn])) fun D σ H q => ?_
  obtain ⟨w, s, S, rfl, st, rs, q⟩ := q
  simp only [ex] at q
  refine ⟨w, s, S, rfl, st, rs, q.outL st fun ds S1 vs w1 e1 x1 rs1 rd1 q1 => ?_⟩
  obtain ⟨d, e, v, u, rfl, rfl, r1, r2⟩ := two_of (by rw [evs_len _ _ _ _ e1, mapO_len h] <;> rfl) rd1
  exact ⟨v, u, rfl, q1 _ w1 (Ext.refl w1) (((st.ext x1).set r1).set r2) rs1⟩
theorem s_par3 (hR : SndR R) {x y z : Str} {px py pz : Pos} {a b d : Expr} {kt k2 : Nat} {tp p2 pos : Pos} {es' : List E} {i j l : Nat} (hi : slotW c x = some i) (hj : slotW c y = some j) (hl : slotW c z = some l) (hij : i ≠ j) (hil : i ≠ l) (hjl : j ≠ l) (lx : c.sc.names.lookup x = some .local) (ly : c.sc.names.lookup y = some .local) (lz : c.sc.names.lookup z = some .local)
    (hw : swY c [.Name x px, .Name y py, .Name z pz] [a, b, d] = true) (hn : swN c.sc [.Name x px, .Name y py, .Name z pz] = [x, y, z])
    (h : mapO (R c) [a, b, d] = some es') : SndS c (.Assign [.Tuple [.Name x px, .Name y py, .Name z pz] kt tp] (.Tuple [a, b, d] k2 p2) pos) (.par [i, j, l] es') := by
  intro G k kx X W hx
  obtain ⟨h1, _⟩ := hx.slotw hi
  obtain ⟨h2, _⟩ := hx.slotw hj
  obtain ⟨h3, _⟩ := hx.slotw hl
  refine PS.imp (ps_par3 hx.calm (by rw [hx.hN]; exact hx.nd) h1 h2 h3 hij hil hjl (by rw [hx.sc]; exact lx) (by rw [hx.sc]; exact ly) (by rw [hx.sc]; exact lz) (snd_list hR hx.toCxOk hx.tk h) (by rw [ss_some hx.sc hx.kind hw, hn])) fun D σ H q => ?_
  obtain ⟨w, s, S, rfl, st, rs, q⟩ := q
  simp only [ex] at q
  refine ⟨w, s, S, rfl, st, rs, q.outL st fun ds S1 vs w1 e1 x1 rs1 rd1 q1 => ?_⟩
  obtain ⟨d, e, f, v, u, t, rfl, rfl, r1, r2, r3⟩ := three_of (by rw [evs_len _ _ _ _ e1, mapO_len h] <;> rfl) rd1
  exact ⟨v, u, t, rfl, q1 _ w1 (Ext.refl w1) ((((st.ext x1).set r1).set r2).set r3) rs1⟩

/-! ### every statement -/
def kindF (sc : Scope) : Bool := match sc.kind with
  | .function => true
  | _ => false
section
variable (R : Rec) (mv : List Str) (c : Ct)
def trSet (x : Str) (xp : Pos) (e : Expr) : Option St := match slotW c x with
  | none => none
  | some i => if x ∈ mv then (match e with
      | .List es _ => if es.length ≤ 1000 then (mapO (R c) es).map fun es' => .setM i (.lst es') else none
      | .BinOp a .Add b _ => match R c a, R c b with
        | some a', some b' => some (.setM i (.pr .add [a', b']))
        | _, _ => none
      | .ListComp elt [⟨tg, it, ifs, a⟩] scope p => if a = 0 ∧ swL c x xp p scope = true then (trComp R c elt tg it ifs scope).map fun e' => .setM i e' else none
      | _ => none)
    else match e with
      | .ListComp elt [⟨tg, it, ifs, a⟩] scope p => if a = 0 then (if swL c x xp p scope = true then (trComp R c elt tg it ifs scope).map fun e' => .set i e' else (R c (.ListComp elt [⟨tg, it, ifs, a⟩] scope p)).map fun e' => .set i e') else none
      | e => if isComp e = false then (R c e).map fun e' => .set i e' else none
def trPar (ts es : List Expr) : Option St := match mapO (nameIx c) ts, mapO (R c) es with
  | some is, some es' => if swX c ts es = true ∧ es.length ≤ 1000 then some (.par is es') else if swY c ts es = true then (match ts, es with
      | [.Name x px, .Name y py], [a, b] => if is.Nodup ∧ c.sc.names.lookup x = some .local ∧ c.sc.names.lookup y = some .local ∧ swN c.sc ts = [x, y] then some (.par is es') else none
      | [.Name x px, .Name y py, .Name z pz], [a, b, d] => if is.Nodup ∧ c.sc.names.lookup x = some .local ∧ c.sc.names.lookup y = some .local ∧ c.sc.names.lookup z = some .local ∧ swN c.sc ts = [x, y, z] then some (.par is es') else none
      | _, _ => none) else none
  | _, _ => none
def trAsg (tg e : Expr) : Option St := match tg with
  | .Name x xp => trSet R mv c x xp e
  | .Tuple ts _ _ => (match e with
    | .Tuple es _ _ => trPar R c ts es
    | e => if isComp e = false ∧ isTup e = false then (match mapO (nameIx c) ts, R c e with
      | some is, some e' => some (.unp is e')
      | _, _ => none) else none)
  | .Subscript o i _ => if isComp e = false then (match R c o, R c i, R c e with
      | some o', some i', some e' => some (.setI o' i' e')
      | _, _, _ => none) else none
  | _ => none
def trS : Nat → Stmt → Option St
  | 0, _ => none
  | n + 1, st => match st with
    | .Pass _ => some .pass
    | .Expr e _ => (match e with
      | .Constant (.str _) _ _ => some .pass
      | e => if isComp e = false then (R c e).map .expr else none)
    | .Return o _ => (match o with
      | none => some .retN
      | some e => (R c e).map .ret)
    | .If t a b _ => (match R c t, mapO (trS n) a, mapO (trS n) b with
      | some t', some a', some b' => some (.ite t' a' b')
      | _, _, _ => none)
    | .While t a o _ => (match o with
      | [] => match R c t, mapO (trS n) a with
        | some t', some a' => some (.while t' a')
        | _, _ => none
      | _ => none)
    | .For tg it a o _ => (match o with
      | [] => match trT c tg, trSrc R c tg it, mapO (trS n) a with
        | some (is, un), some (k, es), some a' => some (.for is un k es a')
        | _, _, _ => none
      | _ => none)
    | .Assign tgs e _ => (match tgs with
      | [tg] => trAsg R mv c tg e
      | _ => none)
    | _ => none
end
theorem s_trSet (hR : SndR R) (hF : SndR fun c e => trF R c e) {mv : List Str} {x : Str} {xp pos : Pos} {e : Expr} {st' : St} (h : trSet R mv c x xp e = some st') : SndS c (.Assign [.Name x xp] e pos) st' := by
  unfold trSet at h
  split at h
  · cases h
  · rename_i i hs
    split at h
    · split at h
      · split at h
        · rename_i hl
          obtain ⟨es', e1, rfl⟩ := Option.map_eq_some_iff.mp h
          exact s_setM hs rfl (m_lst hR hl e1)
        · cases h
      · split at h
        · rename_i a' b' e1 e2
          cases h
          exact s_setM hs rfl (m_add hR e1 e2)
        · cases h
      · split at h
        · rename_i hl
          obtain ⟨rfl, hl⟩ := hl
          obtain ⟨es', e1, rfl⟩ := Option.map_eq_some_iff.mp h
          exact (s_setC hR hs hl e1).2
        · cases h
      · cases h
    · split at h
      · split at h
        · rename_i ha; subst ha
          split at h
          · rename_i hl
            obtain ⟨es', e1, rfl⟩ := Option.map_eq_some_iff.mp h
            exact (s_setC hR hs hl e1).1
          · rename_i hl
            obtain ⟨es', e1, rfl⟩ := Option.map_eq_some_iff.mp h
            exact s_set hR hs (fun l env q1 q2 => sw_false q1 q2 (by simpa using hl)) e1
        · cases h
      · split at h
        · rename_i hn
          obtain ⟨es', e1, rfl⟩ := Option.map_eq_some_iff.mp h
          exact s_set hR hs (fun l env _ _ => sw_not hn _ _ _) e1
        · cases h
theorem mapO2 {a b : Type} {f : a → Option b} {x y : a} {r : List b} (h : mapO f [x, y] = some r) : ∃ p q, f x = some p ∧ f y = some q ∧ r = [p, q] := by
  obtain ⟨p, r1, h1, h2, rfl⟩ := mapO_cons h
  obtain ⟨q, r2, h3, h4, rfl⟩ := mapO_cons h2
  simp only [mapO, Option.some.injEq] at h4
  subst h4
  exact ⟨p, q, h1, h3, rfl⟩
theorem mapO3 {a b : Type} {f : a → Option b} {x y z : a} {r : List b} (h : mapO f [x, y, z] = some r) : ∃ p q t, f x = some p ∧ f y = some q ∧ f z = some t ∧ r = [p, q, t] := by
  obtain ⟨p, r1, h1, h2, rfl⟩ := mapO_cons h
  obtain ⟨q, t, h3, h4, rfl⟩ := mapO2 h2
  exact ⟨p, q, t, h1, h3, h4, rfl⟩
theorem s_trPar (hR : SndR R) {ts es : List Expr} {kt k2 : Nat} {tp p2 pos : Pos} {st' : St} (h : trPar R c ts es = some st') : SndS c (.Assign [.Tuple ts kt tp] (.Tuple es k2 p2) pos) st' := by
  unfold trPar at h
  split at h
  · rename_i is es' h1 h2
    split at h
    · rename_i hw
      cases h
      exact s_parX hR h1 hw.2 hw.1 h2
    · split at h
      · rename_i hw
        split at h
        · split at h
          · rename_i hq
            cases h
            obtain ⟨i, j, a1, a2, rfl⟩ := mapO2 h1
            simp only [nameIx] at a1 a2
            have nd := hq.1
            simp at nd
            exact s_par2 hR a1 a2 nd hq.2.1 hq.2.2.1 hw hq.2.2.2 h2
          · cases h
        · split at h
          · rename_i hq
            cases h
            obtain ⟨i, j, l, a1, a2, a3, rfl⟩ := mapO3 h1
            simp only [nameIx] at a1 a2 a3
            have nd := hq.1
            simp at nd
            exact s_par3 hR a1 a2 a3 nd.1.1 nd.1.2 nd.2 hq.2.1 hq.2.2.1 hq.2.2.2.1 hw hq.2.2.2.2 h2
          · cases h
        · cases h
      · cases h
  · cases h
theorem s_trAsg (hR : SndR R) (hF : SndR fun c e => trF R c e) {mv : List Str} {tg e : Expr} {pos : Pos} {st' : St} (h : trAsg R mv c tg e = some st') : SndS c (.Assign [tg] e pos) st' := by
  unfold trAsg at h
  split at h
  · exact s_trSet hR hF h
  · split at h
    · exact s_trPar hR h
    · split at h
      · rename_i hn
        split at h
        · rename_i is e' e1 e2
          cases h
          exact s_unp hR e1 hn.1 hn.2 e2
        · cases h
      · cases h
  · split at h
    · rename_i hn
      split at h
      · rename_i o' i' e' e1 e2 e3
        cases h
        exact s_setI hR hn e1 e2 e3
      · cases h
    · cases h
  · cases h
theorem s_all (hR : SndR R) (hF : SndR fun c e => trF R c e) {mv : List Str} : ∀ (n : Nat) (st : Stmt) (st' : St), trS R mv c n st = some st' → SndS c st st'
  | 0, st, st', h => by simp [trS] at h
  | n + 1, st, st', h => by
    have ih := s_all hR hF (mv := mv) n
    unfold trS at h
    split at h
    · cases h; exact s_pass
    · split at h
      · cases h; exact s_doc
      · split at h
        · rename_i hn
          obtain ⟨e', e1, rfl⟩ := Option.map_eq_some_iff.mp h
          exact s_expr hR hn e1
        · cases h
    · split at h
      · cases h; exact s_retN
      · obtain ⟨e', e1, rfl⟩ := Option.map_eq_some_iff.mp h
        exact s_ret hR e1
    · split at h
      · rename_i t' a' b' e1 e2 e3
        cases h
        exact s_if hR e1 (sndB_of ih e2) (sndB_of ih e3)
      · cases h
    · split at h
      · split at h
        · rename_i t' a' e1 e2
          cases h
          exact s_while hR e1 (sndB_of ih e2)
        · cases h
      · cases h
    · split at h
      · split at h
        · rename_i is un k es a' e1 e2 e3
          cases h
          exact s_for hR e1 e2 (sndB_of ih e3)
        · cases h
      · cases h
    · split at h
      · exact s_trAsg hR hF h
      · cases h
    · cases h
end Eng

/-! Eng16 -/
set_option Elab.async false
set_option linter.all false
set_option maxRecDepth 100000
set_option maxHeartbeats 4000000
/-! Defs. -/
namespace Eng
open PySem PySem.Spec PyProof.Rows L2

/-! ### a def ends -/
mutual
def D.low (n : Nat) : D → Bool
  | .tup xs => D.lows n xs
  | .lst xs => D.lows n xs
  | .loc l => decide (l < n)
  | _ => true
def D.lows (n : Nat) : List D → Bool
  | [] => true
  | x :: xs => x.low n && D.lows n xs
end
mutual
theorem pure_below (n : Nat) : ∀ d : D, d.pure = true → d.low n = true
  | .non, _ => by simp only [D.low]
  | .bl _, _ => by simp only [D.low]
  | .int _, _ => by simp only [D.low]
  | .str _, _ => by simp only [D.low]
  | .scr _, _ => by simp only [D.low]
  | .tup xs, h => by simp only [D.pure] at h; simp only [D.low]; exact pures_below n xs h
  | .lst xs, h => by simp only [D.pure] at h; simp only [D.low]; exact pures_below n xs h
  | .loc _, h => by simp [D.pure] at h
theorem pures_below (n : Nat) : ∀ ds : List D, D.pures ds = true → D.lows n ds = true
  | [], _ => by simp only [D.lows]
  | x :: xs, h => by
    simp only [D.pures, Bool.and_eq_true] at h
    simp only [D.lows, Bool.and_eq_true]
    exact ⟨pure_below n x h.1, pures_below n xs h.2⟩
end
section
variable {K : PySem.W.Frag} {w w' : Wd}
mutual
theorem RD.low : ∀ (d : D) (v : V), RD K w d v → d.low w.r.length = true
  | .non, _, _ => by simp only [D.low]
  | .bl _, _, _ => by simp only [D.low]
  | .int _, _, _ => by simp only [D.low]
  | .str _, _, _ => by simp only [D.low]
  | .scr _, _, _ => by simp only [D.low]
  | .tup xs, v, h => by
    obtain ⟨a, vs, rfl, h1, h2, h3⟩ := h.tupI
    simp only [D.low]; exact RDs.low xs vs h3
  | .lst xs, v, h => by
    obtain ⟨a, vs, rfl, h1, h2, h3⟩ := h.lstI
    simp only [D.low]; exact RDs.low xs vs h3
  | .loc l, v, h => by
    obtain ⟨a, rfl, e⟩ := h.locI
    simp only [D.low]
    exact decide_eq_true (List.getElem?_eq_some_iff.mp e).1
theorem RDs.low : ∀ (ds : List D) (vs : List V), RDs K w ds vs → D.lows w.r.length ds = true
  | [], _, _ => by simp only [D.lows]
  | x :: xs, vs, h => by
    obtain ⟨v, r, rfl, h1, h2⟩ := h.cons_inv
    simp only [D.lows, Bool.and_eq_true]
    exact ⟨RD.low x v h1, RDs.low xs r h2⟩
end
/-- the same heap, a shorter store -/
structure Cut (n : Nat) (w w' : Wd) : Prop where
  H : w'.H = w.H
  F : ∀ b, w.F b → w'.F b
  r : ∀ l a, l < n → w.r[l]? = some a → w'.r[l]? = some a
mutual
theorem RD.cutW {n : Nat} (x : Cut n w w') : ∀ (d : D) (v : V), d.low n = true → RD K w d v → RD K w' d v
  | .non, _, _, h => by simpa only [RD] using h
  | .bl _, _, _, h => by simpa only [RD] using h
  | .int _, _, _, h => by simpa only [RD] using h
  | .str _, _, _, h => by simpa only [RD] using h
  | .tup xs, v, hb, h => by
    simp only [D.low] at hb
    simp only [RD] at h ⊢
    obtain ⟨a, vs, e, h1, h2, h3⟩ := h
    exact ⟨a, vs, e, by rw [x.H]; exact h1, h2, RDs.cutW x xs vs hb h3⟩
  | .lst xs, v, hb, h => by
    simp only [D.low] at hb
    simp only [RD] at h ⊢
    obtain ⟨a, vs, e, h1, h2, h3⟩ := h
    exact ⟨a, vs, e, ⟨x.F _ h1.1, by rw [x.H]; exact h1.2⟩, h2, RDs.cutW x xs vs hb h3⟩
  | .loc l, v, hb, h => by
    simp only [D.low, decide_eq_true_eq] at hb
    simp only [RD] at h ⊢
    obtain ⟨a, e, h1⟩ := h
    exact ⟨a, e, x.r l a hb h1⟩
  | .scr ns, v, _, h => by
    simp only [RD] at h ⊢
    obtain ⟨a, e, h1⟩ := h
    refine ⟨a, e, ?_⟩
    rcases h1 with ⟨o, h1⟩ | h1
    · exact .inl ⟨o, by rw [x.H]; exact h1⟩
    · exact .inr h1
theorem RDs.cutW {n : Nat} (x : Cut n w w') : ∀ (ds : List D) (vs : List V), D.lows n ds = true → RDs K w ds vs → RDs K w' ds vs
  | [], _, _, h => by simpa only [RDs] using h
  | d :: ds, vs, hb, h => by
    simp only [D.lows, Bool.and_eq_true] at hb
    simp only [RDs] at h ⊢
    obtain ⟨v, r, e, h1, h2⟩ := h
    exact ⟨v, r, e, RD.cutW x d v hb.1 h1, RDs.cutW x ds r hb.2 h2⟩
end
def MO.low (n : Nat) : MO → Bool
  | .lst xs => D.lows n xs
  | .dct kvs => D.lows n (vals kvs)
  | .dtt kvs => D.lows n (vals kvs)
theorem KVs.vals : ∀ {kvs : List (List Nat × D)} {ks : List (Key × V)}, KVs K w kvs ks → RDs K w (Eng.vals kvs) (ks.map (·.2))
  | [], ks, h => by rw [show ks = [] from h]; exact RDs.nil
  | (s, d) :: r, ks, h => by
    obtain ⟨v, r', rfl, h1, h2⟩ := h
    exact RDs.cons h1 (KVs.vals h2)
theorem KTs.vals : ∀ {kvs : List (List (List Nat) × D)} {ks : List (List Key × V)}, KTs K w kvs ks → RDs K w (Eng.vals kvs) (ks.map (·.2))
  | [], ks, h => by rw [show ks = [] from h]; exact RDs.nil
  | (s, d) :: r, ks, h => by
    obtain ⟨v, r', rfl, h1, h2⟩ := h
    exact RDs.cons h1 (KTs.vals h2)
theorem KVs.cutW {n : Nat} (x : Cut n w w') : ∀ {kvs : List (List Nat × D)} {ks : List (Key × V)}, D.lows n (Eng.vals kvs) = true → KVs K w kvs ks → KVs K w' kvs ks
  | [], ks, _, h => h
  | (s, d) :: r, ks, hb, h => by
    obtain ⟨v, r', e, h1, h2⟩ := h
    simp only [Eng.vals, List.map_cons, D.lows, Bool.and_eq_true] at hb
    exact ⟨v, r', e, RD.cutW x d v hb.1 h1, KVs.cutW x hb.2 h2⟩
theorem KTs.cutW {n : Nat} (x : Cut n w w') : ∀ {kvs : List (List (List Nat) × D)} {ks : List (List Key × V)}, D.lows n (Eng.vals kvs) = true → KTs K w kvs ks → KTs K w' kvs ks
  | [], ks, _, h => h
  | (s, d) :: r, ks, hb, h => by
    obtain ⟨v, r', e, h1, h2⟩ := h
    simp only [Eng.vals, List.map_cons, D.lows, Bool.and_eq_true] at hb
    exact ⟨v, r', e, RD.cutW x d v hb.1 h1, KTs.cutW x hb.2 h2⟩
theorem MOk.low {a : Addr} {m : MO} (h : MOk K w a m) : m.low w.r.length = true := by
  cases m with
  | lst xs => obtain ⟨vs, h1, h2, h3⟩ := h; exact RDs.low _ _ h3
  | dct xs => obtain ⟨vs, h1, h2, h3⟩ := h; exact RDs.low _ _ h3.vals
  | dtt xs => obtain ⟨vs, h1, h2, h3⟩ := h; exact RDs.low _ _ h3.vals
theorem MOk.cutW {n : Nat} (x : Cut n w w') {a : Addr} {m : MO} (hb : m.low n = true) (h : MOk K w a m) : MOk K w' a m := by
  cases m with
  | lst xs => obtain ⟨vs, h1, h2, h3⟩ := h; exact ⟨vs, by rw [x.H]; exact h1, h2, RDs.cutW x _ _ hb h3⟩
  | dct xs => obtain ⟨vs, h1, h2, h3⟩ := h; exact ⟨vs, by rw [x.H]; exact h1, h2, KVs.cutW x hb h3⟩
  | dtt xs => obtain ⟨vs, h1, h2, h3⟩ := h; exact ⟨vs, by rw [x.H]; exact h1, h2, KTs.cutW x hb h3⟩
theorem mo_pure {m : MO} (n : Nat) (h : m.pure = true) : m.low n = true := by
  cases m <;> (simp only [MO.pure] at h; simp only [MO.low]; exact pures_below n _ h)
/-- what stays of the store -/
theorem keep_below {S S' : Sto} (rs : RS K w S) (h : keepS S S' = true) : ∀ (l : Nat) (m : MO), (S'.take S.length)[l]? = some m → m.low S.length = true := by
  intro l m e
  unfold keepS at h
  simp only [Bool.or_eq_true, decide_eq_true_eq] at h
  rcases h with h | h
  · rw [h] at e
    have hl := (List.getElem?_eq_some_iff.mp e).1
    have hl' : l < w.r.length := by rw [rs.len]; exact hl
    have q := rs.obj l w.r[l] m (List.getElem?_eq_getElem hl') e
    have := q.low
    rw [rs.len] at this
    exact this
  · rw [List.all_eq_true] at h
    exact mo_pure _ (h m (List.mem_of_getElem? e))
/-- the def's own objects are left behind -/
theorem cut_ok {S S' : Sto} {F' : Addr → Prop} (rs : RS K w S) (x : Ext w w') (rs' : RS K w' S') (hk : keepS S S' = true) (hF : ∀ b, w'.F b → F' b) (hF2 : ∀ b, F' b → w'.F b ∨ (∃ l, S.length ≤ l ∧ w'.r[l]? = some b)) :
    Cut S.length w' ⟨w'.H, F', w'.r.take S.length⟩ ∧ Ext w ⟨w'.H, F', w'.r.take S.length⟩ ∧ RS K ⟨w'.H, F', w'.r.take S.length⟩ (S'.take S.length) := by
  have c : Cut S.length w' ⟨w'.H, F', w'.r.take S.length⟩ := ⟨rfl, hF, fun l a hl e => by
    show (w'.r.take S.length)[l]? = some a
    rw [List.getElem?_take, if_pos hl]; exact e⟩
  have hpre : w'.r.take S.length = w.r := by
    obtain ⟨m, e⟩ := x.rho
    rw [e, ← rs.len, List.take_left' rfl]
  have hle : S.length ≤ S'.length := by
    have h1 := rs'.len
    obtain ⟨m, e⟩ := x.rho
    rw [e, List.length_append, rs.len] at h1
    omega
  have out : ∀ b l, S.length ≤ l → w'.r[l]? = some b → b ∉ w.r := fun b l hl e hm => by
    obtain ⟨j, hj, ej⟩ := List.mem_iff_getElem.mp hm
    have e2 : w'.r[j]? = some b := rho_get x (by rw [List.getElem?_eq_getElem hj, ej])
    obtain ⟨h1, q1⟩ := List.getElem?_eq_some_iff.mp e
    obtain ⟨h2, q2⟩ := List.getElem?_eq_some_iff.mp e2
    have := (List.getElem_inj rs'.nd).mp (q1.trans q2.symm)
    have hj' : j < S.length := by rw [← rs.len]; exact hj
    omega
  refine ⟨c, ⟨⟨fun b xs h => x.tup _ _ h, fun b o u h => x.frz _ _ _ h, fun b xs f h => x.lst _ _ f h, fun b f => hF _ (x.phi _ f), ⟨[], by show w'.r.take S.length = _; rw [hpre]; simp⟩⟩, fun b h1 h2 h3 => ?_⟩, ⟨?_, ?_, fun a ha f => ?_, fun a f => ?_, fun l a m e1 e2 => ?_⟩⟩
  · obtain ⟨e1, e2, e3⟩ := x.frm b h1 h2 h3
    refine ⟨e1, fun f => ?_, by show b ∉ w'.r.take S.length; rw [hpre]; exact h2⟩
    rcases hF2 b f with q | ⟨l, _, q⟩
    · exact e2 q
    · exact e3 (List.mem_of_getElem? q)
  · show (w'.r.take S.length).length = _
    rw [List.length_take, List.length_take, rs'.len]
  · show (w'.r.take S.length).Nodup
    rw [hpre]; exact rs.nd
  · have ha : a ∈ w'.r.take S.length := ha
    rcases hF2 a f with q | ⟨l, hl, q⟩
    · exact rs'.apart a (List.mem_of_mem_take ha) q
    · rw [hpre] at ha
      exact out a l hl q ha
  · rcases hF2 a f with q | ⟨l, hl, q⟩
    · exact rs'.live a q
    · exact rs'.mem (List.mem_of_getElem? q)
  · have e1 : (w'.r.take S.length)[l]? = some a := e1
    have hl : l < S.length := by
      have := (List.getElem?_eq_some_iff.mp e1).1
      rw [List.length_take] at this
      omega
    have hb := keep_below rs hk l m e2
    rw [List.getElem?_take, if_pos hl] at e1
    rw [List.getElem?_take, if_pos hl] at e2
    exact (rs'.obj l a m e1 e2).cutW c hb
/-- the store's object goes over to the caller -/
theorem adopt_ok {S S' : Sto} {l : Nat} {m : MO} (rs : RS K w S) (x : Ext w w') (rs' : RS K w' S') (hk : keepS S S' = true) (hl : ¬ l < S.length) {a : Addr} (ha : w'.r[l]? = some a) (hm : S'[l]? = some m) (hp : m.pure = true) :
    ∃ w2, w2.H = w'.H ∧ Ext w w2 ∧ RS K w2 (S'.take S.length ++ [m]) ∧ RD K w2 (.loc S.length) (.ref a) := by
  obtain ⟨c, x2, rs2⟩ := cut_ok (F' := w'.F) rs x rs' hk (fun _ h => h) (fun _ h => .inl h)
  have hpre : w'.r.take S.length = w.r := by
    obtain ⟨q, e⟩ := x.rho
    rw [e, ← rs.len, List.take_left' rfl]
  have nin : a ∉ w.r := fun hm => by
    obtain ⟨j, hj, ej⟩ := List.mem_iff_getElem.mp hm
    have e2 : w'.r[j]? = some a := rho_get x (by rw [List.getElem?_eq_getElem hj, ej])
    obtain ⟨h1, q1⟩ := List.getElem?_eq_some_iff.mp ha
    obtain ⟨h2, q2⟩ := List.getElem?_eq_some_iff.mp e2
    have := (List.getElem_inj rs'.nd).mp (q1.trans q2.symm)
    have hj' : j < S.length := by rw [← rs.len]; exact hj
    omega
  have len1 : (w'.r.take S.length).length = S.length := by rw [hpre, rs.len]
  have len2 : (S'.take S.length).length = S.length := by
    have := rs2.len
    rw [← this]; exact len1
  have k : Wk ⟨w'.H, w'.F, w'.r.take S.length⟩ ⟨w'.H, w'.F, w'.r.take S.length ++ [a]⟩ := ⟨fun _ _ h => h, fun _ _ _ h => h, fun _ _ _ h => h, fun b f => f, ⟨[a], rfl⟩⟩
  have c2 : Cut S.length w' ⟨w'.H, w'.F, w'.r.take S.length ++ [a]⟩ := ⟨rfl, fun _ h => h, fun j b hj e => by
    show (w'.r.take S.length ++ [a])[j]? = some b
    rw [List.getElem?_append_left (by rw [len1]; exact hj), List.getElem?_take, if_pos hj]; exact e⟩
  refine ⟨⟨w'.H, w'.F, w'.r.take S.length ++ [a]⟩, rfl, ⟨⟨fun b xs h => x.tup _ _ h, fun b o u h => x.frz _ _ _ h, fun b xs f h => x.lst _ _ f h, fun b f => x.phi _ f, ⟨[a], by show w'.r.take S.length ++ [a] = _; rw [hpre]⟩⟩, fun b h1 h2 h3 => ?_⟩, ⟨?_, ?_, fun b hb f => ?_, fun b f => rs'.live b f, fun j b m' e1 e2 => ?_⟩, ?_⟩
  · obtain ⟨e1, e2, e3⟩ := x.frm b h1 h2 h3
    refine ⟨e1, e2, fun hb => ?_⟩
    have hb : b ∈ w'.r.take S.length ++ [a] := hb
    rw [hpre] at hb
    rcases List.mem_append.mp hb with hb | hb
    · exact h2 hb
    · simp at hb; subst hb; exact e3 (List.mem_of_getElem? ha)
  · show (w'.r.take S.length ++ [a]).length = _
    rw [List.length_append, List.length_append, len1, len2]; rfl
  · show (w'.r.take S.length ++ [a]).Nodup
    rw [hpre, List.nodup_append]
    exact ⟨rs.nd, by simp, fun y hy b hb e => by simp at hb; subst hb; subst e; exact nin hy⟩
  · have hb : b ∈ w'.r.take S.length ++ [a] := hb
    rcases List.mem_append.mp hb with hb | hb
    · exact rs'.apart b (List.mem_of_mem_take hb) f
    · simp at hb; subst hb; exact rs'.apart b (List.mem_of_getElem? ha) f
  · have e1 : (w'.r.take S.length ++ [a])[j]? = some b := e1
    by_cases hj : j < S.length
    · rw [List.getElem?_append_left (by rw [len1]; exact hj)] at e1
      rw [List.getElem?_append_left (by rw [len2]; exact hj)] at e2
      exact (rs2.obj j b m' e1 e2).wk k rfl
    · rw [List.getElem?_append_right (by rw [len1]; omega), len1] at e1
      rw [List.getElem?_append_right (by rw [len2]; omega), len2] at e2
      cases q : j - S.length with
      | zero =>
        rw [q] at e1 e2; simp at e1 e2; subst e1; subst e2
        exact (rs'.obj l a m ha hm).cutW c2 (mo_pure _ hp)
      | succ i => rw [q] at e1; simp at e1
  · simp only [RD]
    exact ⟨a, rfl, by show (w'.r.take S.length ++ [a])[S.length]? = some a; rw [List.getElem?_append_right (by rw [len1]; omega), len1]; simp⟩
variable {kx : Nat → Value} {W : WX} {Q : VK}
theorem ret_ok {S S' : Sto} {d : D} {v : V} (rs : RS K w S) (h : Aft kx K W [] (RD K) w (retD S d S') Q) (x : Ext w w') (rs' : RS K w' S') (rd : RD K w' d v) : Q v w'.H := by
  unfold retD at h
  split at h
  · exact h v w' x rs' rd
  split at h
  · rename_i hk
    obtain ⟨c, x2, rs2⟩ := cut_ok (F' := w'.F) rs x rs' hk (fun _ h => h) (fun _ h => .inl h)
    split at h
    · rename_i l
      obtain ⟨a, rfl, ha⟩ := rd.locI
      split at h
      · rename_i hl
        exact h _ ⟨w'.H, w'.F, w'.r.take S.length⟩ x2 rs2 (RD.cutW c _ _ (by simp only [D.low]; exact decide_eq_true hl) rd)
      · rename_i hl
        split at h
        · rename_i xs hm
          split at h
          · rename_i hp
            obtain ⟨c3, x3, rs3⟩ := cut_ok (F' := fun b => w'.F b ∨ b = a) rs x rs' hk (fun _ h => .inl h) (fun b f => f.elim .inl fun z => .inr ⟨l, by omega, by rw [z]; exact ha⟩)
            obtain ⟨vs, q1, q2, q3⟩ := rs'.obj l a _ ha hm
            refine h _ ⟨w'.H, fun b => w'.F b ∨ b = a, w'.r.take S.length⟩ x3 rs3 ?_
            simp only [RD]
            exact ⟨a, vs, rfl, ⟨.inr rfl, q1⟩, q2, RDs.cutW c3 _ _ (pures_below _ _ hp) q3⟩
          · exact h.elim
        · rename_i kvs hm
          split at h
          · rename_i hp
            obtain ⟨w2, e2, y, r2, d2⟩ := adopt_ok rs x rs' hk hl ha hm hp
            rw [← e2]
            exact h _ w2 y r2 d2
          · exact h.elim
        · rename_i kvs hm
          split at h
          · rename_i hp
            obtain ⟨w2, e2, y, r2, d2⟩ := adopt_ok rs x rs' hk hl ha hm hp
            rw [← e2]
            exact h _ w2 y r2 d2
          · exact h.elim
        · exact h.elim
    · split at h
      · rename_i hp
        exact h v ⟨w'.H, w'.F, w'.r.take S.length⟩ x2 rs2 (RD.cutW c _ _ (pure_below _ _ hp) rd)
      · exact h.elim
  · exact h.elim
theorem fin_ok {S : Sto} {o : Out} {E : XK} (rs : RS K w S) (h : Aft kx K (fun cls d _ H => E cls d H) [] (RD K) w (fin S o) Q) : AftS kx K (fun cls d _ H => E cls d H) { nx := fun _ H' => Q .non H', rt := Q } w o := by
  cases o with
  | nx s S' => exact fun σ' w' x _ rs' => ret_ok rs h x rs' (by simp only [RD])
  | rt d S' => exact fun v w' x rs' rd => ret_ok rs h x rs' rd
  | exc c s S' =>
    intro σ' w' x _ rs'
    simp only [fin] at h
    split at h
    · exact h w' x rs'
    split at h
    · rename_i hk
      obtain ⟨_, x2, rs2⟩ := cut_ok (F' := w'.F) rs x rs' hk (fun _ h => h) (fun _ h => .inl h)
      exact h ⟨w'.H, w'.F, w'.r.take S.length⟩ x2 rs2
    · exact h.elim
  | no => exact h
theorem start_ok {N : List Str} {ns : Nat} {ds : List D} {vs : List V} (hn : N.length = ns) (h : RDs K w ds vs) : StR K w (L2.start N vs) (Eng.start ns ds) := by
  have hl := h.length
  refine ⟨by simp [L2.start, Eng.start, hl, hn], fun i d e => ?_⟩
  unfold Eng.start at e
  by_cases hi : i < ds.length
  · rw [List.getElem?_append_left (by simpa using hi), List.getElem?_map] at e
    obtain ⟨d', e1, e2⟩ := Option.map_eq_some_iff.mp e
    cases e2
    obtain ⟨v, f1, f2⟩ := h.get e1
    refine ⟨v, ?_, f2⟩
    unfold L2.start
    rw [List.getElem?_append_left (by simp [hl, hi]), List.getElem?_map, f1] <;> rfl
  · rw [List.getElem?_append_right (by simpa using hi)] at e
    have := List.mem_of_getElem? e
    simp at this
end

/-! ### the table -/
structure Df where
  x : Str
  id : Nat
  st : Stmt
  ps : List Str
  N : List Str
  mv : List Str
  fn : Fn
def fuE : Nat := 40
structure DfOk (ge : GE) (d : Df) : Prop where
  sc : C8.scC d.N d.ps (defScope d.st) = true
  np : d.ps.length = d.fn.np
  ns : d.N.length = d.fn.ns
  tr : mapO (trS (trE fuE) d.mv ⟨ge, d.N, defScope d.st⟩ fuE) (defBody d.st) = some d.fn.body
  bnd : ∀ (kV doc pm : Value) (an : Option Addr) (cdv ct : Value) (us : List Value), us.length = d.ps.length → bindArgs (PySem.W.fnOf d.x d.x (defArgs d.st) (defBody d.st) (defScope d.st) .none kV doc pm an cdv ct) ⟨us, []⟩ = pure (d.ps.zip us)
abbrev FnP (K : PySem.W.Frag) (d : Df) (f : Addr) (fd : FuncData) : Prop := FunD K d.x d.x (defArgs d.st) (defBody d.st) (defScope d.st) [] [] f fd
/-- the module as the evaluator has it -/
structure Has (ge : GE) (P : Nat → Option Fn) (K : PySem.W.Frag) (mg : Str → Option Value) : Prop where
  con : ∀ x d, ge.consts.lookup x = some d → ∃ v u, mg x = some u ∧ RelV v u ∧ ∀ w, RD K w d v
  bui : ∀ x ∈ BN, mg x = none
  fns : ∀ x i ar, ge.funs.lookup x = some (i, ar) → ∃ d f fd, DfOk ge d ∧ d.id = i ∧ d.ps.length = ar ∧ P i = some d.fn ∧ mg x = some (.ref f) ∧ FnP K d f fd
theorem def_ok {ge : GE} {Pt : Nat → Option Fn} {K : PySem.W.Frag} {mg : Str → Option Value} {P : Program} {w : World} {base : Heap} {kx : Nat → Value} (h : Has ge Pt K mg) : ∀ (n : Nat) (d : Df) (f : Addr) (fd : FuncData), DfOk ge d → Pt d.id = some d.fn → FnP K d f fd →
    FnOk P w K mg base (L2.CX P w) n f fd d.ps (spF kx K d.ps.length (run Pt n d.id)) := by
  intro n
  induction n with
  | zero =>
    intro d f fd ok hp F
    refine ⟨fun vs H Q E q => ?_, fun A outer s H args us vs Q E hr e0 hb hv q => ?_⟩
    · obtain ⟨w, ds, S, _, _, rd, hl, _⟩ := q
      rw [rd.length, hl]
    · obtain ⟨w, ds, S, _, _, rd, hl, q⟩ := q
      exact q.elim
  | succ n ih =>
    intro d f fd ok hp F
    have S := C8.fnScope_by ok.sc
    have ih' : ∀ (x : Str) (i ar : Nat), ge.funs.lookup x = some (i, ar) → ∃ f fd ps, mg x = some (.ref f) ∧ PySem.W.keepIn K (.ref f) = true ∧ Binds K fd ps [] ∧ ps.length = ar ∧ FnOk P w K mg base (L2.CX P w) n f fd ps (spF kx K ar (run Pt n i)) := by
      intro x i ar hx
      obtain ⟨d, f, fd, ok, rfl, rfl, hp, hm, F⟩ := h.fns x i ar hx
      exact ⟨f, fd, d.ps, hm, F.kp, F.bindsN ok.bnd, rfl, ih d f fd ok hp F⟩
    refine F.ok (N := d.N) S (fun vs H Q E q => ?_) (fun cdv A outer s H vs Q E hr q => ?_)
    · obtain ⟨w, ds, S, _, _, rd, hl, _⟩ := q
      rw [rd.length, hl]
    · obtain ⟨w0, ds, S0, rfl, rs, rd, hl, q⟩ := q
      have B := sndB_of (s_all (snd_E fuE) (snd_F (snd_E fuE)) (mv := d.mv) fuE) ok.tr
      refine ⟨_, B (run Pt n) n kx _ (fun cls d _ H => E cls d H) ⟨⟨rfl, S.nd, rfl, rfl, hr, h.con, h.bui, ih'⟩, takes_of (E := E) rfl rfl rfl rfl, passes_of rfl, fun _ => rfl, S.kind⟩, w0, Eng.start d.fn.ns ds, S0, rfl, start_ok ok.ns rd, rs, ?_⟩
      have e : run Pt (n + 1) d.id ds S0 = fin S0 (exs (run Pt n) d.fn.body (Eng.start d.fn.ns ds) S0) := by
        show (match Pt d.id with
          | none => Res.no
          | some F => if ds.length = F.np then fin S0 (exs (run Pt n) F.body (Eng.start F.ns ds) S0) else .no) = _
        rw [hp]
        show (if ds.length = d.fn.np then _ else _) = _
        rw [if_pos (by rw [hl]; exact ok.np)]
      rw [e] at q
      exact fin_ok rs q
/-- the law's promise, at its script -/
theorem law_sp {Pt : Nat → Option Fn} {K : PySem.W.Frag} {kx : Nat → Value} {n i : Nat} {ns : List Int} {H : Hp} {a : Addr} (hO : Only H) (hS : SqL K H a (ns.map V.int)) (h : run Pt n i [.scr ns] [] = .ok (.bl true) []) : spF kx K 1 (run Pt n i) [.ref a] H (fun v _ => v = .bl true) fun _ _ _ => False := by
  refine ⟨⟨H, fun _ => False, []⟩, [.scr ns], [], rfl, ⟨rfl, List.nodup_nil, fun a ha => by simp at ha, fun a f => f.elim, fun n a o e => by simp at e⟩, RDs.cons ?_ RDs.nil, rfl, ?_⟩
  · simp only [RD]
    refine ⟨a, rfl, ?_⟩
    rcases hS with (h1 | ⟨o, h1⟩) | h2
    · rcases hO a with z | ⟨o, xs, z⟩
      · rw [h1] at z; cases z
      · rw [h1] at z; cases z
    · exact .inl ⟨o, h1⟩
    · exact .inr h2
  · rw [h]
    exact fun v w' _ _ rd => rd.blI
/-- nothing is let out -/
theorem fn_quiet {P : Program} {w : World} {K : PySem.W.Frag} {mg : Str → Option Value} {base : Heap} {k : Nat} {f : Addr} {fd : FuncData} {ps : List Str} {sp : Sp} (F : FnOk P w K mg base (L2.CX P w) k f fd ps sp) : FnOk P w K mg base L2.CX0 k f fd ps (fun vs H Q _ => sp vs H Q fun _ _ _ => False) :=
  ⟨fun vs H Q E q => F.len vs H Q _ q, fun A outer s H args us vs Q E hr he hb hv hs => codeAny_mono (F.run A outer s H args us vs Q _ hr he hb hv hs) fun r s' z => by
    cases r with
    | ok fl => cases fl <;> exact z
    | error e =>
      obtain ⟨_, _, _, _, _, _, _, _, _, _, _, _, z⟩ := z
      exact z.elim⟩
end Eng

/-! F01 -/
set_option linter.all false
set_option maxRecDepth 100000
namespace Eng
/-- is_name -/
def F_is_name : Fn := ⟨2, 3, [.ret (.and (.pr (.isi [.str]) [.var 0]) (.and (.chn .le .le (.con (.int 1)) (.pr .len [.var 0]) (.var 1)) (.pr .all [.comp [2] [2] false .seq [.var 0] [] (.pr .isin [.var 2, .con (.str [97, 98, 99, 100, 101, 102, 103, 104, 105, 106, 107, 108, 109, 110, 111, 112, 113, 114, 115, 116, 117, 118, 119, 120, 121, 122])])])))]⟩
/-- is_hole -/
def F_is_hole : Fn := ⟨1, 1, [.ret (.and (.pr (.isi [.str]) [.var 0]) (.and (.pr .eq [.pr (.slc false true) [.var 0, .con (.int 1)], .con (.str [63])]) (.call 1 [.pr (.slc true false) [.var 0, .con (.int 1)], .con (.int 2)])))]⟩
/-- is_pattern_at -/
def F_is_pattern_at : Fn := ⟨3, 4, [.ite (.pr .eq [.var 1, .con (.int 0)]) [.ret (.con (.bl false))] [],
    .ite (.pr (.isi [.str]) [.var 0]) [.ret (.or (.call 1 [.var 0, .con (.int 3)]) (.and (.var 2) (.call 2 [.var 0])))] [],
    .ite (.or (.pr .not [.pr (.isi [.tup]) [.var 0]]) (.or (.pr .not [.chn .le .le (.con (.int 2)) (.pr .len [.var 0]) (.con (.int 4))]) (.pr .not [.call 1 [.pr .idx [.var 0, .con (.int 0)], .con (.int 3)]]))) [.ret (.con (.bl false))] [],
    .ret (.pr .all [.comp [3] [3] false .seq [.pr (.slc true false) [.var 0, .con (.int 1)]] [] (.call 3 [.var 3, .pr .sub [.var 1, .con (.int 1)], .var 2])])]⟩
/-- is_term -/
def F_is_term : Fn := ⟨1, 1, [.ret (.call 3 [.var 0, .con (.int 5), .con (.bl false)])]⟩
/-- is_pattern -/
def F_is_pattern : Fn := ⟨1, 1, [.ret (.call 3 [.var 0, .con (.int 5), .con (.bl true)])]⟩
/-- _law_cell -/
def F_law_cell : Fn := ⟨2, 2, [.ite (.pr .lt [.var 1, .pr .len [.var 0]]) [.ret (.pr .idx [.var 0, .var 1])] [],
    .ret (.con (.int 0))]⟩
/-- _law_mix -/
def F_law_mix : Fn := ⟨3, 4, [.set 3 (.pr .mod [.pr .mul [.var 0, .con (.int 48271)], .var 1]),
    .ret (.pr .mod [.pr .mod [.pr .mul [.var 3, .pr .add [.var 3, .con (.int 7)]], .var 1], .var 2])]⟩
/-- _law_leaf -/
def F_law_leaf : Fn := ⟨2, 2, [.ite (.and (.var 1) (.pr .eq [.call 7 [.var 0, .con (.int 9973), .con (.int 2)], .con (.int 0)])) [.ret (.pr .idx [.tup [.con (.str [63, 120]), .con (.str [63, 121]), .con (.str [63, 120]), .con (.str [63, 97, 98])], .call 7 [.var 0, .con (.int 9967), .con (.int 4)]])] [],
    .ret (.pr .idx [.tup [.con (.str [97]), .con (.str [98]), .con (.str [110, 105, 108]), .con (.str [97])], .call 7 [.var 0, .con (.int 9949), .con (.int 4)]])]⟩
/-- _law_tree -/
def F_law_tree : Fn := ⟨3, 7, [.set 3 (.call 7 [.var 0, .con (.int 9941), .con (.int 6)]),
    .ite (.or (.pr .eq [.var 1, .con (.int 1)]) (.pr .lt [.var 3, .con (.int 2)])) [.ret (.call 8 [.var 0, .var 2])] [],
    .set 4 (.pr .idx [.tup [.con (.str [102]), .con (.str [103]), .con (.str [102]), .con (.str [110, 111, 116])], .call 7 [.var 0, .con (.int 9931), .con (.int 4)]]),
    .set 5 (.tup [.var 4]),
    .for [6] false .rng [.pr .idx [.tup [.con (.int 1), .con (.int 2), .con (.int 2), .con (.int 3)], .call 7 [.var 0, .con (.int 9929), .con (.int 4)]]] [.set 5 (.pr .add [.var 5, .tup [.call 9 [.pr .add [.pr .add [.pr .mul [.var 0, .con (.int 3)], .pr .mul [.con (.int 7), .var 6]], .con (.int 1)], .pr .sub [.var 1, .con (.int 1)], .var 2]]])],
    .ret (.var 5)]⟩
/-- _law_odd -/
def F_law_odd : Fn := ⟨2, 4, [.ite (.and (.pr (.isi [.tup]) [.var 0]) (.and (.pr .ne [.var 0, .tup []]) (.pr .gt [.call 7 [.var 1, .con (.int 9781), .con (.int 5)], .con (.int 0)]))) [.set 2 (.call 7 [.var 1, .con (.int 9769), .pr .len [.var 0]]),
    .ret (.pr .add [.pr .add [.pr (.slc false true) [.var 0, .var 2], .tup [.call 10 [.pr .idx [.var 0, .var 2], .pr .add [.pr .add [.var 1, .pr .mul [.con (.int 31), .var 2]], .con (.int 7)]]]], .pr (.slc true false) [.var 0, .pr .add [.var 2, .con (.int 1)]]])] [],
    .set 3 (.lst [.con (.non), .con (.bl true), .con (.bl false), .con (.int 0), .con (.int 1), .pr .neg [.con (.int 1)], .con (.int 2), .con (.int 7), .con (.int 10), .con (.int 1000), .con (.str []), .con (.str [97]), .con (.str [65]), .tup [], .tup [.con (.str [97])], .lst [.con (.int 1)]]),
    .ite (.pr (.isi [.tup]) [.var 0]) [.set 3 (.pr .add [.var 3, .pr .mul [.lst [.pr .list [.var 0], .pr .add [.var 0, .pr (.slc true false) [.var 0, .pr .neg [.con (.int 1)]]], .pr (.slc false true) [.var 0, .pr .neg [.con (.int 1)]], .pr .rev [.var 0], .pr (.slc true false) [.var 0, .con (.int 1)], .tup [.var 0]], .con (.int 2)]])] [.ite (.pr (.isi [.str]) [.var 0]) [.set 3 (.pr .add [.var 3, .pr .mul [.lst [.pr .add [.var 0, .con (.str [97])], .pr (.slc false true) [.var 0, .pr .neg [.con (.int 1)]], .mth .upper (.var 0) [], .pr .add [.var 0, .con (.str [32])], .pr .mul [.var 0, .con (.int 2)], .lst [.var 0], .pr .add [.var 0, .pr (.slc false true) [.var 0, .con (.int 1)]]], .con (.int 2)]])] [.ite (.pr (.isi [.int]) [.var 0]) [.set 3 (.pr .add [.var 3, .pr .mul [.lst [.pr .add [.var 0, .con (.int 1)], .pr .sub [.var 0, .con (.int 1)], .pr .sub [.con (.int 0), .var 0], .tup [.var 0], .pr .add [.var 0, .con (.int 2)], .pr .mul [.var 0, .con (.int 2)]], .con (.int 2)]])] []]],
    .ret (.pr .idx [.var 3, .call 7 [.var 1, .con (.int 9749), .pr .len [.var 3]]])]⟩
/-- _law_is -/
def F_law_is : Fn := ⟨3, 5, [.ite (.pr (.isi [.str]) [.var 0]) [.ite (.and (.pr .eq [.pr (.slc false true) [.var 0, .con (.int 1)], .con (.str [63])]) (.var 2)) [.ret (.and (.chn .lt .lt (.con (.int 1)) (.pr .len [.var 0]) (.con (.int 4))) (.and (.pr .gt [.var 1, .con (.int 0)]) (.pr .eq [.comp [3] [3] false .seq [.pr (.slc true false) [.var 0, .con (.int 1)]] [.pr .not [.chn .le .le (.con (.str [97])) (.var 3) (.con (.str [122]))]] (.var 3), .lst []])))] [],
    .ret (.and (.chn .lt .lt (.con (.int 0)) (.pr .len [.var 0]) (.con (.int 4))) (.and (.pr .gt [.var 1, .con (.int 0)]) (.pr .eq [.comp [3] [3] false .seq [.var 0] [.pr .not [.chn .le .le (.con (.str [97])) (.var 3) (.con (.str [122]))]] (.var 3), .lst []])))] [],
    .ite (.or (.pr .not [.pr (.isi [.tup]) [.var 0]]) (.or (.pr .not [.chn .lt .lt (.con (.int 1)) (.pr .len [.var 0]) (.con (.int 5))]) (.or (.pr .lt [.var 1, .con (.int 2)]) (.pr .not [.pr (.isi [.str]) [.pr .idx [.var 0, .con (.int 0)]]])))) [.ret (.con (.bl false))] [],
    .ite (.pr .not [.call 11 [.pr .idx [.var 0, .con (.int 0)], .con (.int 1), .con (.bl false)]]) [.ret (.con (.bl false))] [],
    .ret (.pr .eq [.comp [4] [4] false .seq [.pr (.slc true false) [.var 0, .con (.int 1)]] [.pr .not [.call 11 [.var 4, .pr .sub [.var 1, .con (.int 1)], .var 2]]] (.var 4), .lst []])]⟩
/-- law -/
def F_law : Fn := ⟨1, 10, [.for [1] false .rng [.con (.int 12)] [.set 2 (.pr .add [.call 6 [.var 0, .pr .mod [.var 1, .con (.int 9)]], .pr .mul [.con (.int 31), .var 1]]),
    .par [3, 4] [.call 9 [.var 2, .con (.int 5), .con (.bl false)], .call 9 [.pr .add [.var 2, .con (.int 1)], .con (.int 5), .con (.bl true)]],
    .setM 5 (.lst [.var 3, .var 4, .tup [.con (.str [102]), .var 3], .tup [.con (.str [103]), .tup [.con (.str [102]), .tup [.con (.str [102]), .tup [.con (.str [102]), .var 4]]]]]),
    .setM 5 (.pr .add [.var 5, .lst [.tup [.con (.str [102])], .tup [.con (.str [102]), .con (.str [97]), .con (.str [97]), .con (.str [97]), .con (.str [97])], .tup [.con (.str [102]), .con (.str [97]), .con (.str [97]), .con (.str [97])], .tup [.con (.str [63, 120]), .con (.str [97])]]]),
    .setM 5 (.pr .add [.var 5, .lst [.con (.str []), .con (.str [97, 98, 99, 100]), .con (.str [63]), .con (.str [63, 97, 98, 99]), .con (.str [63, 97, 98]), .con (.str [65]), .con (.str [97, 32, 98])]]),
    .setM 5 (.pr .add [.var 5, .lst [.tup [.con (.str [108, 111, 110, 103]), .con (.str [97])], .tup [.con (.str [102, 102, 102]), .con (.str [97])], .tup [.tup [.con (.str [102]), .con (.str [97])], .con (.str [97])]]]),
    .setM 5 (.pr .add [.var 5, .lst [.con (.non), .tup [.con (.str [102]), .con (.non)], .lst [.con (.str [102]), .con (.str [97])]]]),
    .for [6] false .rng [.con (.int 16)] [.expr (.mth .app (.var 5) [.call 10 [.var 3, .pr .add [.pr .add [.call 6 [.var 0, .con (.int 9)], .pr .mul [.con (.int 17), .var 6]], .pr .mul [.con (.int 5), .var 1]]]]),
    .expr (.mth .app (.var 5) [.call 10 [.var 4, .pr .add [.pr .add [.call 6 [.var 0, .con (.int 9)], .pr .mul [.con (.int 19), .var 6]], .pr .mul [.con (.int 5), .var 1]]]])],
    .for [7] false .seq [.var 5] [.for [8, 9] true .seq [.tup [.tup [.call 4 [.var 7], .call 11 [.var 7, .con (.int 5), .con (.bl false)]], .tup [.call 5 [.var 7], .call 11 [.var 7, .con (.int 5), .con (.bl true)]]]] [.ite (.or (.and (.pr (.isntc (.bl true)) [.var 8]) (.var 9)) (.and (.pr (.isntc (.bl false)) [.var 8]) (.pr .not [.var 9]))) [.ret (.con (.bl false))] []]]],
    .ret (.and (.pr (.isc (.bl true)) [.call 4 [.tup [.con (.str [102]), .tup [.con (.str [102]), .tup [.con (.str [102]), .tup [.con (.str [102]), .con (.str [97])]]]]]]) (.pr (.isc (.bl false)) [.call 4 [.tup [.con (.str [102]), .tup [.con (.str [102]), .tup [.con (.str [102]), .tup [.con (.str [102]), .tup [.con (.str [102]), .con (.str [97])]]]]]]]))]⟩
end Eng

/-! Sim -/
set_option linter.all false
set_option maxRecDepth 100000
set_option maxHeartbeats 1000000
/-! Running the evaluator by simp. -/
namespace Eng

theorem run_at {P : Nat → Option Fn} {f : Nat} {F : Fn} (h : P f = some F) (n : Nat) (ds : List D) (S : Sto) (hl : ds.length = F.np) : run P (n + 1) f ds S = fin S (exs (run P n) F.body (start F.ns ds) S) := by
  show (match P f with
    | none => Res.no
    | some F => if ds.length = F.np then fin S (exs (run P n) F.body (start F.ns ds) S) else .no) = _
  rw [h]
  exact if_pos hl
section
variable {a b : Type} {x : a} {S S' : Sto} {f : a → Sto → Res b} {c : Nat}
@[simp] theorem bOk : (Res.ok x S).bind f = f x S := rfl
@[simp] theorem bNo : (Res.no : Res a).bind f = .no := rfl
@[simp] theorem bEx : (Res.exc c S : Res a).bind f = .exc c S := rfl
@[simp] theorem cOk : (Res.ok x S).calm = .ok x S := rfl
@[simp] theorem oS : ofO (some x) S = .ok x S := rfl
@[simp] theorem oN : ofO (none : Option a) S = .no := rfl
end
section
variable {S S' : Sto} {s : Env} {d e : D} {i j : Int} {x y : List Nat} {xs ys : List D} {p q : Bool} {n : Nat} {k : Nat → List D → Sto → Res D}
@[simp] theorem outE_ok {f : D → Sto → Out} : outE s (.ok d S) f = f d S := rfl
@[simp] theorem outB_ok {t : Bool} {f : Bool → Sto → Out} : outB s (.ok t S) f = f t S := rfl
@[simp] theorem outL_ok {f : List D → Sto → Out} : outL s (.ok xs S) f = f xs S := rfl
@[simp] theorem retD_self : retD S d S = .ok d S := by unfold retD; rw [if_pos rfl]
@[simp] theorem fin_rt : fin S (.rt d S') = retD S d S' := rfl
@[simp] theorem fin_nx : fin S (.nx s S') = retD S .non S' := rfl
@[simp] theorem tst_ok : tst (.ok d S) = ofO (truth S d) S := rfl
@[simp] theorem tr_non : truth S .non = some false := rfl
@[simp] theorem tr_bl : truth S (.bl p) = some p := rfl
@[simp] theorem tr_int : truth S (.int i) = some (i != 0) := rfl
@[simp] theorem tr_str : truth S (.str x) = some (!x.isEmpty) := rfl
@[simp] theorem tr_tup : truth S (.tup xs) = some (!xs.isEmpty) := rfl
@[simp] theorem tr_lst : truth S (.lst xs) = some (!xs.isEmpty) := rfl
@[simp] theorem rs_non : rs S .non = .non := rfl
@[simp] theorem rs_bl : rs S (.bl p) = .bl p := rfl
@[simp] theorem rs_int : rs S (.int i) = .int i := rfl
@[simp] theorem rs_str : rs S (.str x) = .str x := rfl
@[simp] theorem rs_tup : rs S (.tup xs) = .tup xs := rfl
@[simp] theorem rs_lst : rs S (.lst xs) = .lst xs := rfl
@[simp] theorem rs_scr {ns : List Int} : rs S (.scr ns) = .scr ns := rfl
theorem rs_loc (h : S[n]? = some (.lst xs)) : rs S (.loc n) = .lst xs := by simp [rs, h]
theorem gd_y {a : Type} {c : Prop} [Decidable c] {x : a} (h : c) : gd c x S = .ok x S := if_pos h
@[simp] theorem gd_true {a : Type} {x : a} [Decidable True] : gd True x S = .ok x S := if_pos trivial
@[simp] theorem g_addS : pr .add [.str x, .str y] S = gd (x.length + y.length ≤ szL) (.str (x ++ y)) S := rfl
@[simp] theorem g_addT : pr .add [.tup xs, .tup ys] S = gd (xs.length + ys.length ≤ szL) (.tup (xs ++ ys)) S := rfl
@[simp] theorem g_addL : pr .add [.lst xs, .lst ys] S = gd (xs.length + ys.length ≤ szL) (.lst (xs ++ ys)) S := rfl
@[simp] theorem g_mulI : pr .mul [.int i, .int j] S = gd ((-(2 ^ 64) < i ∧ i < 2 ^ 64) ∨ (-(2 ^ 64) < j ∧ j < 2 ^ 64)) (.int (i * j)) S := rfl
@[simp] theorem g_mulS : pr .mul [.str x, .int j] S = gd (2 ≤ j ∧ j ≤ 1000 ∧ x.length ≤ 1000) (.str (List.replicate j.toNat x).flatten) S := rfl
@[simp] theorem g_mulL : pr .mul [.lst xs, .int j] S = gd (0 ≤ j ∧ j ≤ 1000 ∧ xs.length ≤ 1000) (.lst (List.replicate j.toNat xs).flatten) S := rfl
@[simp] theorem g_mod : pr .mod [.int i, .int j] S = gd (0 < j) (.int (i % j)) S := rfl
@[simp] theorem g_fdiv : pr .fdiv [.int i, .int j] S = gd (0 < j ∧ j < 1073741824) (.int (i / j)) S := rfl
/-! arithmetic -/
@[simp] theorem p_addI : pr .add [.int i, .int j] S = .ok (.int (i + j)) S := rfl
theorem p_addS (h : x.length + y.length ≤ szL) : pr .add [.str x, .str y] S = .ok (.str (x ++ y)) S := gd_y h
theorem p_addT (h : xs.length + ys.length ≤ szL) : pr .add [.tup xs, .tup ys] S = .ok (.tup (xs ++ ys)) S := gd_y h
theorem p_addL {a b : D} (ha : rs S a = .lst xs) (hb : rs S b = .lst ys) (h : xs.length + ys.length ≤ szL) : pr .add [a, b] S = .ok (.lst (xs ++ ys)) S := by
  simp only [pr, ha, hb]; exact gd_y h
@[simp] theorem p_sub : pr .sub [.int i, .int j] S = .ok (.int (i - j)) S := rfl
theorem p_mulI (h : (-(2 ^ 64) < i ∧ i < 2 ^ 64) ∨ (-(2 ^ 64) < j ∧ j < 2 ^ 64)) : pr .mul [.int i, .int j] S = .ok (.int (i * j)) S := gd_y h
theorem p_mod (h : 0 < j) : pr .mod [.int i, .int j] S = .ok (.int (i % j)) S := gd_y h
theorem p_fdiv (h : 0 < j ∧ j < 1073741824) : pr .fdiv [.int i, .int j] S = .ok (.int (i / j)) S := gd_y h
@[simp] theorem p_neg : pr .neg [.int i] S = .ok (.int (-i)) S := rfl
/-! comparisons -/
theorem p_eq (h : (rs S d).dp ≤ dpL) (h' : (rs S e).dp ≤ dpL) : pr .eq [d, e] S = .ok (.bl ((rs S d).eqv (rs S e))) S := gd_y ⟨h, h'⟩
theorem p_ne (h : (rs S d).dp ≤ dpL) (h' : (rs S e).dp ≤ dpL) : pr .ne [d, e] S = .ok (.bl (!(rs S d).eqv (rs S e))) S := gd_y ⟨h, h'⟩
@[simp] theorem p_eqI : pr .eq [.int i, .int j] S = .ok (.bl (i == j)) S := by simp [pr, gd, D.dp, dpL, D.eqv]
@[simp] theorem p_neI : pr .ne [.int i, .int j] S = .ok (.bl (!(i == j))) S := by simp [pr, gd, D.dp, dpL, D.eqv]
@[simp] theorem p_eqS : pr .eq [.str x, .str y] S = .ok (.bl (x == y)) S := by simp [pr, gd, D.dp, dpL, D.eqv]
@[simp] theorem p_neS : pr .ne [.str x, .str y] S = .ok (.bl (!(x == y))) S := by simp [pr, gd, D.dp, dpL, D.eqv]
@[simp] theorem p_lt : pr .lt [.int i, .int j] S = .ok (.bl (decide (i < j))) S := rfl
@[simp] theorem p_le : pr .le [.int i, .int j] S = .ok (.bl (decide (i ≤ j))) S := rfl
@[simp] theorem p_gt : pr .gt [.int i, .int j] S = .ok (.bl (decide (j < i))) S := rfl
@[simp] theorem p_ge : pr .ge [.int i, .int j] S = .ok (.bl (decide (j ≤ i))) S := rfl
@[simp] theorem p_ltS : pr .lt [.str x, .str y] S = .ok (.bl (strLt x y)) S := rfl
@[simp] theorem p_leS : pr .le [.str x, .str y] S = .ok (.bl (!strLt y x)) S := rfl
@[simp] theorem p_in1 {c : Nat} : pr .isin [.str [c], .str x] S = .ok (.bl (decide (c ∈ x))) S := rfl
@[simp] theorem p_notin1 {c : Nat} : pr .notin [.str [c], .str x] S = .ok (.bl (!decide (c ∈ x))) S := rfl
@[simp] theorem p_iscN : pr (.isc .non) [d] S = .ok (.bl (decide (d = .non))) S := rfl
@[simp] theorem p_isntN : pr (.isntc .non) [d] S = .ok (.bl (!decide (d = .non))) S := rfl
@[simp] theorem p_iscB : pr (.isc (.bl q)) [.bl p] S = .ok (.bl (decide (p = q))) S := rfl
@[simp] theorem p_isntB : pr (.isntc (.bl q)) [.bl p] S = .ok (.bl (!decide (p = q))) S := rfl
theorem p_not {t : Bool} (h : truth S d = some t) : pr .not [d] S = .ok (.bl (!t)) S := by simp [pr, h, ofO]
@[simp] theorem p_notB : pr .not [.bl p] S = .ok (.bl (!p)) S := rfl
/-! sequences -/
@[simp] theorem p_idxT : pr .idx [.tup xs, .int i] S = ofO (atI xs i) S := rfl
@[simp] theorem p_idxL : pr .idx [.lst xs, .int i] S = ofO (atI xs i) S := rfl
@[simp] theorem p_idxS : pr .idx [.str x, .int i] S = ofO ((atI x i).map fun c => .str [c]) S := rfl
@[simp] theorem p_idxC {ns : List Int} : pr .idx [.scr ns, .int i] S = ofO ((atI ns i).map fun n => .int n) S := rfl
@[simp] theorem p_slT0 : pr (.slc true false) [.tup xs, .int i] S = .ok (.tup (cut xs (some i) none)) S := rfl
@[simp] theorem p_slT1 : pr (.slc false true) [.tup xs, .int i] S = .ok (.tup (cut xs none (some i))) S := rfl
@[simp] theorem p_slT2 : pr (.slc true true) [.tup xs, .int i, .int j] S = .ok (.tup (cut xs (some i) (some j))) S := rfl
@[simp] theorem p_slT3 : pr (.slc false false) [.tup xs] S = .ok (.tup (cut xs none none)) S := rfl
@[simp] theorem p_slS0 : pr (.slc true false) [.str x, .int i] S = .ok (.str (cut x (some i) none)) S := rfl
@[simp] theorem p_slS1 : pr (.slc false true) [.str x, .int i] S = .ok (.str (cut x none (some i))) S := rfl
@[simp] theorem p_slS2 : pr (.slc true true) [.str x, .int i, .int j] S = .ok (.str (cut x (some i) (some j))) S := rfl
@[simp] theorem p_slL0 : pr (.slc true false) [.lst xs, .int i] S = .ok (.lst (cut xs (some i) none)) S := rfl
@[simp] theorem p_slL1 : pr (.slc false true) [.lst xs, .int i] S = .ok (.lst (cut xs none (some i))) S := rfl
@[simp] theorem p_slL2 : pr (.slc true true) [.lst xs, .int i, .int j] S = .ok (.lst (cut xs (some i) (some j))) S := rfl
@[simp] theorem p_asint : pr .asint [.int i] S = .ok (.int i) S := rfl
@[simp] theorem p_revT : pr .rev [.tup xs] S = .ok (.tup xs.reverse) S := rfl
@[simp] theorem p_revL : pr .rev [.lst xs] S = .ok (.lst xs.reverse) S := rfl
@[simp] theorem p_lenT : pr .len [.tup xs] S = .ok (.int xs.length) S := rfl
@[simp] theorem p_lenL : pr .len [.lst xs] S = .ok (.int xs.length) S := rfl
@[simp] theorem p_lenS : pr .len [.str x] S = .ok (.int x.length) S := rfl
@[simp] theorem p_lenC {ns : List Int} : pr .len [.scr ns] S = .ok (.int ns.length) S := rfl
@[simp] theorem p_tupL : pr .tuple [.lst xs] S = .ok (.tup xs) S := rfl
@[simp] theorem p_tupT : pr .tuple [.tup xs] S = .ok (.tup xs) S := rfl
@[simp] theorem p_listT : pr .list [.tup xs] S = .ok (.lst xs) S := rfl
@[simp] theorem p_listL : pr .list [.lst xs] S = .ok (.lst xs) S := rfl
theorem p_all {bs : List Bool} (h : boolsD xs = some bs) : pr .all [.lst xs] S = .ok (.bl (bs.all id)) S := by simp [pr, h, ofO]
theorem p_any {bs : List Bool} (h : boolsD xs = some bs) : pr .any [.lst xs] S = .ok (.bl (bs.any id)) S := by simp [pr, h, ofO]
theorem p_isi {ts : List Ty} {t : Bool} (h : isTs (rs S d) ts = some t) : pr (.isi ts) [d] S = .ok (.bl t) S := by simp [pr, h, ofO]
theorem p_app {x : D} (h : S[n]? = some (.lst xs)) (hl : xs.length < szL) : pr .app [.loc n, x] S = .ok .non (S.set n (.lst (xs ++ [x]))) := by
  simp only [pr, h]; exact gd_y hl
@[simp] theorem at0 {a : Type} {x : a} {r : List a} : atI (x :: r) 0 = some x := by simp [atI, ixN]
@[simp] theorem at1 {a : Type} {x y : a} {r : List a} : atI (x :: y :: r) 1 = some y := by unfold atI ixN; rw [if_pos (by decide), if_pos (by simp only [List.length_cons]; omega)]; rfl
@[simp] theorem at2 {a : Type} {x y z : a} {r : List a} : atI (x :: y :: z :: r) 2 = some z := by unfold atI ixN; rw [if_pos (by decide), if_pos (by simp only [List.length_cons]; omega)]; rfl
@[simp] theorem at3 {a : Type} {x y z u : a} {r : List a} : atI (x :: y :: z :: u :: r) 3 = some u := by unfold atI ixN; rw [if_pos (by decide), if_pos (by simp only [List.length_cons]; omega)]; rfl
@[simp] theorem it_lst : items .seq [.lst xs] S = some (xs, none) := rfl
@[simp] theorem it_tup : items .seq [.tup xs] S = some (xs, none) := rfl
@[simp] theorem it_str : items .seq [.str x] S = some (x.map fun c => .str [c], none) := rfl
@[simp] theorem it_rng : items .rng [.int j] S = if -(2 ^ 62) ≤ j ∧ j < 2 ^ 62 then some ((List.range j.toNat).map fun (i : Nat) => .int i, none) else none := rfl
theorem it_loc (h : S[n]? = some (.lst xs)) : items .seq [.loc n] S = some (xs, some n) := by simp [items, h]
@[simp] theorem chk_none : chk xs none S = true := rfl
theorem boolsD_map {a : Type} (f : a → Bool) : ∀ l : List a, boolsD (l.map fun x => .bl (f x)) = some (l.map f)
  | [] => rfl
  | x :: l => by simp [boolsD, boolsD_map f l]
end
@[simp] theorem iTNon_str  : isT .non .str = some false := rfl
@[simp] theorem iTNon_tup  : isT .non .tup = some false := rfl
@[simp] theorem iTNon_int  : isT .non .int = some false := rfl
@[simp] theorem iTNon_bool  : isT .non .bool = some false := rfl
@[simp] theorem iTNon_list  : isT .non .list = some false := rfl
@[simp] theorem iTBl_str {p : Bool} : isT (.bl p) .str = some false := rfl
@[simp] theorem iTBl_tup {p : Bool} : isT (.bl p) .tup = some false := rfl
@[simp] theorem iTBl_int {p : Bool} : isT (.bl p) .int = some true := rfl
@[simp] theorem iTBl_bool {p : Bool} : isT (.bl p) .bool = some true := rfl
@[simp] theorem iTBl_list {p : Bool} : isT (.bl p) .list = some false := rfl
@[simp] theorem iTInt_str {i : Int} : isT (.int i) .str = some false := rfl
@[simp] theorem iTInt_tup {i : Int} : isT (.int i) .tup = some false := rfl
@[simp] theorem iTInt_int {i : Int} : isT (.int i) .int = some true := rfl
@[simp] theorem iTInt_bool {i : Int} : isT (.int i) .bool = some false := rfl
@[simp] theorem iTInt_list {i : Int} : isT (.int i) .list = some false := rfl
@[simp] theorem iTStr_str {x : List Nat} : isT (.str x) .str = some true := rfl
@[simp] theorem iTStr_tup {x : List Nat} : isT (.str x) .tup = some false := rfl
@[simp] theorem iTStr_int {x : List Nat} : isT (.str x) .int = some false := rfl
@[simp] theorem iTStr_bool {x : List Nat} : isT (.str x) .bool = some false := rfl
@[simp] theorem iTStr_list {x : List Nat} : isT (.str x) .list = some false := rfl
@[simp] theorem iTTup_str {xs : List D} : isT (.tup xs) .str = some false := rfl
@[simp] theorem iTTup_tup {xs : List D} : isT (.tup xs) .tup = some true := rfl
@[simp] theorem iTTup_int {xs : List D} : isT (.tup xs) .int = some false := rfl
@[simp] theorem iTTup_bool {xs : List D} : isT (.tup xs) .bool = some false := rfl
@[simp] theorem iTTup_list {xs : List D} : isT (.tup xs) .list = some false := rfl
@[simp] theorem iTLst_str {xs : List D} : isT (.lst xs) .str = some false := rfl
@[simp] theorem iTLst_tup {xs : List D} : isT (.lst xs) .tup = some false := rfl
@[simp] theorem iTLst_int {xs : List D} : isT (.lst xs) .int = some false := rfl
@[simp] theorem iTLst_bool {xs : List D} : isT (.lst xs) .bool = some false := rfl
@[simp] theorem iTLst_list {xs : List D} : isT (.lst xs) .list = some true := rfl
@[simp] theorem iTs_nil {d : D} : isTs d [] = some false := rfl
@[simp] theorem iTs_cons {d : D} {t : Ty} {ts : List Ty} : isTs d (t :: ts) = match isT d t with
    | some true => some true
    | some false => isTs d ts
    | none => none := rfl
@[simp] theorem g_isi {ts : List Ty} {d : D} {S : Sto} : pr (.isi ts) [d] S = ofO ((isTs (rs S d) ts).map D.bl) S := rfl
section
variable {G : Nat → List D → Sto → Res D} {s : Env} {S : Sto}
@[simp] theorem ev_var {i : Nat} : ev G (.var i) s S = getV s i S := by simp only [ev]
@[simp] theorem ev_con {d : D} : ev G (.con d) s S = .ok d S := by simp only [ev]
@[simp] theorem ev_tup {es : List E} : ev G (.tup es) s S = (evs G es s S).bind fun ds S => .ok (.tup ds) S := by simp only [ev]
@[simp] theorem ev_lst {es : List E} : ev G (.lst es) s S = (evs G es s S).bind fun ds S => .ok (.lst ds) S := by simp only [ev]
@[simp] theorem ev_pr {p : Pr} {es : List E} : ev G (.pr p es) s S = (evs G es s S).bind fun ds S => pr p ds S := by simp only [ev]
@[simp] theorem ev_and {a b : E} : ev G (.and a b) s S = (ev G a s S).bind fun d S1 => match truth S1 d with
    | some true => ev G b s S1
    | some false => .ok d S1
    | none => .no := by simp only [ev] <;> rfl
@[simp] theorem ev_or {a b : E} : ev G (.or a b) s S = (ev G a s S).bind fun d S1 => match truth S1 d with
    | some true => .ok d S1
    | some false => ev G b s S1
    | none => .no := by simp only [ev] <;> rfl
@[simp] theorem ev_ite {c a b : E} : ev G (.ite c a b) s S = (tst (ev G c s S)).bind fun t S1 => match t with
    | true => ev G a s S1
    | false => ev G b s S1 := by simp only [ev] <;> rfl
@[simp] theorem ev_chn {o1 o2 : Pr} {a b c : E} : ev G (.chn o1 o2 a b c) s S = (ev G a s S).bind fun x S1 => (ev G b s S1).bind fun y S2 => (pr o1 [x, y] S2).bind fun t S3 => match t with
    | .bl true => (ev G c s S3).bind fun z S4 => pr o2 [y, z] S4
    | .bl false => .ok (.bl false) S3
    | _ => .no := by simp only [ev] <;> rfl
@[simp] theorem ev_call {f : Nat} {es : List E} : ev G (.call f es) s S = (evs G es s S).bind fun ds S => G f ds S := by simp only [ev]
@[simp] theorem ev_mth {p : Pr} {o : E} {es : List E} : ev G (.mth p o es) s S = (ev G o s S).bind fun d S1 => if okM p d S1 = true then (evs G es s S1).bind fun ds S2 => pr p (d :: ds) S2 else .no := by simp only [ev] <;> rfl
@[simp] theorem evs_nil : evs G [] s S = .ok [] S := by simp only [evs]
@[simp] theorem evs_cons {e : E} {es : List E} : evs G (e :: es) s S = (ev G e s S).bind fun d S1 => (evs G es s S1).bind fun ds S2 => .ok (d :: ds) S2 := by simp only [evs]
theorem ev_map {own tg : List Nat} {un : Bool} {k : SK} {srcs : List E} {elt : E} {ds xs : List D} {l : Option Nat} {g : D → D} (hs : evs G srcs s S = .ok ds S) (hi : items k ds S = some (xs, l)) (hl : xs.length ≤ szL) (hk : chk xs l S = true)
    (h : ∀ d ∈ xs, ∃ s1, bindT tg un d (wipe s own) = some s1 ∧ ev G elt s1 S = .ok (g d) S) : ev G (.comp own tg un k srcs [] elt) s S = .ok (.lst (xs.map g)) S := by
  simp only [ev, hs, bOk, hi, if_pos hl]
  have q : ∀ {b : D → Option Env} {c : Env → Sto → Res Bool} {e : Env → Sto → Res D} {k : Sto → Bool} {ds : List D}, (∀ d ∈ ds, ∃ s1, b d = some s1 ∧ c s1 S = .ok true S ∧ e s1 S = .ok (g d) S) → k S = true → compL b c e k ds S = .ok (ds.map g) S := by
    intro b c e k ds
    induction ds with
    | nil => intro _ _; rfl
    | cons d ds ih =>
      intro h hk
      obtain ⟨s1, h1, h2, h3⟩ := h d List.mem_cons_self
      simp only [compL, h1, h2, h3, cOk, bOk, hk, if_true, ih (fun d hd => h d (List.mem_cons_of_mem _ hd)) hk, List.map_cons]
  rw [q (fun d hd => ?_) hk]
  · rfl
  · obtain ⟨s1, h1, h2⟩ := h d hd
    exact ⟨s1, h1, by simp only [evT], h2⟩
theorem ev_fm {own tg : List Nat} {un : Bool} {k : SK} {srcs : List E} {elt c : E} {ds xs : List D} {l : Option Nat} {g : D → D} {t : D → Bool} (hs : evs G srcs s S = .ok ds S) (hi : items k ds S = some (xs, l)) (hl : xs.length ≤ szL) (hk : chk xs l S = true)
    (h : ∀ d ∈ xs, ∃ s1, bindT tg un d (wipe s own) = some s1 ∧ tst (ev G c s1 S) = .ok (t d) S ∧ (t d = true → ev G elt s1 S = .ok (g d) S)) : ev G (.comp own tg un k srcs [c] elt) s S = .ok (.lst ((xs.filter t).map g)) S := by
  simp only [ev, hs, bOk, hi, if_pos hl]
  have q : ∀ {b : D → Option Env} {c : Env → Sto → Res Bool} {e : Env → Sto → Res D} {k : Sto → Bool} {ds : List D}, (∀ d ∈ ds, ∃ s1, b d = some s1 ∧ c s1 S = .ok (t d) S ∧ (t d = true → e s1 S = .ok (g d) S)) → k S = true → compL b c e k ds S = .ok ((ds.filter t).map g) S := by
    intro b c e k ds
    induction ds with
    | nil => intro _ _; rfl
    | cons d ds ih =>
      intro h hk
      obtain ⟨s1, h1, h2, h3⟩ := h d List.mem_cons_self
      have ih := ih (fun d hd => h d (List.mem_cons_of_mem _ hd)) hk
      cases ht : t d with
      | true => simp only [compL, h1, h2, ht, h3 ht, cOk, bOk, hk, if_true, ih, List.filter_cons_of_pos ht, List.map_cons]
      | false =>
        have hn : ¬ t d = true := by rw [ht]; decide
        simp only [compL, h1, h2, ht, cOk, bOk, hk, if_true, ih, List.filter_cons_of_neg hn]
  rw [q (fun d hd => ?_) hk]
  · rfl
  · obtain ⟨s1, h1, h2, h3⟩ := h d hd
    exact ⟨s1, h1, by simp only [evT]; exact h2, h3⟩
@[simp] theorem ex_set {i : Nat} {e : E} : ex G (.set i e) s S = outE s (ev G e s S) fun d S => .nx (s.set i (some d)) S := by simp only [ex]
@[simp] theorem ex_par {tg : List Nat} {es : List E} : ex G (.par tg es) s S = outL s (evs G es s S) fun ds S => if ds.length = tg.length then .nx (sets tg ds s) S else .no := by simp only [ex] <;> rfl
@[simp] theorem ex_ret {e : E} : ex G (.ret e) s S = outE s (ev G e s S) fun d S => .rt d S := by simp only [ex]
@[simp] theorem ex_retN : ex G .retN s S = .rt .non S := by simp only [ex]
@[simp] theorem ex_expr {e : E} : ex G (.expr e) s S = outE s (ev G e s S) fun _ S => .nx s S := by simp only [ex]
@[simp] theorem ex_pass : ex G .pass s S = .nx s S := by simp only [ex]
@[simp] theorem ex_ite {c : E} {a b : List St} : ex G (.ite c a b) s S = outB s (tst (ev G c s S)) fun t S => match t with
    | true => exs G a s S
    | false => exs G b s S := by simp only [ex] <;> rfl
@[simp] theorem ex_setM {i : Nat} {e : E} : ex G (.setM i e) s S = outE s (ev G e s S) fun d S => match d with
    | .lst xs => .nx (s.set i (some (.loc S.length))) (S ++ [.lst xs])
    | _ => .no := by simp only [ex] <;> rfl
@[simp] theorem ex_unp {tg : List Nat} {e : E} : ex G (.unp tg e) s S = outE s (ev G e s S) fun d S => match bindT tg true d s with
    | some s1 => .nx s1 S
    | none => .no := by simp only [ex] <;> rfl
theorem ex_for {tg : List Nat} {un : Bool} {k : SK} {srcs : List E} {body : List St} : ex G (.for tg un k srcs body) s S = outL s (evs G srcs s S) fun ds S1 => match items k ds S1 with
    | none => .no
    | some (xs, l) => forL (fun d s => bindT tg un d s) (fun s S => exs G body s S) (chk xs l) xs s S1 := by simp only [ex] <;> rfl
@[simp] theorem exs_nil : exs G [] s S = .nx s S := by simp only [exs]
@[simp] theorem exs_cons {t : St} {ts : List St} : exs G (t :: ts) s S = match ex G t s S with
    | .nx s1 S1 => exs G ts s1 S1
    | o => o := by simp only [exs] <;> rfl
end
/-! loops -/
theorem compL_map {b : D → Option Env} {c : Env → Sto → Res Bool} {e : Env → Sto → Res D} {k : Sto → Bool} {S : Sto} {g : D → D} : ∀ {ds : List D}, (∀ d ∈ ds, ∃ s1, b d = some s1 ∧ c s1 S = .ok true S ∧ e s1 S = .ok (g d) S) → k S = true → compL b c e k ds S = .ok (ds.map g) S
  | [], _, _ => rfl
  | d :: ds, h, hk => by
    obtain ⟨s1, h1, h2, h3⟩ := h d List.mem_cons_self
    simp only [compL, h1, h2, h3, cOk, bOk, hk, if_true, compL_map (fun d hd => h d (List.mem_cons_of_mem _ hd)) hk, List.map_cons]
theorem compL_fm {b : D → Option Env} {c : Env → Sto → Res Bool} {e : Env → Sto → Res D} {k : Sto → Bool} {S : Sto} {g : D → D} {t : D → Bool} : ∀ {ds : List D}, (∀ d ∈ ds, ∃ s1, b d = some s1 ∧ c s1 S = .ok (t d) S ∧ (t d = true → e s1 S = .ok (g d) S)) → k S = true → compL b c e k ds S = .ok ((ds.filter t).map g) S
  | [], _, _ => rfl
  | d :: ds, h, hk => by
    obtain ⟨s1, h1, h2, h3⟩ := h d List.mem_cons_self
    have ih := compL_fm (fun d hd => h d (List.mem_cons_of_mem _ hd)) hk
    cases ht : t d with
    | true => simp only [compL, h1, h2, ht, h3 ht, cOk, bOk, hk, if_true, ih, List.filter_cons_of_pos ht, List.map_cons]
    | false =>
      have hn : ¬ t d = true := by rw [ht]; decide
      simp only [compL, h1, h2, ht, cOk, bOk, hk, if_true, ih, List.filter_cons_of_neg hn]
theorem forL_inv {b : D → Env → Option Env} {f : Env → Sto → Out} {k : Sto → Bool} (I : Env → Sto → Prop) : ∀ (ds : List D), (∀ d ∈ ds, ∀ s S, I s S → ∃ s1, b d s = some s1 ∧ ∃ s2 S2, f s1 S = .nx s2 S2 ∧ I s2 S2 ∧ k S2 = true) → ∀ s S, I s S → ∃ s' S', forL b f k ds s S = .nx s' S' ∧ I s' S'
  | [], _, s, S, h => ⟨s, S, rfl, h⟩
  | d :: ds, h, s, S, hI => by
    obtain ⟨s1, e1, s2, S2, e2, i2, k2⟩ := h d List.mem_cons_self s S hI
    obtain ⟨s', S', e3, i3⟩ := forL_inv I ds (fun d hd => h d (List.mem_cons_of_mem _ hd)) s2 S2 i2
    exact ⟨s', S', by simp only [forL, e1, e2, k2, if_true]; exact e3, i3⟩
end Eng

/-! M1 -/
set_option linter.all false
set_option maxRecDepth 100000
set_option maxHeartbeats 1000000
namespace Eng
variable {P : Nat → Option Fn} {S : Sto} {n : Nat}

def lawMix (c p m : Int) : Int := (c * 48271 % p) * (c * 48271 % p + 7) % p % m
theorem mix_lo (c p : Int) {m : Int} (h : 0 < m) : 0 ≤ lawMix c p m := Int.emod_nonneg _ (Int.ne_of_gt h)
theorem mix_hi (c p : Int) {m : Int} (h : 0 < m) : lawMix c p m < m := Int.emod_lt_of_pos _ h
theorem r_mix (h : P 7 = some F_law_mix) (hn : 1 ≤ n) (c p m : Int) (hp : 0 < p) (hp2 : p < 2 ^ 60) (hm : 0 < m) : run P n 7 [.int c, .int p, .int m] S = .ok (.int (lawMix c p m)) S := by
  obtain ⟨n, rfl⟩ : ∃ k, n = k + 1 := ⟨n - 1, by omega⟩
  have e1 := Int.emod_nonneg (c * 48271) (Int.ne_of_gt hp)
  have e2 := Int.emod_lt_of_pos (c * 48271) hp
  have g1 : pr .mul [.int c, .int 48271] S = .ok (.int (c * 48271)) S := p_mulI (.inr (by omega))
  have g2 : pr .mul [.int (c * 48271 % p), .int (c * 48271 % p + 7)] S = .ok (.int (c * 48271 % p * (c * 48271 % p + 7))) S := p_mulI (.inl (by omega))
  rw [run_at h _ _ _ rfl]
  simp [F_law_mix, ex_for, getV, start, g1, g2, p_mod hp, p_mod hm, lawMix]
def lawCell (ns : List Int) (k : Nat) : Int := ns.getD k 0
theorem r_cell (h : P 6 = some F_law_cell) (hn : 1 ≤ n) (ns : List Int) (k : Nat) : run P n 6 [.scr ns, .int k] S = .ok (.int (lawCell ns k)) S := by
  obtain ⟨n, rfl⟩ : ∃ k, n = k + 1 := ⟨n - 1, by omega⟩
  rw [run_at h _ _ _ rfl]
  by_cases hk : k < ns.length
  · have e : atI ns (k : Int) = some ns[k] := by
      unfold atI ixN
      simp [hk]
    simp [F_law_cell, ex_for, getV, start, hk, e, lawCell]
  · have e : ns[k]? = none := by simp; omega
    simp [F_law_cell, ex_for, getV, start, hk, lawCell, e]
def sL (s : String) : D := .str (s.toList.map Char.toNat)
def pick4 (a b c d : D) (i : Int) : D := if i = 0 then a else if i = 1 then b else if i = 2 then c else d
theorem at4 {a b c d : D} {i : Int} (h0 : 0 ≤ i) (h1 : i < 4) : atI [a, b, c, d] i = some (pick4 a b c d i) := by
  have : i = 0 ∨ i = 1 ∨ i = 2 ∨ i = 3 := by omega
  rcases this with rfl | rfl | rfl | rfl <;> rfl
def lawLeaf (c : Int) (h : Bool) : D := if (h && lawMix c 9973 2 == 0) = true then pick4 (.str [63, 120]) (.str [63, 121]) (.str [63, 120]) (.str [63, 97, 98]) (lawMix c 9967 4) else pick4 (.str [97]) (.str [98]) (.str [110, 105, 108]) (.str [97]) (lawMix c 9949 4)
theorem r_leaf (h7 : P 7 = some F_law_mix) (h : P 8 = some F_law_leaf) (hn : 2 ≤ n) (c : Int) (t : Bool) : run P n 8 [.int c, .bl t] S = .ok (lawLeaf c t) S := by
  obtain ⟨n, rfl⟩ : ∃ k, n = k + 1 := ⟨n - 1, by omega⟩
  have m : ∀ p m : Int, 0 < p → p < 2 ^ 60 → 0 < m → run P n 7 [.int c, .int p, .int m] S = .ok (.int (lawMix c p m)) S := fun p m a b d => r_mix h7 (by omega) c p m a b d
  have a1 := fun (a b d e : D) => at4 (a := a) (b := b) (c := d) (d := e) (mix_lo c 9967 (m := 4) (by decide)) (mix_hi c 9967 (by decide))
  have a2 := fun (a b d e : D) => at4 (a := a) (b := b) (c := d) (d := e) (mix_lo c 9949 (m := 4) (by decide)) (mix_hi c 9949 (by decide))
  rw [run_at h _ _ _ rfl]
  cases t with
  | false => simp [F_law_leaf, ex_for, getV, start, m, a2, lawLeaf]
  | true =>
    cases hz : (lawMix c 9973 2 == 0) with
    | true => simp [F_law_leaf, ex_for, getV, start, m, a1, lawLeaf, hz]
    | false => simp [F_law_leaf, ex_for, getV, start, m, a2, lawLeaf, hz]
/-- how many parts -/
def lawMany (c : Int) : Nat := if lawMix c 9929 4 = 0 then 1 else if lawMix c 9929 4 = 3 then 3 else 2
def lawName (c : Int) : D := pick4 (.str [102]) (.str [103]) (.str [102]) (.str [110, 111, 116]) (lawMix c 9931 4)
def lawTree : Nat → Int → Bool → D
  | 0, c, h => lawLeaf c h
  | 1, c, h => lawLeaf c h
  | l + 2, c, h => if lawMix c 9941 6 < 2 then lawLeaf c h else .tup (lawName c :: (List.range (lawMany c)).map fun (k : Nat) => lawTree (l + 1) (c * 3 + 7 * (k : Int) + 1) h)
theorem r_tree (h7 : P 7 = some F_law_mix) (h8 : P 8 = some F_law_leaf) (h9 : P 9 = some F_law_tree) : ∀ (l : Nat) {n : Nat} {S : Sto} (c : Int) (t : Bool), l + 3 ≤ n → run P n 9 [.int c, .int ((l : Int) + 1), .bl t] S = .ok (lawTree (l + 1) c t) S := by
  intro l
  induction l with
  | zero =>
    intro n S c t hn
    obtain ⟨n, rfl⟩ : ∃ k, n = k + 1 := ⟨n - 1, by omega⟩
    have m : ∀ p m : Int, 0 < p → p < 2 ^ 60 → 0 < m → run P n 7 [.int c, .int p, .int m] S = .ok (.int (lawMix c p m)) S := fun p m a b d => r_mix h7 (by omega) c p m a b d
    have lf : run P n 8 [.int c, .bl t] S = .ok (lawLeaf c t) S := r_leaf h7 h8 (by omega) c t
    rw [run_at h9 _ _ _ rfl]
    simp [F_law_tree, ex_for, getV, start, m, lf, lawTree]
  | succ l ih =>
    intro n S c t hn
    obtain ⟨n, rfl⟩ : ∃ k, n = k + 1 := ⟨n - 1, by omega⟩
    have m : ∀ p m : Int, 0 < p → p < 2 ^ 60 → 0 < m → run P n 7 [.int c, .int p, .int m] S = .ok (.int (lawMix c p m)) S := fun p m a b d => r_mix h7 (by omega) c p m a b d
    have lf : run P n 8 [.int c, .bl t] S = .ok (lawLeaf c t) S := r_leaf h7 h8 (by omega) c t
    have sub : ∀ x : Int, run P n 9 [.int x, .int ((l : Int) + 1), .bl t] S = .ok (lawTree (l + 1) x t) S := fun x => ih x t (by omega)
    have a1 := fun (a b d e : D) => at4 (a := a) (b := b) (c := d) (d := e) (mix_lo c 9931 (m := 4) (by decide)) (mix_hi c 9931 (by decide))
    have g1 : pr .mul [.int c, .int 3] S = .ok (.int (c * 3)) S := p_mulI (.inr (by omega))
    have g2 : ∀ k : Int, pr .mul [.int 7, .int k] S = .ok (.int (7 * k)) S := fun k => p_mulI (.inl (by omega))
    have hl : ((l : Int) + 1 + 1 == 1) = false := by rw [beq_eq_false_iff_ne]; omega
    have hs : (l : Int) + 1 + 1 - 1 = (l : Int) + 1 := by omega
    rw [run_at h9 _ _ _ rfl]
    by_cases hw : lawMix c 9941 6 < 2
    · simp [F_law_tree, ex_for, getV, start, m, lf, lawTree, hl, hw]
    · have q : lawMix c 9929 4 = 0 ∨ lawMix c 9929 4 = 1 ∨ lawMix c 9929 4 = 2 ∨ lawMix c 9929 4 = 3 := by
        have := mix_lo c 9929 (m := 4) (by decide)
        have := mix_hi c 9929 (m := 4) (by decide)
        omega
      have a2 : ∀ a b d e : D, atI [a, b, d, e] (lawMix c 9929 4) = some (pick4 a b d e (lawMix c 9929 4)) := fun a b d e => at4 (mix_lo c 9929 (by decide)) (mix_hi c 9929 (by decide))
      rcases q with q | q | q | q <;>
        simp [F_law_tree, ex_for, getV, start, m, lf, lawTree, hl, hw, a1, a2, q, pick4, forL, bindT, g1, g2, hs, sub, p_addT, szL, lawMany, lawName, List.range, List.range.loop]
end Eng

/-! M2 -/
set_option linter.all false
set_option maxRecDepth 100000
set_option maxHeartbeats 1000000
namespace Eng
variable {P : Nat → Option Fn} {S : Sto} {n : Nat}

/- no object of the store, no script within -/
mutual
def D.fine : D → Bool
  | .tup xs => D.fines xs
  | .lst xs => D.fines xs
  | .loc _ => false
  | .scr _ => false
  | _ => true
def D.fines : List D → Bool
  | [] => true
  | x :: xs => x.fine && D.fines xs
end
theorem fines_mem : ∀ {xs : List D}, D.fines xs = true → ∀ x ∈ xs, x.fine = true
  | [], _, x, hx => by simp at hx
  | y :: ys, h, x, hx => by
    simp only [D.fines, Bool.and_eq_true] at h
    rcases List.mem_cons.mp hx with rfl | hx
    · exact h.1
    · exact fines_mem h.2 x hx
theorem fines_of : ∀ {xs : List D}, (∀ x ∈ xs, x.fine = true) → D.fines xs = true
  | [], _ => by simp [D.fines]
  | y :: ys, h => by
    simp only [D.fines, Bool.and_eq_true]
    exact ⟨h y List.mem_cons_self, fines_of fun x hx => h x (List.mem_cons_of_mem _ hx)⟩
@[simp] theorem fine_tup {xs : List D} : (D.tup xs).fine = D.fines xs := by simp only [D.fine]
@[simp] theorem fine_lst {xs : List D} : (D.lst xs).fine = D.fines xs := by simp only [D.fine]
@[simp] theorem fine_str {x : List Nat} : (D.str x).fine = true := by simp only [D.fine]
@[simp] theorem fine_int {x : Int} : (D.int x).fine = true := by simp only [D.fine]
@[simp] theorem fine_bl {x : Bool} : (D.bl x).fine = true := by simp only [D.fine]
@[simp] theorem fine_non : (D.non).fine = true := by simp only [D.fine]
@[simp] theorem fine_loc {x : Nat} : (D.loc x).fine = false := by simp only [D.fine]
@[simp] theorem fine_scr {x : List Int} : (D.scr x).fine = false := by simp only [D.fine]
theorem fine_rs {d : D} (h : d.fine = true) : rs S d = d := by
  cases d <;> first | rfl | (simp at h)
def isStr : D → Bool
  | .str _ => true
  | _ => false
def isTupl : D → Bool
  | .tup _ => true
  | _ => false
theorem p_isStr {d : D} (h : d.fine = true) : pr (.isi [.str]) [d] S = .ok (.bl (isStr d)) S := by
  cases d <;> first | rfl | (simp at h)
theorem p_isTup {d : D} (h : d.fine = true) : pr (.isi [.tup]) [d] S = .ok (.bl (isTupl d)) S := by
  cases d <;> first | rfl | (simp at h)

def LET : List Nat := [97, 98, 99, 100, 101, 102, 103, 104, 105, 106, 107, 108, 109, 110, 111, 112, 113, 114, 115, 116, 117, 118, 119, 120, 121, 122]
theorem mem_LET (c : Nat) : decide (c ∈ LET) = (decide (97 ≤ c) && decide (c ≤ 122)) := by
  rw [Bool.eq_iff_iff]
  simp only [LET, decide_eq_true_eq, Bool.and_eq_true, List.mem_cons, List.not_mem_nil, or_false]
  omega
/-- small letters alone -/
def low (s : List Nat) : Bool := s.all fun c => decide (c ∈ LET)
def isName (d : D) (m : Int) : Bool := match d with
  | .str s => decide (1 ≤ (s.length : Int)) && decide ((s.length : Int) ≤ m) && low s
  | _ => false
theorem r_name (h : P 1 = some F_is_name) (hn : 1 ≤ n) (d : D) (m : Int) (hd : d.fine = true) (hl : m ≤ 1000) : run P n 1 [d, .int m] S = .ok (.bl (isName d m)) S := by
  obtain ⟨n, rfl⟩ : ∃ k, n = k + 1 := ⟨n - 1, by omega⟩
  rw [run_at h _ _ _ rfl]
  cases d with
  | str s =>
    have hi := p_isStr (S := S) (d := .str s) rfl
    by_cases h1 : (1 : Int) ≤ s.length
    · by_cases h2 : (s.length : Int) ≤ m
      · have hc : ev (run P n) (.comp [2] [2] false .seq [.var 0] [] (.pr .isin [.var 2, .con (.str [97, 98, 99, 100, 101, 102, 103, 104, 105, 106, 107, 108, 109, 110, 111, 112, 113, 114, 115, 116, 117, 118, 119, 120, 121, 122])])) [some (.str s), some (.int m), none] S
            = .ok (.lst (s.map fun c => .bl (decide (c ∈ LET)))) S := by
          refine (ev_map (g := fun d => match d with | .str [c] => .bl (decide (c ∈ LET)) | _ => .non) (ds := [.str s]) (by simp [getV]) it_str (by simp [szL]; omega) rfl fun d hd => ?_).trans (by simp [Function.comp_def])
          obtain ⟨c, _, rfl⟩ := List.mem_map.mp hd
          exact ⟨[some (.str s), some (.int m), some (.str [c])], rfl, by simp [getV, LET]⟩
        simp [F_is_name, getV, start, hi, isStr, isName, h1, h2, hc, p_all (boolsD_map _ s), low]
      · simp [F_is_name, getV, start, hi, isStr, isName, h1, h2]
    · simp [F_is_name, getV, start, hi, isStr, isName, h1]
  | loc _ => simp at hd
  | scr _ => simp at hd
  | _ => simp [F_is_name, getV, start, p_isStr, isStr, isName]
def isHole (d : D) : Bool := match d with
  | .str (63 :: s) => isName (.str s) 2
  | _ => false
theorem cut_tail {a : Type} (xs : List a) : cut xs (some 1) none = xs.tail := by
  cases xs with
  | nil => rfl
  | cons x r =>
    unfold cut sIx
    have e : min (1 : Int).toNat (x :: r).length = 1 := by simp
    simp only [show ¬ ((1 : Int) < 0) by decide, if_false, e]
    simp
theorem cut_head {a : Type} (xs : List a) : cut xs none (some 1) = xs.take 1 := by
  cases xs with
  | nil => rfl
  | cons x r =>
    unfold cut sIx
    have e : min (1 : Int).toNat (x :: r).length = 1 := by simp
    simp only [show ¬ ((1 : Int) < 0) by decide, if_false, e]
    simp
theorem r_hole (h1 : P 1 = some F_is_name) (h : P 2 = some F_is_hole) (hn : 2 ≤ n) (d : D) (hd : d.fine = true) : run P n 2 [d] S = .ok (.bl (isHole d)) S := by
  obtain ⟨n, rfl⟩ : ∃ k, n = k + 1 := ⟨n - 1, by omega⟩
  rw [run_at h _ _ _ rfl]
  have nm : ∀ s, run P n 1 [.str s, .int 2] S = .ok (.bl (isName (.str s) 2)) S := fun s => r_name h1 (by omega) _ _ rfl (by decide)
  cases d with
  | str s =>
    have hi := p_isStr (S := S) (d := .str s) rfl
    cases s with
    | nil => simp [F_is_hole, getV, start, hi, isStr, isHole, cut_head]
    | cons c r =>
      by_cases hc : c = 63
      · subst hc; simp [F_is_hole, getV, start, hi, isStr, isHole, cut_head, cut_tail, nm]
      · have e : isHole (.str (c :: r)) = false := by
          unfold isHole; split
          · rename_i q; cases q; exact absurd rfl hc
          · rfl
        simp [F_is_hole, getV, start, hi, isStr, e, cut_head, beq_eq_false_iff_ne.mpr hc]
  | loc _ => simp at hd
  | scr _ => simp at hd
  | _ => simp [F_is_hole, getV, start, p_isStr, isStr, isHole]
def isPat : Nat → Bool → D → Bool
  | 0, _, _ => false
  | l + 1, h, .str s => isName (.str s) 3 || (h && isHole (.str s))
  | l + 1, h, .tup (x :: xs) => decide (1 ≤ xs.length) && decide (xs.length ≤ 3) && isName x 3 && xs.all (isPat l h)
  | _, _, _ => false
theorem r_patAt (h1 : P 1 = some F_is_name) (h2 : P 2 = some F_is_hole) (h3 : P 3 = some F_is_pattern_at) (t : Bool) : ∀ (l : Nat) {n : Nat} {S : Sto} (d : D), d.fine = true → l + 3 ≤ n → run P n 3 [d, .int l, .bl t] S = .ok (.bl (isPat l t d)) S := by
  intro l
  induction l with
  | zero =>
    intro n S d hd hn
    obtain ⟨n, rfl⟩ : ∃ k, n = k + 1 := ⟨n - 1, by omega⟩
    rw [run_at h3 _ _ _ rfl]
    simp [F_is_pattern_at, getV, start, isPat]
  | succ l ih =>
    intro n S d hd hn
    obtain ⟨n, rfl⟩ : ∃ k, n = k + 1 := ⟨n - 1, by omega⟩
    rw [run_at h3 _ _ _ rfl]
    have nm : ∀ d : D, d.fine = true → run P n 1 [d, .int 3] S = .ok (.bl (isName d 3)) S := fun d hd => r_name h1 (by omega) _ _ hd (by decide)
    have ho : ∀ d : D, d.fine = true → run P n 2 [d] S = .ok (.bl (isHole d)) S := fun d hd => r_hole h1 h2 (by omega) _ hd
    have hz : ((l : Int) + 1 == 0) = false := by rw [beq_eq_false_iff_ne]; omega
    have hs : (l : Int) + 1 - 1 = l := by omega
    cases d with
    | str s =>
      have hi := p_isStr (S := S) (d := .str s) rfl
      have nm := nm (.str s) rfl
      have ho := ho (.str s) rfl
      cases e1 : isName (.str s) 3 with
      | true => simp [F_is_pattern_at, getV, start, hz, hi, isStr, nm, e1, isPat]
      | false =>
        cases t with
        | true => simp [F_is_pattern_at, getV, start, hz, hi, isStr, nm, e1, isPat, ho]
        | false => simp [F_is_pattern_at, getV, start, hz, hi, isStr, nm, e1, isPat]
    | tup xs =>
      have hi := p_isStr (S := S) hd
      have hi2 := p_isTup (S := S) hd
      simp only [fine_tup] at hd
      cases xs with
      | nil => simp [F_is_pattern_at, getV, start, hz, hi, hi2, isStr, isTupl, isPat]
      | cons x r =>
        have fx : x.fine = true := fines_mem hd x List.mem_cons_self
        have nx := nm x fx
        by_cases q1 : 1 ≤ r.length
        · by_cases q2 : r.length ≤ 3
          · have z1 : (2 : Int) ≤ (r.length : Int) + 1 := by omega
            have z2 : (r.length : Int) + 1 ≤ 4 := by omega
            cases e1 : isName x 3 with
            | false => simp [F_is_pattern_at, getV, start, hz, hi, hi2, isStr, isTupl, z1, z2, nx, e1, isPat]
            | true =>
              have hc : ev (run P n) (.comp [3] [3] false .seq [.pr (.slc true false) [.var 0, .con (.int 1)]] [] (.call 3 [.var 3, .pr .sub [.var 1, .con (.int 1)], .var 2])) [some (.tup (x :: r)), some (.int ((l : Int) + 1)), some (.bl t), none] S
                  = .ok (.lst (r.map fun d => .bl (isPat l t d))) S := by
                refine ev_map (ds := [.tup r]) (by simp [getV, cut_tail]) it_tup (by unfold szL; omega) rfl fun d hd' => ?_
                refine ⟨[some (.tup (x :: r)), some (.int ((l : Int) + 1)), some (.bl t), some d], rfl, ?_⟩
                have := ih (n := n) (S := S) d (fines_mem hd d (List.mem_cons_of_mem _ hd')) (by omega)
                simp [getV, hs, this]
              simp [F_is_pattern_at, getV, start, hz, hi, hi2, isStr, isTupl, z1, z2, nx, e1, isPat, hc, p_all (boolsD_map _ r), q1, q2]
          · have z1 : (2 : Int) ≤ (r.length : Int) + 1 := by omega
            have z2 : ¬ (r.length : Int) + 1 ≤ 4 := by omega
            simp [F_is_pattern_at, getV, start, hz, hi, hi2, isStr, isTupl, z1, z2, isPat, q2]
        · have z1 : ¬ (2 : Int) ≤ (r.length : Int) + 1 := by omega
          simp [F_is_pattern_at, getV, start, hz, hi, hi2, isStr, isTupl, z1, isPat, q1]
    | loc _ => simp at hd
    | scr _ => simp at hd
    | _ => simp [F_is_pattern_at, getV, start, hz, p_isStr, p_isTup, isStr, isTupl, isPat]
theorem r_term (h1 : P 1 = some F_is_name) (h2 : P 2 = some F_is_hole) (h3 : P 3 = some F_is_pattern_at) (h4 : P 4 = some F_is_term) (hn : 9 ≤ n) (d : D) (hd : d.fine = true) : run P n 4 [d] S = .ok (.bl (isPat 5 false d)) S := by
  obtain ⟨n, rfl⟩ : ∃ k, n = k + 1 := ⟨n - 1, by omega⟩
  rw [run_at h4 _ _ _ rfl]
  have : run P n 3 [d, .int 5, .bl false] S = _ := r_patAt h1 h2 h3 false 5 (n := n) (S := S) d hd (by omega)
  simp [F_is_term, getV, start, this]
theorem r_pattern (h1 : P 1 = some F_is_name) (h2 : P 2 = some F_is_hole) (h3 : P 3 = some F_is_pattern_at) (h5 : P 5 = some F_is_pattern) (hn : 9 ≤ n) (d : D) (hd : d.fine = true) : run P n 5 [d] S = .ok (.bl (isPat 5 true d)) S := by
  obtain ⟨n, rfl⟩ : ∃ k, n = k + 1 := ⟨n - 1, by omega⟩
  rw [run_at h5 _ _ _ rfl]
  have : run P n 3 [d, .int 5, .bl true] S = _ := r_patAt h1 h2 h3 true 5 (n := n) (S := S) d hd (by omega)
  simp [F_is_pattern, getV, start, this]
end Eng

/-! M3 -/
set_option linter.all false
set_option maxRecDepth 100000
set_option maxHeartbeats 1000000
namespace Eng
variable {P : Nat → Option Fn} {S : Sto} {n : Nat}

/-! how deep -/
theorem dps_le {m : Nat} : ∀ {xs : List D}, D.dps xs ≤ m ↔ ∀ x ∈ xs, x.dp ≤ m
  | [] => by simp [D.dps]
  | y :: ys => by
    have := dps_le (m := m) (xs := ys)
    simp only [D.dps, List.mem_cons, forall_eq_or_imp, ← this]
    omega
@[simp] theorem dp_tup {xs : List D} : (D.tup xs).dp = D.dps xs + 1 := by simp only [D.dp]
@[simp] theorem dp_lst {xs : List D} : (D.lst xs).dp = D.dps xs + 1 := by simp only [D.dp]
@[simp] theorem dp_str {x : List Nat} : (D.str x).dp = 0 := by simp only [D.dp]
@[simp] theorem dp_int {x : Int} : (D.int x).dp = 0 := by simp only [D.dp]
@[simp] theorem dp_bl {x : Bool} : (D.bl x).dp = 0 := by simp only [D.dp]
@[simp] theorem dp_non : (D.non).dp = 0 := by simp only [D.dp]
@[simp] theorem dps_nil : D.dps [] = 0 := by simp only [D.dps]
@[simp] theorem dps_cons {x : D} {xs : List D} : D.dps (x :: xs) = max x.dp (D.dps xs) := by simp only [D.dps]
@[simp] theorem fines_nil : D.fines [] = true := by simp only [D.fines]
@[simp] theorem fines_cons {x : D} {xs : List D} : D.fines (x :: xs) = (x.fine && D.fines xs) := by simp only [D.fines]
theorem p_eqNil {xs : List D} (h : D.dps xs ≤ 100) : pr .eq [.lst xs, .lst []] S = .ok (.bl xs.isEmpty) S := by
  have e := p_eq (S := S) (d := .lst xs) (e := .lst []) (by simp [dpL]; omega) (by simp [dpL])
  rw [e]
  congr 2
  cases xs <;> simp [D.eqv, D.eqvs]
theorem strLt1 (a b : Nat) : strLt [a] [b] = decide (a < b) := by
  unfold strLt
  rw [Bool.eq_iff_iff]
  simp [List.cons_lt_cons_iff]

/-- as the law says it -/
def lawIsS (l : Nat) (h : Bool) (s : List Nat) : Bool := if (s.take 1 == [63] && h) = true then decide (1 < s.length) && decide (s.length < 4) && decide (0 < l) && low s.tail else decide (0 < s.length) && decide (s.length < 4) && decide (0 < l) && low s
def lawIs : Nat → Bool → D → Bool
  | l, h, .str s => lawIsS l h s
  | l + 1, h, .tup (.str x :: xs) => decide (1 ≤ xs.length) && decide (xs.length ≤ 3) && decide (1 ≤ l) && lawIsS 1 false x && xs.all (lawIs l h)
  | _, _, _ => false
theorem low_filter (s : List Nat) : ((s.map fun c => D.str [c]).filter fun d => match d with | .str [c] => !decide (c ∈ LET) | _ => false).isEmpty = low s := by
  unfold low
  rw [Bool.eq_iff_iff, List.isEmpty_iff, List.filter_eq_nil_iff]
  simp [List.all_eq_true]
theorem ev_low {G : Nat → List D → Sto → Res D} {e : E} {s : Env} {x : List Nat} {o0 o1 o2 o4 : Option D} (hs : s = [o0, o1, o2, none, o4]) (he : ev G e s S = .ok (.str x) S) (hl : x.length ≤ 1000) :
    ev G (.comp [3] [3] false .seq [e] [.pr .not [.chn .le .le (.con (.str [97])) (.var 3) (.con (.str [122]))]] (.var 3)) s S = .ok (.lst ((x.map fun c => D.str [c]).filter fun d => match d with | .str [c] => !decide (c ∈ LET) | _ => false)) S := by
  subst hs
  refine (ev_fm (g := id) (t := fun d => match d with | .str [c] => !decide (c ∈ LET) | _ => false) (ds := [.str x]) (by simp [he]) it_str (by simp [szL]; omega) rfl fun d hd => ?_).trans (by simp)
  obtain ⟨c, _, rfl⟩ := List.mem_map.mp hd
  refine ⟨[o0, o1, o2, some (.str [c]), o4], rfl, ?_, fun _ => by simp [getV]⟩
  simp only [mem_LET]
  by_cases h1 : c < 97
  · have : ¬ 97 ≤ c := by omega
    simp [getV, strLt1, h1, this]
  · have h1' : 97 ≤ c := by omega
    by_cases h2 : 122 < c
    · have : ¬ c ≤ 122 := by omega
      simp [getV, strLt1, h1, h1', h2, this]
    · have : c ≤ 122 := by omega
      simp [getV, strLt1, h1, h1', h2, this]
theorem dps_strs {s : List Nat} {t : D → Bool} : D.dps ((s.map fun c => D.str [c]).filter t) ≤ 100 := by
  rw [dps_le]
  intro x hx
  obtain ⟨c, _, rfl⟩ := List.mem_map.mp (List.mem_filter.mp hx).1
  simp
theorem r_isS (h : P 11 = some F_law_is) (hn : 1 ≤ n) (s : List Nat) (l : Nat) (t : Bool) (hl : s.length ≤ 1000) : run P n 11 [.str s, .int l, .bl t] S = .ok (.bl (lawIsS l t s)) S := by
  obtain ⟨n, rfl⟩ : ∃ k, n = k + 1 := ⟨n - 1, by omega⟩
  rw [run_at h _ _ _ rfl]
  have c1 := ev_low (S := S) (G := run P n) (e := .var 0) (s := [some (.str s), some (.int l), some (.bl t), none, none]) rfl (by simp [getV]) hl
  have c2 := ev_low (S := S) (G := run P n) (e := .pr (.slc true false) [.var 0, .con (.int 1)]) (x := s.tail) (s := [some (.str s), some (.int l), some (.bl t), none, none]) rfl (by simp [getV, cut_tail]) (by simp; omega)
  have q1 := p_eqNil (S := S) (dps_strs (s := s) (t := fun d => match d with | .str [c] => !decide (c ∈ LET) | _ => false))
  have q2 := p_eqNil (S := S) (dps_strs (s := s.tail) (t := fun d => match d with | .str [c] => !decide (c ∈ LET) | _ => false))
  rw [low_filter] at q1 q2
  generalize hL : D.lst ((s.map fun c => D.str [c]).filter fun d => match d with | .str [c] => !decide (c ∈ LET) | _ => false) = L1 at c1 q1
  generalize hL2 : D.lst ((s.tail.map fun c => D.str [c]).filter fun d => match d with | .str [c] => !decide (c ∈ LET) | _ => false) = L2 at c2 q2
  cases s with
  | nil => cases t <;> simp [F_law_is, getV, start, cut_head, lawIsS]
  | cons c r =>
    simp only [List.tail_cons] at q2
    have hz : lawIsS l t (c :: r) = if (c == 63 && t) = true then decide (0 < r.length) && decide (r.length < 3) && decide (0 < l) && low r else decide (r.length < 3) && decide (0 < l) && low (c :: r) := by
      unfold lawIsS
      simp
      by_cases hc : c = 63 ∧ t = true
      · rw [if_pos hc, if_pos hc]; congr 2; congr 2; simp; omega
      · rw [if_neg hc, if_neg hc]; congr 2; simp; omega
    rw [hz]
    have j2 : r.length < 3 → (r.length : Int) + 1 < 4 := fun h => by omega
    have j2' : ¬ r.length < 3 → ¬ (r.length : Int) + 1 < 4 := fun h => by omega
    have j0 : (0 : Int) < (r.length : Int) + 1 := by omega
    by_cases hc : c = 63
    · subst hc
      by_cases h2 : r.length < 3
      · have i2 := j2 h2
        by_cases h3 : 0 < l
        · cases t with
          | true =>
            by_cases h1 : 0 < r.length
            · have i1 : (1 : Int) < (r.length : Int) + 1 := by omega
              simp [F_law_is, getV, start, cut_head, i1, h1, h2, i2, h3, c2, q2]
            · have i1 : ¬ (1 : Int) < (r.length : Int) + 1 := by omega
              simp [F_law_is, getV, start, cut_head, i1, h1, h2, i2, h3]
          | false => simp [F_law_is, getV, start, cut_head, h2, i2, h3, j0, c1, q1]
        · cases t with
          | true =>
            by_cases h1 : 0 < r.length
            · have i1 : (1 : Int) < (r.length : Int) + 1 := by omega
              simp [F_law_is, getV, start, cut_head, i1, h1, h2, i2, h3]
            · have i1 : ¬ (1 : Int) < (r.length : Int) + 1 := by omega
              simp [F_law_is, getV, start, cut_head, i1, h1, h2, i2, h3]
          | false => simp [F_law_is, getV, start, cut_head, h2, i2, h3, j0]
      · have i2 := j2' h2
        cases t with
          | true =>
            by_cases h1 : 0 < r.length
            · have i1 : (1 : Int) < (r.length : Int) + 1 := by omega
              simp [F_law_is, getV, start, cut_head, i1, h1, h2, i2]
            · have i1 : ¬ (1 : Int) < (r.length : Int) + 1 := by omega
              simp [F_law_is, getV, start, cut_head, i1, h1, h2, i2]
          | false => simp [F_law_is, getV, start, cut_head, h2, i2, j0]
    · have hb := beq_eq_false_iff_ne.mpr hc
      by_cases h2 : r.length < 3
      · have i2 := j2 h2
        by_cases h3 : 0 < l
        · simp [F_law_is, getV, start, cut_head, hb, h2, i2, h3, j0, c1, q1]
        · simp [F_law_is, getV, start, cut_head, hb, h2, i2, h3, j0]
      · have i2 := j2' h2
        simp [F_law_is, getV, start, cut_head, hb, h2, i2, j0]
/- texts are short -/
mutual
def D.sho : D → Bool
  | .str s => decide (s.length ≤ 1000)
  | .tup xs => D.shos xs
  | .lst xs => D.shos xs
  | _ => true
def D.shos : List D → Bool
  | [] => true
  | x :: xs => x.sho && D.shos xs
end
@[simp] theorem sho_tup {xs : List D} : (D.tup xs).sho = D.shos xs := by simp only [D.sho]
@[simp] theorem sho_lst {xs : List D} : (D.lst xs).sho = D.shos xs := by simp only [D.sho]
@[simp] theorem sho_str {x : List Nat} : (D.str x).sho = decide (x.length ≤ 1000) := by simp only [D.sho]
@[simp] theorem sho_int {x : Int} : (D.int x).sho = true := by simp only [D.sho]
@[simp] theorem sho_bl {x : Bool} : (D.bl x).sho = true := by simp only [D.sho]
@[simp] theorem sho_non : (D.non).sho = true := by simp only [D.sho]
@[simp] theorem shos_nil : D.shos [] = true := by simp only [D.shos]
@[simp] theorem shos_cons {x : D} {xs : List D} : D.shos (x :: xs) = (x.sho && D.shos xs) := by simp only [D.shos]
theorem shos_mem : ∀ {xs : List D}, D.shos xs = true → ∀ x ∈ xs, x.sho = true
  | [], _, x, hx => by simp at hx
  | y :: ys, h, x, hx => by
    simp only [D.shos, Bool.and_eq_true] at h
    rcases List.mem_cons.mp hx with rfl | hx
    · exact h.1
    · exact shos_mem h.2 x hx
theorem shos_of : ∀ {xs : List D}, (∀ x ∈ xs, x.sho = true) → D.shos xs = true
  | [], _ => by simp [D.shos]
  | y :: ys, h => by
    simp only [D.shos, Bool.and_eq_true]
    exact ⟨h y List.mem_cons_self, shos_of fun x hx => h x (List.mem_cons_of_mem _ hx)⟩
theorem filter_emp {a : Type} (xs : List a) (t : a → Bool) : (xs.filter fun x => !t x).isEmpty = xs.all t := by
  rw [Bool.eq_iff_iff, List.isEmpty_iff, List.filter_eq_nil_iff]
  simp [List.all_eq_true]
theorem r_is (h : P 11 = some F_law_is) (t : Bool) : ∀ (l : Nat) {n : Nat} {S : Sto} (d : D), d.fine = true → d.sho = true → d.dp ≤ 90 → l + 2 ≤ n → run P n 11 [d, .int l, .bl t] S = .ok (.bl (lawIs l t d)) S := by
  intro l
  induction l with
  | zero =>
    intro n S d hd hs hp hn
    cases d with
    | str s =>
      have := r_isS (S := S) h (n := n) (by omega) s 0 t (by simpa using hs)
      simpa [lawIs] using this
    | tup xs =>
      obtain ⟨n, rfl⟩ : ∃ k, n = k + 1 := ⟨n - 1, by omega⟩
      rw [run_at h _ _ _ rfl]
      by_cases h1 : (1 : Int) < xs.length
      · by_cases h2 : (xs.length : Int) < 5
        · simp [F_law_is, getV, start, h1, h2, lawIs]
        · simp [F_law_is, getV, start, h1, h2, lawIs]
      · simp [F_law_is, getV, start, h1, lawIs]
    | loc _ => simp at hd
    | scr _ => simp at hd
    | _ =>
      obtain ⟨n, rfl⟩ : ∃ k, n = k + 1 := ⟨n - 1, by omega⟩
      rw [run_at h _ _ _ rfl]
      simp [F_law_is, getV, start, lawIs]
  | succ l ih =>
    intro n S d hd hs hp hn
    cases d with
    | str s =>
      have := r_isS (S := S) h (n := n) (by omega) s (l + 1) t (by simpa using hs)
      simpa [lawIs] using this
    | tup xs =>
      obtain ⟨n, rfl⟩ : ∃ k, n = k + 1 := ⟨n - 1, by omega⟩
      rw [run_at h _ _ _ rfl]
      simp only [fine_tup, sho_tup, dp_tup] at hd hs hp
      cases xs with
      | nil => simp [F_law_is, getV, start, lawIs]
      | cons x r =>
        have fx := fines_mem hd x List.mem_cons_self
        by_cases q1 : 1 ≤ r.length
        · have z1 : (1 : Int) < (r.length : Int) + 1 := by omega
          by_cases q2 : r.length ≤ 3
          · have z2 : (r.length : Int) + 1 < 5 := by omega
            by_cases q3 : 1 ≤ l
            · have z3 : ¬ (l : Int) + 1 < 2 := by omega
              cases x with
              | str x =>
                have hx : run P n 11 [.str x, .int 1, .bl false] S = .ok (.bl (lawIsS 1 false x)) S := r_isS h (by omega) x 1 false (by have := shos_mem hs _ List.mem_cons_self; simpa using this)
                cases e1 : lawIsS 1 false x with
                | false => simp [F_law_is, getV, start, z1, z2, z3, hx, e1, lawIs]
                | true =>
                  have hs1 : (l : Int) + 1 - 1 = l := by omega
                  have hc : ev (run P n) (.comp [4] [4] false .seq [.pr (.slc true false) [.var 0, .con (.int 1)]] [.pr .not [.call 11 [.var 4, .pr .sub [.var 1, .con (.int 1)], .var 2]]] (.var 4)) [some (.tup (.str x :: r)), some (.int ((l : Int) + 1)), some (.bl t), none, none] S
                      = .ok (.lst (r.filter fun d => !lawIs l t d)) S := by
                    refine (ev_fm (g := id) (t := fun d => !lawIs l t d) (ds := [.tup r]) (by simp [getV, cut_tail]) it_tup (by unfold szL; omega) rfl fun d hd' => ?_).trans (by simp)
                    refine ⟨[some (.tup (.str x :: r)), some (.int ((l : Int) + 1)), some (.bl t), none, some d], rfl, ?_, fun _ => by simp [getV]⟩
                    have dd : d.dp ≤ D.dps (.str x :: r) := (dps_le.mp (Nat.le_refl _)) d (List.mem_cons_of_mem _ hd')
                    have := ih (n := n) (S := S) d (fines_mem hd d (List.mem_cons_of_mem _ hd')) (shos_mem hs d (List.mem_cons_of_mem _ hd')) (by omega) (by omega)
                    simp [getV, hs1, this]
                  have q : pr .eq [.lst (r.filter fun d => !lawIs l t d), .lst []] S = .ok (.bl (r.all (lawIs l t))) S := by
                    rw [p_eqNil, filter_emp]
                    rw [dps_le]
                    intro y hy
                    have dd : y.dp ≤ D.dps (.str x :: r) := (dps_le.mp (Nat.le_refl _)) y (List.mem_cons_of_mem _ (List.mem_filter.mp hy).1)
                    omega
                  simp [F_law_is, getV, start, z1, z2, z3, hx, e1, lawIs, hc, q, q1, q2, q3]
              | loc _ => simp at fx
              | scr _ => simp at fx
              | _ => simp [F_law_is, getV, start, z1, z2, z3, lawIs]
            · have z3 : (l : Int) + 1 < 2 := by omega
              have e0 : l = 0 := by omega
              subst e0
              cases x <;> simp [F_law_is, getV, start, z1, z2, lawIs]
          · have z2 : ¬ (r.length : Int) + 1 < 5 := by omega
            cases x <;> simp [F_law_is, getV, start, z1, z2, lawIs, q2]
        · have z1 : ¬ (1 : Int) < (r.length : Int) + 1 := by omega
          cases x <;> simp [F_law_is, getV, start, z1, lawIs, q1]
    | loc _ => simp at hd
    | scr _ => simp at hd
    | _ =>
      obtain ⟨n, rfl⟩ : ∃ k, n = k + 1 := ⟨n - 1, by omega⟩
      rw [run_at h _ _ _ rfl]
      simp [F_law_is, getV, start, lawIs]
end Eng

/-! M4 -/
set_option linter.all false
set_option maxRecDepth 100000
set_option maxHeartbeats 2000000
namespace Eng
variable {P : Nat → Option Fn} {S : Sto} {n : Nat}

/-! the two ways to tell a pattern -/
theorem isS_name (s : List Nat) : lawIsS 1 false s = isName (.str s) 3 := by
  unfold lawIsS isName
  simp only [Bool.and_false, Bool.false_eq_true, if_false]
  rw [Bool.eq_iff_iff]
  simp only [Bool.and_eq_true, decide_eq_true_eq]
  constructor
  · rintro ⟨⟨⟨h1, h2⟩, _⟩, h3⟩
    exact ⟨⟨by omega, by omega⟩, h3⟩
  · rintro ⟨⟨h1, h2⟩, h3⟩
    exact ⟨⟨⟨by omega, by omega⟩, by omega⟩, h3⟩
theorem low_q (r : List Nat) : low (63 :: r) = false := by
  unfold low
  rw [List.all_cons]
  have : decide (63 ∈ LET) = false := by decide
  rw [this] <;> rfl
theorem isS_eq (l : Nat) (h : Bool) (s : List Nat) : lawIsS (l + 1) h s = (isName (.str s) 3 || (h && isHole (.str s))) := by
  cases s with
  | nil => cases h <;> simp [lawIsS, isName, isHole]
  | cons c r =>
    by_cases hc : c = 63
    · subst hc
      have e1 : isName (.str (63 :: r)) 3 = false := by unfold isName; simp [low_q]
      cases h with
      | false =>
        rw [e1]
        unfold lawIsS
        simp [low_q]
      | true =>
        rw [e1]
        unfold lawIsS isHole isName
        rw [Bool.eq_iff_iff]
        simp
        intro _
        omega
    · have e2 : isHole (.str (c :: r)) = false := by
        unfold isHole; split
        · rename_i q; cases q; exact absurd rfl hc
        · rfl
      rw [e2]
      unfold lawIsS isName
      rw [Bool.eq_iff_iff]
      simp [hc]
      omega
theorem pat_is : ∀ (l : Nat) (h : Bool) (d : D), isPat l h d = lawIs l h d
  | 0, h, d => by
    cases d with
    | str s => simp [isPat, lawIs, lawIsS]
    | tup xs => cases xs <;> simp [isPat, lawIs]
    | _ => simp [isPat, lawIs]
  | l + 1, h, d => by
    cases d with
    | str s => simp only [isPat, lawIs]; exact (isS_eq l h s).symm
    | tup xs =>
      cases xs with
      | nil => simp [isPat, lawIs]
      | cons x r =>
        have ih : isPat l h = lawIs l h := funext (pat_is l h)
        cases x with
        | str x =>
          simp only [isPat, lawIs, isS_name, ih]
          cases l with
          | zero =>
            cases r with
            | nil => simp
            | cons y ys =>
              have : lawIs 0 h y = false := by rw [← pat_is 0 h y]; simp [isPat]
              simp [this]
          | succ l => simp
        | _ => simp [isPat, lawIs, isName]
    | _ => simp [isPat, lawIs]

/- a tree: short plain texts, short tuples -/
mutual
def D.tr : D → Bool
  | .str s => decide (s.length ≤ 10) && s.all (fun c => decide (c < 128))
  | .tup xs => decide (xs.length ≤ 10) && D.trs xs
  | _ => false
def D.trs : List D → Bool
  | [] => true
  | x :: xs => x.tr && D.trs xs
end
@[simp] theorem tr_tup' {xs : List D} : (D.tup xs).tr = (decide (xs.length ≤ 10) && D.trs xs) := by simp only [D.tr]
@[simp] theorem tr_str' {s : List Nat} : (D.str s).tr = (decide (s.length ≤ 10) && s.all (fun c => decide (c < 128))) := by simp only [D.tr]
@[simp] theorem trs_nil : D.trs [] = true := by simp only [D.trs]
@[simp] theorem trs_cons {x : D} {xs : List D} : D.trs (x :: xs) = (x.tr && D.trs xs) := by simp only [D.trs]
theorem trs_mem : ∀ {xs : List D}, D.trs xs = true → ∀ x ∈ xs, x.tr = true
  | [], _, x, hx => by simp at hx
  | y :: ys, h, x, hx => by
    simp only [D.trs, Bool.and_eq_true] at h
    rcases List.mem_cons.mp hx with rfl | hx
    · exact h.1
    · exact trs_mem h.2 x hx
theorem trs_of : ∀ {xs : List D}, (∀ x ∈ xs, x.tr = true) → D.trs xs = true
  | [], _ => by simp [D.trs]
  | y :: ys, h => by
    simp only [D.trs, Bool.and_eq_true]
    exact ⟨h y List.mem_cons_self, trs_of fun x hx => h x (List.mem_cons_of_mem _ hx)⟩
mutual
theorem tr_fine : ∀ d : D, d.tr = true → d.fine = true ∧ d.sho = true
  | .str s, h => by simp at h; simp; omega
  | .tup xs, h => by
    simp only [tr_tup', Bool.and_eq_true] at h
    simp only [fine_tup, sho_tup]
    exact trs_fine xs h.2
  | .non, h => by simp [D.tr] at h
  | .bl _, h => by simp [D.tr] at h
  | .int _, h => by simp [D.tr] at h
  | .lst _, h => by simp [D.tr] at h
  | .loc _, h => by simp [D.tr] at h
  | .scr _, h => by simp [D.tr] at h
theorem trs_fine : ∀ xs : List D, D.trs xs = true → D.fines xs = true ∧ D.shos xs = true
  | [], _ => by simp
  | x :: xs, h => by
    simp only [trs_cons, Bool.and_eq_true] at h
    have h1 := tr_fine x h.1
    have h2 := trs_fine xs h.2
    simp [h1.1, h1.2, h2.1, h2.2]
end
theorem pick_tr {a b c d : D} {i : Int} {p : D → Bool} (ha : p a = true) (hb : p b = true) (hc : p c = true) (hd : p d = true) : p (pick4 a b c d i) = true := by
  unfold pick4; split; · exact ha
  split; · exact hb
  split; · exact hc
  exact hd
theorem leaf_tr (c : Int) (h : Bool) : (lawLeaf c h).tr = true ∧ (lawLeaf c h).dp = 0 := by
  unfold lawLeaf
  constructor
  · split <;> exact pick_tr (by decide) (by decide) (by decide) (by decide)
  · have : ∀ d : D, decide (d.dp = 0) = true → d.dp = 0 := fun d h => of_decide_eq_true h
    apply this
    split <;> exact pick_tr (p := fun d => decide (d.dp = 0)) (by simp) (by simp) (by simp) (by simp)
theorem tree_tr : ∀ (l : Nat) (c : Int) (h : Bool), (lawTree l c h).tr = true ∧ (lawTree l c h).dp ≤ l
  | 0, c, h => by have := leaf_tr c h; simp [lawTree, this.1, this.2]
  | 1, c, h => by have := leaf_tr c h; simp [lawTree, this.1, this.2]
  | l + 2, c, h => by
    have := leaf_tr c h
    unfold lawTree
    split
    · exact ⟨this.1, by omega⟩
    · have ih := fun k : Int => tree_tr (l + 1) k h
      have n1 : (lawName c).tr = true := pick_tr (by decide) (by decide) (by decide) (by decide)
      have n2 : (lawName c).dp = 0 := of_decide_eq_true (pick_tr (p := fun d => decide (d.dp = 0)) (by simp) (by simp) (by simp) (by simp))
      have hm : lawMany c ≤ 3 := by unfold lawMany; split; omega; split <;> omega
      constructor
      · simp only [tr_tup', trs_cons, n1, Bool.true_and, Bool.and_eq_true, decide_eq_true_eq]
        refine ⟨by simp; omega, trs_of fun x hx => ?_⟩
        obtain ⟨k, _, rfl⟩ := List.mem_map.mp hx
        exact (ih _).1
      · simp only [dp_tup, dps_cons, n2]
        have : D.dps ((List.range (lawMany c)).map fun (k : Nat) => lawTree (l + 1) (c * 3 + 7 * (k : Int) + 1) h) ≤ l + 1 := by
          rw [dps_le]
          intro x hx
          obtain ⟨k, _, rfl⟩ := List.mem_map.mp hx
          exact (ih _).2
        omega
/-! cuts -/
theorem cut_mem {a : Type} {xs : List a} {lo hi : Option Int} {x : a} (h : x ∈ cut xs lo hi) : x ∈ xs := by
  unfold cut at h
  exact List.mem_of_mem_drop (List.mem_of_mem_take h)
theorem cut_len {a : Type} (xs : List a) (lo hi : Option Int) : (cut xs lo hi).length ≤ xs.length := by
  unfold cut
  simp only [List.length_take, List.length_drop]
  omega
/-- what the law makes of a thing -/
def okD (m : Nat) (d : D) : Prop := d.fine = true ∧ d.sho = true ∧ d.dp ≤ m
theorem okT {m : Nat} {xs : List D} (h : ∀ x ∈ xs, okD m x) : okD (m + 1) (.tup xs) := by
  refine ⟨by simpa using fines_of fun x hx => (h x hx).1, by simpa using shos_of fun x hx => (h x hx).2.1, ?_⟩
  have : D.dps xs ≤ m := dps_le.mpr fun x hx => (h x hx).2.2
  simp; omega
theorem okL {m : Nat} {xs : List D} (h : ∀ x ∈ xs, okD m x) : okD (m + 1) (.lst xs) := by
  refine ⟨by simpa using fines_of fun x hx => (h x hx).1, by simpa using shos_of fun x hx => (h x hx).2.1, ?_⟩
  have : D.dps xs ≤ m := dps_le.mpr fun x hx => (h x hx).2.2
  simp; omega
theorem okD.mono {m k : Nat} {d : D} (h : okD m d) (hk : m ≤ k) : okD k d := ⟨h.1, h.2.1, Nat.le_trans h.2.2 hk⟩
theorem atI_in {a : Type} {xs : List a} {i : Int} (h0 : 0 ≤ i) (h1 : i < xs.length) : ∃ x, atI xs i = some x ∧ x ∈ xs := by
  have hl : i.toNat < xs.length := by omega
  refine ⟨xs[i.toNat], ?_, List.getElem_mem hl⟩
  unfold atI ixN
  rw [if_pos h0, if_pos h1]
  simp [hl]
def oddL0 : List D := [.non, .bl true, .bl false, .int 0, .int 1, .int (-1), .int 2, .int 7, .int 10, .int 1000, .str [], .str [97], .str [65], .tup [], .tup [.str [97]], .lst [.int 1]]
def oddLs (s : List Nat) : List D := [.str (s ++ [97]), .str (cut s none (some (-1))), .str (s.map upC), .str (s ++ [32]), .str (s ++ s), .lst [.str s], .str (s ++ s.take 1)]
def oddLt (xs : List D) : List D := [.lst xs, .tup (xs ++ cut xs (some (-1)) none), .tup (cut xs none (some (-1))), .tup xs.reverse, .tup xs.tail, .tup [.tup xs]]
def oddEnd : List St := [.ret (.pr .idx [.var 3, .call 7 [.var 1, .con (.int 9749), .pr .len [.var 3]]])]
theorem odd_pick (h7 : P 7 = some F_law_mix) (hn : 1 ≤ n) (c : Int) (L : List D) (hL : 0 < L.length) (o0 o2 : Option D) : ∃ x ∈ L, exs (run P n) oddEnd [o0, some (.int c), o2, some (.lst L)] S = .rt x S := by
  have h0 : (0 : Int) < L.length := by omega
  have mx := r_mix (S := S) h7 hn c 9749 L.length (by decide) (by decide) h0
  obtain ⟨x, e, hx⟩ := atI_in (mix_lo c 9749 h0) (mix_hi c 9749 h0)
  exact ⟨x, hx, by simp [oddEnd, getV, mx, e]⟩
theorem ok0 (m : Nat) : ∀ x ∈ oddL0, okD (m + 2) x := by
  intro x hx
  simp only [oddL0, List.mem_cons, List.not_mem_nil, or_false] at hx
  rcases hx with rfl | rfl | rfl | rfl | rfl | rfl | rfl | rfl | rfl | rfl | rfl | rfl | rfl | rfl | rfl | rfl <;> simp [okD]
theorem oddStr (h7 : P 7 = some F_law_mix) (h : P 10 = some F_law_odd) (hn : 2 ≤ n) (s : List Nat) (c : Int) (m : Nat) (hs : s.length ≤ 10) (ha : s.all (fun c => decide (c < 128)) = true) : ∃ r, run P n 10 [.str s, .int c] S = .ok r S ∧ okD (m + 2) r := by
  obtain ⟨n, rfl⟩ : ∃ k, n = k + 1 := ⟨n - 1, by omega⟩
  obtain ⟨x, hx, e⟩ := odd_pick (S := S) h7 (n := n) (by omega) c (oddL0 ++ (oddLs s ++ oddLs s)) (by simp [oddL0]) (some (.str s)) none
  refine ⟨x, ?_, ?_⟩
  · rw [run_at h _ _ _ rfl]
    have a1 : ∀ y : List Nat, y.length ≤ 10 → pr .add [.str s, .str y] S = .ok (.str (s ++ y)) S := fun y hy => p_addS (by unfold szL; omega)
    have a2 := a1 [97] (by simp)
    have a3 := a1 [32] (by simp)
    have a4 := a1 (s.take 1) (by simp; omega)
    have a5 : pr .upper [.str s] S = .ok (.str (s.map upC)) S := gd_y ⟨ha, by omega⟩
    have a6 : pr .mul [.str s, .int 2] S = .ok (.str (s ++ s)) S := by
      show gd (2 ≤ (2 : Int) ∧ (2 : Int) ≤ 1000 ∧ s.length ≤ 1000) _ S = _
      rw [gd_y ⟨by decide, by decide, by omega⟩]
      simp [List.replicate, List.flatten]
    have go : exs (run P n) F_law_odd.body (start F_law_odd.ns [.str s, .int c]) S = exs (run P n) oddEnd [some (.str s), some (.int c), none, some (.lst (oddL0 ++ (oddLs s ++ oddLs s)))] S := by
      simp [-g_addS, -g_mulS, F_law_odd, getV, start, a2, a3, a4, a5, a6, okM, cut_head, oddL0, oddLs, oddEnd, szL, List.replicate, List.flatten]
    rw [go, e]
    simp
  · have f2 : ∀ y ∈ oddLs s, okD (m + 2) y := by
      intro y hy
      have := cut_len s none (some (-1))
      simp only [oddLs, List.mem_cons, List.not_mem_nil, or_false] at hy
      rcases hy with rfl | rfl | rfl | rfl | rfl | rfl | rfl <;> simp [okD] <;> omega
    rcases List.mem_append.mp hx with hx | hx
    · exact ok0 m x hx
    · rcases List.mem_append.mp hx with hx | hx <;> exact f2 x hx
theorem neNil {xs : List D} (h : D.dps xs ≤ 100) : pr .ne [.tup xs, .tup []] S = .ok (.bl (!xs.isEmpty)) S := by
  rw [p_ne (by simp [dpL]; omega) (by simp [dpL])]
  congr 2
  cases xs <;> simp [D.eqv, D.eqvs]
theorem oddTup (h7 : P 7 = some F_law_mix) (h : P 10 = some F_law_odd) (hn : 2 ≤ n) (xs : List D) (c : Int) (m : Nat) (hl : xs.length ≤ 10) (hx : ∀ x ∈ xs, okD m x) (hm : m ≤ 90) (hz : (!xs.isEmpty && decide (0 < lawMix c 9781 5)) = false) : ∃ r, run P n 10 [.tup xs, .int c] S = .ok r S ∧ okD (m + 1 + 2) r := by
  obtain ⟨n, rfl⟩ : ∃ k, n = k + 1 := ⟨n - 1, by omega⟩
  obtain ⟨x, hx', e⟩ := odd_pick (S := S) h7 (n := n) (by omega) c (oddL0 ++ (oddLt xs ++ oddLt xs)) (by simp [oddL0]) (some (.tup xs)) none
  have hne := neNil (S := S) (xs := xs) (dps_le.mpr fun y hy => by have := (hx y hy).2.2; omega)
  have mx := r_mix (S := S) h7 (n := n) (by omega) c 9781 5 (by decide) (by decide) (by decide)
  refine ⟨x, ?_, ?_⟩
  · rw [run_at h _ _ _ rfl]
    have l1 := cut_len xs (some (-1)) none
    have a1 : pr .add [.tup xs, .tup (cut xs (some (-1)) none)] S = .ok (.tup (xs ++ cut xs (some (-1)) none)) S := p_addT (by unfold szL; omega)
    have go : exs (run P n) F_law_odd.body (start F_law_odd.ns [.tup xs, .int c]) S = exs (run P n) oddEnd [some (.tup xs), some (.int c), none, some (.lst (oddL0 ++ (oddLt xs ++ oddLt xs)))] S := by
      cases e1 : xs.isEmpty with
      | true => simp [-g_addT, F_law_odd, getV, start, hne, e1, a1, cut_tail, oddL0, oddLt, oddEnd, szL, List.replicate, List.flatten]
      | false =>
        have e2 : ¬ 0 < lawMix c 9781 5 := by rw [e1] at hz; simpa using hz
        simp [-g_addT, F_law_odd, getV, start, hne, e1, mx, e2, a1, cut_tail, oddL0, oddLt, oddEnd, szL, List.replicate, List.flatten]
    rw [go, e]
    simp
  · have f2 : ∀ y ∈ oddLt xs, okD (m + 1 + 2) y := by
      intro y hy
      simp only [oddLt, List.mem_cons, List.not_mem_nil, or_false] at hy
      rcases hy with rfl | rfl | rfl | rfl | rfl | rfl
      · exact (okL hx).mono (by omega)
      · refine (okT fun z hz => ?_).mono (by omega : m + 1 ≤ _)
        rcases List.mem_append.mp hz with q | q
        · exact hx z q
        · exact hx z (cut_mem q)
      · exact (okT fun z hz => hx z (cut_mem hz)).mono (by omega : m + 1 ≤ _)
      · exact (okT fun z hz => hx z (List.mem_reverse.mp hz)).mono (by omega : m + 1 ≤ _)
      · exact (okT fun z hz => hx z (List.mem_of_mem_tail hz)).mono (by omega : m + 1 ≤ _)
      · exact (okT (m := m + 1) fun z hz => by simp at hz; subst hz; exact okT hx).mono (by omega)
    rcases List.mem_append.mp hx' with q | q
    · exact (ok0 m x q).mono (by omega)
    · rcases List.mem_append.mp q with q | q <;> exact f2 x q
theorem r_odd (h7 : P 7 = some F_law_mix) (h : P 10 = some F_law_odd) : ∀ (m : Nat) {n : Nat} {S : Sto} (d : D) (c : Int), d.tr = true → d.dp ≤ m → m ≤ 90 → m + 2 ≤ n → ∃ r, run P n 10 [d, .int c] S = .ok r S ∧ okD (m + 2) r := by
  intro m
  induction m with
  | zero =>
    intro n S d c hd hp _ hn
    cases d with
    | str s =>
      simp only [tr_str', Bool.and_eq_true, decide_eq_true_eq] at hd
      exact oddStr h7 h (by omega) s c 0 hd.1 hd.2
    | tup xs => simp at hp
    | _ => simp [D.tr] at hd
  | succ m ih =>
    intro n S d c hd hp hm hn
    cases d with
    | str s =>
      simp only [tr_str', Bool.and_eq_true, decide_eq_true_eq] at hd
      exact oddStr h7 h (by omega) s c (m + 1) hd.1 hd.2
    | tup xs =>
      simp only [tr_tup', Bool.and_eq_true, decide_eq_true_eq] at hd
      simp only [dp_tup] at hp
      have hx : ∀ x ∈ xs, okD m x := fun x hx => ⟨(tr_fine x (trs_mem hd.2 x hx)).1, (tr_fine x (trs_mem hd.2 x hx)).2, (dps_le.mp (by omega : D.dps xs ≤ m)) x hx⟩
      by_cases hz : (!xs.isEmpty && decide (0 < lawMix c 9781 5)) = false
      · exact oddTup h7 h (by omega) xs c m hd.1 hx (by omega) hz
      · obtain ⟨n, rfl⟩ : ∃ k, n = k + 1 := ⟨n - 1, by omega⟩
        have hne := neNil (S := S) (xs := xs) (dps_le.mpr fun y hy => by have := (hx y hy).2.2; omega)
        simp only [Bool.not_eq_false, Bool.and_eq_true, Bool.not_eq_true', decide_eq_true_eq] at hz
        obtain ⟨e1, e2⟩ := hz
        have hpos : (0 : Int) < xs.length := by
          cases xs with
          | nil => simp at e1
          | cons _ _ => simp
        have mx := r_mix (S := S) h7 (n := n) (by omega) c 9781 5 (by decide) (by decide) (by decide)
        have mx2 := r_mix (S := S) h7 (n := n) (by omega) c 9769 xs.length (by decide) (by decide) hpos
        have lo := mix_lo c 9769 hpos
        have hi := mix_hi c 9769 hpos
        generalize lawMix c 9769 xs.length = k at mx2 lo hi
        obtain ⟨y, ey, hy⟩ := atI_in lo hi
        obtain ⟨r, er, hr⟩ := ih (n := n) (S := S) y (c + 31 * k + 7) (trs_mem hd.2 y hy) (hx y hy).2.2 (by omega) (by omega)
        have l1 := cut_len xs none (some k)
        have l2 := cut_len xs (some (k + 1)) none
        have g1 : pr .mul [.int 31, .int k] S = .ok (.int (31 * k)) S := p_mulI (.inl (by omega))
        have a1 : pr .add [.tup (cut xs none (some k)), .tup [r]] S = .ok (.tup (cut xs none (some k) ++ [r])) S := p_addT (by unfold szL; simp; omega)
        have a2 : pr .add [.tup (cut xs none (some k) ++ [r]), .tup (cut xs (some (k + 1)) none)] S = .ok (.tup (cut xs none (some k) ++ [r] ++ cut xs (some (k + 1)) none)) S := p_addT (by unfold szL; simp; omega)
        refine ⟨.tup (cut xs none (some k) ++ [r] ++ cut xs (some (k + 1)) none), ?_, ?_⟩
        · rw [run_at h _ _ _ rfl]
          simp [-g_addT, -g_mulI, F_law_odd, getV, start, hne, e1, mx, e2, mx2, ey, er, g1, a1, a2]
        · refine okT fun z hz => ?_
          simp only [List.mem_append, List.mem_cons, List.not_mem_nil, or_false] at hz
          rcases hz with (q | q) | q
          · exact (hx z (cut_mem q)).mono (by omega)
          · subst q; exact hr
          · exact (hx z (cut_mem q)).mono (by omega)
    | _ => simp [D.tr] at hd
end Eng

/-! H01 -/
set_option Elab.async false
set_option linter.all false
set_option maxRecDepth 100000
set_option maxHeartbeats 0
namespace Eng.K01
open PySem PySem.Spec PyProof.Rows L2
def top (i : Nat) : Stmt := PySem.Challenge.pw_mendrules_k01_terms.main.body.getD i (.Pass ⟨0, 0, 0, 0⟩)
def ge : GE := ⟨[("DEEPEST", .int 5), ("LETTERS", .str [97, 98, 99, 100, 101, 102, 103, 104, 105, 106, 107, 108, 109, 110, 111, 112, 113, 114, 115, 116, 117, 118, 119, 120, 121, 122])], [("is_name", (1, 2)), ("is_hole", (2, 1)), ("is_pattern_at", (3, 3)), ("is_term", (4, 1)), ("is_pattern", (5, 1)), ("_law_cell", (6, 2)), ("_law_mix", (7, 3)), ("_law_leaf", (8, 2)), ("_law_tree", (9, 3)), ("_law_odd", (10, 2)), ("_law_is", (11, 3)), ("law", (12, 1))], []⟩
def Pt : Nat → Option Fn := fun i => if i = 1 then some F_is_name else if i = 2 then some F_is_hole else if i = 3 then some F_is_pattern_at else if i = 4 then some F_is_term else if i = 5 then some F_is_pattern else if i = 6 then some F_law_cell else if i = 7 then some F_law_mix else if i = 8 then some F_law_leaf else if i = 9 then some F_law_tree else if i = 10 then some F_law_odd else if i = 11 then some F_law_is else if i = 12 then some F_law else none
def d_is_name : Df := ⟨"is_name", 1, top 3, ["thing", "most"], ["thing", "most", "sign"], [], F_is_name⟩
theorem ok_is_name : DfOk ge d_is_name := ⟨by kernel_rfl, rfl, rfl, by kernel_rfl, fun _ _ _ _ _ _ us hl => match us, hl with | [_, _], _ => rfl⟩
def d_is_hole : Df := ⟨"is_hole", 2, top 4, ["thing"], ["thing"], [], F_is_hole⟩
theorem ok_is_hole : DfOk ge d_is_hole := ⟨by kernel_rfl, rfl, rfl, by kernel_rfl, fun _ _ _ _ _ _ us hl => match us, hl with | [_], _ => rfl⟩
def d_is_pattern_at : Df := ⟨"is_pattern_at", 3, top 5, ["thing", "left", "has_holes"], ["thing", "left", "has_holes", "part"], [], F_is_pattern_at⟩
theorem ok_is_pattern_at : DfOk ge d_is_pattern_at := ⟨by kernel_rfl, rfl, rfl, by kernel_rfl, fun _ _ _ _ _ _ us hl => match us, hl with | [_, _, _], _ => rfl⟩
def d_is_term : Df := ⟨"is_term", 4, top 6, ["thing"], ["thing"], [], F_is_term⟩
theorem ok_is_term : DfOk ge d_is_term := ⟨by kernel_rfl, rfl, rfl, by kernel_rfl, fun _ _ _ _ _ _ us hl => match us, hl with | [_], _ => rfl⟩
def d_is_pattern : Df := ⟨"is_pattern", 5, top 7, ["thing"], ["thing"], [], F_is_pattern⟩
theorem ok_is_pattern : DfOk ge d_is_pattern := ⟨by kernel_rfl, rfl, rfl, by kernel_rfl, fun _ _ _ _ _ _ us hl => match us, hl with | [_], _ => rfl⟩
def d__law_cell : Df := ⟨"_law_cell", 6, top 9, ["script", "k"], ["script", "k"], [], F_law_cell⟩
theorem ok__law_cell : DfOk ge d__law_cell := ⟨by kernel_rfl, rfl, rfl, by kernel_rfl, fun _ _ _ _ _ _ us hl => match us, hl with | [_, _], _ => rfl⟩
def d__law_mix : Df := ⟨"_law_mix", 7, top 10, ["cell", "prime", "many"], ["cell", "prime", "many", "blend"], [], F_law_mix⟩
theorem ok__law_mix : DfOk ge d__law_mix := ⟨by kernel_rfl, rfl, rfl, by kernel_rfl, fun _ _ _ _ _ _ us hl => match us, hl with | [_, _, _], _ => rfl⟩
def d__law_leaf : Df := ⟨"_law_leaf", 8, top 11, ["cell", "has_holes"], ["cell", "has_holes"], [], F_law_leaf⟩
theorem ok__law_leaf : DfOk ge d__law_leaf := ⟨by kernel_rfl, rfl, rfl, by kernel_rfl, fun _ _ _ _ _ _ us hl => match us, hl with | [_, _], _ => rfl⟩
def d__law_tree : Df := ⟨"_law_tree", 9, top 12, ["cell", "left", "has_holes"], ["cell", "left", "has_holes", "way", "name", "gotten", "k"], [], F_law_tree⟩
theorem ok__law_tree : DfOk ge d__law_tree := ⟨by kernel_rfl, rfl, rfl, by kernel_rfl, fun _ _ _ _ _ _ us hl => match us, hl with | [_, _, _], _ => rfl⟩
def d__law_odd : Df := ⟨"_law_odd", 10, top 18, ["thing", "cell"], ["thing", "cell", "spot", "some"], [], F_law_odd⟩
theorem ok__law_odd : DfOk ge d__law_odd := ⟨by kernel_rfl, rfl, rfl, by kernel_rfl, fun _ _ _ _ _ _ us hl => match us, hl with | [_, _], _ => rfl⟩
def d__law_is : Df := ⟨"_law_is", 11, top 19, ["thing", "left", "has_holes"], ["thing", "left", "has_holes", "sign", "part"], [], F_law_is⟩
theorem ok__law_is : DfOk ge d__law_is := ⟨by kernel_rfl, rfl, rfl, by kernel_rfl, fun _ _ _ _ _ _ us hl => match us, hl with | [_, _, _], _ => rfl⟩
def d_law : Df := ⟨"law", 12, top 20, ["script"], ["script", "k", "cell", "one", "other", "some", "j", "thing", "said", "due"], ["some"], F_law⟩
theorem ok_law : DfOk ge d_law := ⟨by kernel_rfl, rfl, rfl, by kernel_rfl, fun _ _ _ _ _ _ us hl => match us, hl with | [_], _ => rfl⟩
def fn : List He.DefD := [⟨("is_name", none), "is_name", "is_name", defArgs (top 3), defBody (top 3), defScope (top 3), [], []⟩, ⟨("is_hole", none), "is_hole", "is_hole", defArgs (top 4), defBody (top 4), defScope (top 4), [], []⟩, ⟨("is_pattern_at", none), "is_pattern_at", "is_pattern_at", defArgs (top 5), defBody (top 5), defScope (top 5), [], []⟩, ⟨("is_term", none), "is_term", "is_term", defArgs (top 6), defBody (top 6), defScope (top 6), [], []⟩, ⟨("is_pattern", none), "is_pattern", "is_pattern", defArgs (top 7), defBody (top 7), defScope (top 7), [], []⟩, ⟨("_law_cell", none), "_law_cell", "_law_cell", defArgs (top 9), defBody (top 9), defScope (top 9), [], []⟩, ⟨("_law_mix", none), "_law_mix", "_law_mix", defArgs (top 10), defBody (top 10), defScope (top 10), [], []⟩, ⟨("_law_leaf", none), "_law_leaf", "_law_leaf", defArgs (top 11), defBody (top 11), defScope (top 11), [], []⟩, ⟨("_law_tree", none), "_law_tree", "_law_tree", defArgs (top 12), defBody (top 12), defScope (top 12), [], []⟩, ⟨("_law_odd", none), "_law_odd", "_law_odd", defArgs (top 18), defBody (top 18), defScope (top 18), [], []⟩, ⟨("_law_is", none), "_law_is", "_law_is", defArgs (top 19), defBody (top 19), defScope (top 19), [], []⟩, ⟨("law", none), "law", "law", defArgs (top 20), defBody (top 20), defScope (top 20), [], []⟩]
def fa : List He.Fa := [.glo "is_name", .glo "is_hole", .glo "is_pattern_at", .glo "is_term", .glo "is_pattern", .glo "_law_cell", .glo "_law_mix", .glo "_law_leaf", .glo "_law_tree", .glo "_law_odd", .glo "_law_is", .glo "law", .free "len", .free "all", .free "any", .free "sum", .free "tuple", .free "list", .free "int", .free "max", .free "min", .free "str", .free "bool", .free "isinstance", .free "range", .free "enumerate", .free "zip", .free "sorted", .free "set", .free "dict", .int "DEEPEST" 5, .str "LETTERS" "abcdefghijklmnopqrstuvwxyz"]
abbrev R : PySem.W.OpenRow := PySem.W.OpenLaw.row PySem.Challenge.rw_mendrules_k01_terms
abbrev hk : PySem.W.Hook := He.hookD 4 fa fn
def ob (s : PySem.W.SharedT) : He.AlD := He.obsDG 4 fa fn (HandSHeadRun.getT s)
theorem ob_eq (s : PySem.W.SharedT) : ob s = hk.obs s.abs := He.obsDG_eq (HandSHeadRun.getT_eq s)
theorem hrun (w : World) : HandSHeadRun.RunEq R (PySem.W.view R.prog [20]) hk ob 1240 ["LETTERS", "DEEPEST", "is_name", "is_hole", "is_pattern_at", "is_term", "is_pattern", "_law_cell", "_law_mix", "_law_leaf", "_law_tree", "_law_holes", "_law_fill", "_law_match", "_law_ways", "_law_put", "_law_odd", "_law_is"] w := by
  intro os
  kernel_rfl
theorem has {K : PySem.W.Frag} {h : Heap} {mg : Str → Option Value} (X : K.In h) (G : h.Ns mainGlobals mg) (c : He.SaysD fa fn K) : Has ge Pt K mg := by
  refine ⟨fun x d e => ?_, fun x hx => ?_, fun x i ar e => ?_⟩
  · unfold ge at e
    simp only [List.lookup_cons, List.lookup_nil] at e
    split at e
    · rename_i hx
      cases e
      have hx := eq_of_beq hx; subst hx
      obtain ⟨t, ht⟩ := He.int_ok X G (c.fact 30 (f := .int "DEEPEST" 5) rfl)
      exact ⟨.int 5, _, ht, ⟨_, rfl⟩, fun w => by simp only [RD]⟩
    split at e
    · rename_i hx
      cases e
      have hx := eq_of_beq hx; subst hx
      obtain ⟨t, ht⟩ := He.str_ok X G (c.fact 31 (f := .str "LETTERS" "abcdefghijklmnopqrstuvwxyz") rfl)
      exact ⟨.str "abcdefghijklmnopqrstuvwxyz", _, ht, ⟨_, rfl⟩, fun w => by simp only [RD]; exact ⟨by congr 1, by decide, by decide⟩⟩
    · cases e
  · have key : ∀ (y : Str), He.Fa.free y ∈ fa → mg y = none := fun y hy => by
      obtain ⟨j, hj⟩ := List.mem_iff_getElem?.mp hy
      exact He.free_ok X G (c.fact j hj)
    simp only [BN, List.mem_cons, List.not_mem_nil, or_false] at hx
    rcases hx with rfl | rfl | rfl | rfl | rfl | rfl | rfl | rfl | rfl | rfl | rfl | rfl | rfl | rfl | rfl | rfl | rfl | rfl
    all_goals (apply key; simp [fa])
  · unfold ge at e
    simp only [List.lookup_cons, List.lookup_nil] at e
    split at e
    · rename_i hx
      cases e
      have hx := eq_of_beq hx; subst hx
      obtain ⟨fd, F⟩ := c.def_ 0 (d := ⟨("is_name", none), "is_name", "is_name", defArgs (top 3), defBody (top 3), defScope (top 3), [], []⟩) rfl
      exact ⟨d_is_name, _, fd, ok_is_name, rfl, rfl, rfl, He.glo_ok X G (c.fact 0 (f := .glo "is_name") rfl), F⟩
    split at e
    · rename_i hx
      cases e
      have hx := eq_of_beq hx; subst hx
      obtain ⟨fd, F⟩ := c.def_ 1 (d := ⟨("is_hole", none), "is_hole", "is_hole", defArgs (top 4), defBody (top 4), defScope (top 4), [], []⟩) rfl
      exact ⟨d_is_hole, _, fd, ok_is_hole, rfl, rfl, rfl, He.glo_ok X G (c.fact 1 (f := .glo "is_hole") rfl), F⟩
    split at e
    · rename_i hx
      cases e
      have hx := eq_of_beq hx; subst hx
      obtain ⟨fd, F⟩ := c.def_ 2 (d := ⟨("is_pattern_at", none), "is_pattern_at", "is_pattern_at", defArgs (top 5), defBody (top 5), defScope (top 5), [], []⟩) rfl
      exact ⟨d_is_pattern_at, _, fd, ok_is_pattern_at, rfl, rfl, rfl, He.glo_ok X G (c.fact 2 (f := .glo "is_pattern_at") rfl), F⟩
    split at e
    · rename_i hx
      cases e
      have hx := eq_of_beq hx; subst hx
      obtain ⟨fd, F⟩ := c.def_ 3 (d := ⟨("is_term", none), "is_term", "is_term", defArgs (top 6), defBody (top 6), defScope (top 6), [], []⟩) rfl
      exact ⟨d_is_term, _, fd, ok_is_term, rfl, rfl, rfl, He.glo_ok X G (c.fact 3 (f := .glo "is_term") rfl), F⟩
    split at e
    · rename_i hx
      cases e
      have hx := eq_of_beq hx; subst hx
      obtain ⟨fd, F⟩ := c.def_ 4 (d := ⟨("is_pattern", none), "is_pattern", "is_pattern", defArgs (top 7), defBody (top 7), defScope (top 7), [], []⟩) rfl
      exact ⟨d_is_pattern, _, fd, ok_is_pattern, rfl, rfl, rfl, He.glo_ok X G (c.fact 4 (f := .glo "is_pattern") rfl), F⟩
    split at e
    · rename_i hx
      cases e
      have hx := eq_of_beq hx; subst hx
      obtain ⟨fd, F⟩ := c.def_ 5 (d := ⟨("_law_cell", none), "_law_cell", "_law_cell", defArgs (top 9), defBody (top 9), defScope (top 9), [], []⟩) rfl
      exact ⟨d__law_cell, _, fd, ok__law_cell, rfl, rfl, rfl, He.glo_ok X G (c.fact 5 (f := .glo "_law_cell") rfl), F⟩
    split at e
    · rename_i hx
      cases e
      have hx := eq_of_beq hx; subst hx
      obtain ⟨fd, F⟩ := c.def_ 6 (d := ⟨("_law_mix", none), "_law_mix", "_law_mix", defArgs (top 10), defBody (top 10), defScope (top 10), [], []⟩) rfl
      exact ⟨d__law_mix, _, fd, ok__law_mix, rfl, rfl, rfl, He.glo_ok X G (c.fact 6 (f := .glo "_law_mix") rfl), F⟩
    split at e
    · rename_i hx
      cases e
      have hx := eq_of_beq hx; subst hx
      obtain ⟨fd, F⟩ := c.def_ 7 (d := ⟨("_law_leaf", none), "_law_leaf", "_law_leaf", defArgs (top 11), defBody (top 11), defScope (top 11), [], []⟩) rfl
      exact ⟨d__law_leaf, _, fd, ok__law_leaf, rfl, rfl, rfl, He.glo_ok X G (c.fact 7 (f := .glo "_law_leaf") rfl), F⟩
    split at e
    · rename_i hx
      cases e
      have hx := eq_of_beq hx; subst hx
      obtain ⟨fd, F⟩ := c.def_ 8 (d := ⟨("_law_tree", none), "_law_tree", "_law_tree", defArgs (top 12), defBody (top 12), defScope (top 12), [], []⟩) rfl
      exact ⟨d__law_tree, _, fd, ok__law_tree, rfl, rfl, rfl, He.glo_ok X G (c.fact 8 (f := .glo "_law_tree") rfl), F⟩
    split at e
    · rename_i hx
      cases e
      have hx := eq_of_beq hx; subst hx
      obtain ⟨fd, F⟩ := c.def_ 9 (d := ⟨("_law_odd", none), "_law_odd", "_law_odd", defArgs (top 18), defBody (top 18), defScope (top 18), [], []⟩) rfl
      exact ⟨d__law_odd, _, fd, ok__law_odd, rfl, rfl, rfl, He.glo_ok X G (c.fact 9 (f := .glo "_law_odd") rfl), F⟩
    split at e
    · rename_i hx
      cases e
      have hx := eq_of_beq hx; subst hx
      obtain ⟨fd, F⟩ := c.def_ 10 (d := ⟨("_law_is", none), "_law_is", "_law_is", defArgs (top 19), defBody (top 19), defScope (top 19), [], []⟩) rfl
      exact ⟨d__law_is, _, fd, ok__law_is, rfl, rfl, rfl, He.glo_ok X G (c.fact 10 (f := .glo "_law_is") rfl), F⟩
    split at e
    · rename_i hx
      cases e
      have hx := eq_of_beq hx; subst hx
      obtain ⟨fd, F⟩ := c.def_ 11 (d := ⟨("law", none), "law", "law", defArgs (top 20), defBody (top 20), defScope (top 20), [], []⟩) rfl
      exact ⟨d_law, _, fd, ok_law, rfl, rfl, rfl, He.glo_ok X G (c.fact 11 (f := .glo "law") rfl), F⟩
    · cases e
theorem facts {P : Program} {w : World} {K : PySem.W.Frag} {h : Heap} {mg : Str → Option Value} {f : Addr} (X : K.In h) (G : h.Ns mainGlobals mg) (hfa : mg ("law" : Str) = some (.ref f)) (c : He.SaysD fa fn K) :
    ∃ fd : FuncData, (∀ (s : Shared) (v : Value), BindsTo s fd ⟨[v], []⟩ [("script", v)]) ∧ ∀ base : Heap, K.In base → base.Ns mainGlobals mg → FnOk P w K mg base L2.CX0 230 f fd ["script"] (fun vs H Q _ => spF (fun _ => .none) K 1 (run Pt 230 12) vs H Q fun _ _ _ => False) := by
  have H := has X G c
  obtain ⟨fd, F⟩ := c.def_ 11 (d := ⟨("law", none), "law", "law", defArgs (top 20), defBody (top 20), defScope (top 20), [], []⟩) rfl
  have e := hfa.symm.trans (He.glo_ok X G (c.fact 11 (f := .glo "law") rfl))
  cases e
  have b := FunD.bindsA (ps := ["script"]) F ok_law.bnd
  exact ⟨fd, fun s v => b s [v] rfl, fun base _ _ => fn_quiet (def_ok (kx := fun _ => .none) H 230 d_law _ fd ok_law rfl F)⟩
theorem closing (hlaw : ∀ ns : List Int, ns.length ≤ 63 → run Pt 230 12 [.scr ns] [] = .ok (.bl true) []) : PySem.Challenge.rw_mendrules_k01_terms.Holds := by
  w_on; o_law
  refine HandSHeadRun.head_any (r := PySem.W.OpenLaw.row PySem.Challenge.rw_mendrules_k01_terms) (q := PySem.W.view (PySem.W.OpenLaw.row PySem.Challenge.rw_mendrules_k01_terms).prog [20]) (H := hk) (ob := ob) (M := 1240) (loose := ["LETTERS", "DEEPEST", "is_name", "is_hole", "is_pattern_at", "is_term", "is_pattern", "_law_cell", "_law_mix", "_law_leaf", "_law_tree", "_law_holes", "_law_fill", "_law_match", "_law_ways", "_law_put", "_law_odd", "_law_is"]) (d := HandSHeadRun.topDef (PySem.W.OpenLaw.row PySem.Challenge.rw_mendrules_k01_terms).prog 20) (kwd := []) ob_eq
    (by kernel_rfl) (fun s => by kernel_rfl) hrun (by kernel_rfl) (by kernel_rfl) (by kernel_rfl) (by rfl) (by first | assumption | decide +kernel) (by decide +kernel) ⟨rfl, rfl, rfl, rfl, rfl, by decide +kernel⟩ ?hw ?hc
  case hw => w_witness2
  case hc =>
    refine L2.walk_ofE (l := PySem.Challenge.rw_mendrules_k01_terms) (n := 63) (k := 230) (x := "script") (CX := L2.CX0) rfl (by decide) (by kernel_rfl) ⟨rfl, by decide, by decide⟩ ?F (fun _ _ _ _ z => z)
    intro w mg fa h Y G hmg0
    obtain ⟨K, KX, c⟩ := Y
    have hmg : mg ("law" : PySem.Str) = some (.ref fa) := by
      have e : (HandSHeadRun.topDef (PySem.W.OpenLaw.row PySem.Challenge.rw_mendrules_k01_terms).prog 20).name = ("law" : PySem.Str) := by kernel_rfl
      rw [← e]
      exact hmg0
    obtain ⟨fd, hb, hF⟩ := facts (P := (PySem.Challenge.rw_mendrules_k01_terms).prog) (w := w) KX G hmg c
    exact ⟨K, fd, fun vs H Q _ => spF (fun _ => .none) K 1 (run Pt 230 12) vs H Q fun _ _ _ => False, KX, hb, fun H a ns hl hO hS => law_sp hO hS (hlaw ns hl), hF⟩
end Eng.K01

/-! L01 -/
set_option linter.all false
set_option maxRecDepth 100000
set_option maxHeartbeats 4000000
namespace Eng
variable {n : Nat}
theorem exs_step {G : Nat → List D → Sto → Res D} {t : St} {ts : List St} {s s1 : Env} {S S1 : Sto} (h : ex G t s S = .nx s1 S1) : exs G (t :: ts) s S = exs G ts s1 S1 := by rw [exs_cons, h]
theorem forL_ix {b : D → Env → Option Env} {f : Env → Sto → Out} {k : Sto → Bool} (I : Nat → Env → Sto → Prop) : ∀ (ds : List D) (i : Nat), (∀ d ∈ ds, ∀ j s S, j < i + ds.length → I j s S → ∃ s1, b d s = some s1 ∧ ∃ s2 S2, f s1 S = .nx s2 S2 ∧ I (j + 1) s2 S2 ∧ k S2 = true) → ∀ s S, I i s S → ∃ s' S', forL b f k ds s S = .nx s' S' ∧ I (i + ds.length) s' S'
  | [], i, _, s, S, h => ⟨s, S, rfl, h⟩
  | d :: ds, i, h, s, S, hI => by
    obtain ⟨s1, e1, s2, S2, e2, i2, k2⟩ := h d List.mem_cons_self i s S (by simp) hI
    obtain ⟨s', S', e3, i3⟩ := forL_ix I ds (i + 1) (fun d hd j s S hj => h d (List.mem_cons_of_mem _ hd) j s S (by simp at hj ⊢; omega)) s2 S2 i2
    exact ⟨s', S', by simp only [forL, e1, e2, k2, if_true]; exact e3, by simpa [Nat.add_assoc, Nat.add_comm 1] using i3⟩
theorem ex_addM {G : Nat → List D → Sto → Res D} {i : Nat} {es : List E} {s : Env} {S : Sto} {m : Nat} {A B : List D} (hs : s[i]? = some (some (.loc m))) (hm : S[m]? = some (.lst A)) (he : evs G es s S = .ok B S) (hl : A.length + B.length ≤ szL) :
    ex G (.setM i (.pr .add [.var i, .lst es])) s S = .nx (s.set i (some (.loc S.length))) (S ++ [.lst (A ++ B)]) := by
  have e := p_addL (S := S) (a := .loc m) (b := .lst B) (rs_loc hm) rfl hl
  simp [getV, hs, he, e]
section
variable {P : Nat → Option Fn} (h1 : P 1 = some F_is_name) (h2 : P 2 = some F_is_hole) (h3 : P 3 = some F_is_pattern_at) (h4 : P 4 = some F_is_term) (h5 : P 5 = some F_is_pattern) (h6 : P 6 = some F_law_cell) (h7 : P 7 = some F_law_mix) (h8 : P 8 = some F_law_leaf)
  (h9 : P 9 = some F_law_tree) (h10 : P 10 = some F_law_odd) (h11 : P 11 = some F_law_is) (h12 : P 12 = some F_law)
include h1 h2 h3 h4 h5 h11
theorem k01_thing (hn : 10 ≤ n) (o0 o1 o2 o3 o4 o5 o6 o8 o9 : Option D) (d : D) (S : Sto) (hd : okD 20 d) :
    ∃ o8' o9', exs (run P n) [.for [8, 9] true .seq [.tup [.tup [.call 4 [.var 7], .call 11 [.var 7, .con (.int 5), .con (.bl false)]], .tup [.call 5 [.var 7], .call 11 [.var 7, .con (.int 5), .con (.bl true)]]]] [.ite (.or (.and (.pr (.isntc (.bl true)) [.var 8]) (.var 9)) (.and (.pr (.isntc (.bl false)) [.var 8]) (.pr .not [.var 9]))) [.ret (.con (.bl false))] []]]
      [o0, o1, o2, o3, o4, o5, o6, some d, o8, o9] S = .nx [o0, o1, o2, o3, o4, o5, o6, some d, o8', o9'] S := by
  have a1 := r_term (S := S) (n := n) h1 h2 h3 h4 (by omega) d hd.1
  have a2 := r_pattern (S := S) (n := n) h1 h2 h3 h5 (by omega) d hd.1
  have a3 : run P n 11 [d, .int 5, .bl false] S = _ := r_is h11 false 5 (S := S) (n := n) d hd.1 hd.2.1 (by have := hd.2.2; omega) (by omega)
  have a4 : run P n 11 [d, .int 5, .bl true] S = _ := r_is h11 true 5 (S := S) (n := n) d hd.1 hd.2.1 (by have := hd.2.2; omega) (by omega)
  rw [pat_is] at a1 a2
  refine ⟨some (.bl (lawIs 5 true d)), some (.bl (lawIs 5 true d)), ?_⟩
  cases e1 : lawIs 5 false d <;> cases e2 : lawIs 5 true d <;> simp [ex_for, getV, a1, a2, a3, a4, e1, e2, forL, bindT, sets]
include h6 h7 h8 h9 h10 h12
/-- one turn of the law -/
theorem k01_turn (hn : 19 ≤ n) (ns : List Int) (k : Nat) (o2 o3 o4 o5 o6 o7 o8 o9 : Option D) (S : Sto) : ∃ s2 S2, exs (run P n) (match F_law.body.headD .pass with | .for _ _ _ _ b => b | _ => []) [some (.scr ns), some (.int k), o2, o3, o4, o5, o6, o7, o8, o9] S = .nx s2 S2 ∧ ∃ o1 o2 o3 o4 o5 o6 o7 o8 o9, s2 = [some (.scr ns), o1, o2, o3, o4, o5, o6, o7, o8, o9] := by
  have t5 : ∀ (c : Int) (t : Bool) (S : Sto), run P n 9 [.int c, .int 5, .bl t] S = .ok (lawTree 5 c t) S := fun c t S => r_tree h7 h8 h9 4 c t (by omega)
  have cl : ∀ (k : Nat) (S : Sto), run P n 6 [.scr ns, .int k] S = .ok (.int (lawCell ns k)) S := fun k S => r_cell h6 (by omega) ns k
  have c9 : ∀ S : Sto, run P n 6 [.scr ns, .int 9] S = .ok (.int (lawCell ns 9)) S := fun S => cl 9 S
  have hk' : (k : Int) % 9 = ((k % 9 : Nat) : Int) := by omega
  have g1 : ∀ (j : Int) (S : Sto), pr .mul [.int 31, .int j] S = .ok (.int (31 * j)) S := fun j S => p_mulI (.inl (by omega))
  have g2 : ∀ (j : Int) (S : Sto), pr .mul [.int 17, .int j] S = .ok (.int (17 * j)) S := fun j S => p_mulI (.inl (by omega))
  have g3 : ∀ (j : Int) (S : Sto), pr .mul [.int 19, .int j] S = .ok (.int (19 * j)) S := fun j S => p_mulI (.inl (by omega))
  have g4 : ∀ (j : Int) (S : Sto), pr .mul [.int 5, .int j] S = .ok (.int (5 * j)) S := fun j S => p_mulI (.inl (by omega))
  have ck : run P n 6 [.scr ns, .int ((k : Int) % 9)] S = .ok (.int (lawCell ns (k % 9))) S := by rw [hk']; exact cl _ _
  simp only [F_law, List.headD_cons]
  -- cell
  rw [exs_step (s1 := [some (.scr ns), some (.int k), some (.int (lawCell ns (k % 9) + 31 * (k : Int))), o3, o4, o5, o6, o7, o8, o9]) (S1 := S) (by simp [-g_mulI, getV, ck, g1])]
  generalize lawCell ns (k % 9) + 31 * (k : Int) = c
  -- the two trees
  rw [exs_step (s1 := [some (.scr ns), some (.int k), some (.int c), some (lawTree 5 c false), some (lawTree 5 (c + 1) true), o5, o6, o7, o8, o9]) (S1 := S) (by simp [getV, t5, sets])]
  have T1 := tree_tr 5 c false
  have T2 := tree_tr 5 (c + 1) true
  generalize lawTree 5 c false = one at T1
  generalize lawTree 5 (c + 1) true = other at T2
  have K1 : okD 5 one := ⟨(tr_fine _ T1.1).1, (tr_fine _ T1.1).2, T1.2⟩
  have K2 : okD 5 other := ⟨(tr_fine _ T2.1).1, (tr_fine _ T2.1).2, T2.2⟩
  -- the list
  let A1 : List D := [one, other, .tup [.str [102], one], .tup [.str [103], .tup [.str [102], .tup [.str [102], .tup [.str [102], other]]]]]
  let A2 : List D := [.tup [.str [102]], .tup [.str [102], .str [97], .str [97], .str [97], .str [97]], .tup [.str [102], .str [97], .str [97], .str [97]], .tup [.str [63, 120], .str [97]]]
  let A3 : List D := [.str [], .str [97, 98, 99, 100], .str [63], .str [63, 97, 98, 99], .str [63, 97, 98], .str [65], .str [97, 32, 98]]
  let A4 : List D := [.tup [.str [108, 111, 110, 103], .str [97]], .tup [.str [102, 102, 102], .str [97]], .tup [.tup [.str [102], .str [97]], .str [97]]]
  let A5 : List D := [.non, .tup [.str [102], .non], .lst [.str [102], .str [97]]]
  let B := A1 ++ A2 ++ A3 ++ A4 ++ A5
  have lB : B.length = 21 := rfl
  rw [exs_step (s1 := [some (.scr ns), some (.int k), some (.int c), some one, some other, some (.loc S.length), o6, o7, o8, o9]) (S1 := S ++ [.lst A1]) (by simp [getV, A1])]
  have step : ∀ (S : Sto) (m : Nat) (A B : List D) (es : List E) (ts : List St), S[m]? = some (.lst A) → evs (run P n) es [some (.scr ns), some (.int k), some (.int c), some one, some other, some (.loc m), o6, o7, o8, o9] S = .ok B S → A.length + B.length ≤ szL →
      exs (run P n) (.setM 5 (.pr .add [.var 5, .lst es]) :: ts) [some (.scr ns), some (.int k), some (.int c), some one, some other, some (.loc m), o6, o7, o8, o9] S = exs (run P n) ts [some (.scr ns), some (.int k), some (.int c), some one, some other, some (.loc S.length), o6, o7, o8, o9] (S ++ [.lst (A ++ B)]) := by
    intro S m A B es ts e1 e2 e3
    rw [exs_step (ex_addM rfl e1 e2 e3)]
    rfl
  have last : ∀ (S : Sto) (m : MO), (S ++ [m])[S.length]? = some m := fun S m => by simp
  rw [step _ _ A1 A2 _ _ (last _ _) (by simp [A2]) (Nat.le_of_ble_eq_true rfl)]
  rw [step _ _ (A1 ++ A2) A3 _ _ (last _ _) (by simp [A3]) (Nat.le_of_ble_eq_true rfl)]
  rw [step _ _ (A1 ++ A2 ++ A3) A4 _ _ (last _ _) (by simp [A4]) (Nat.le_of_ble_eq_true rfl)]
  rw [step _ _ (A1 ++ A2 ++ A3 ++ A4) A5 _ _ (last _ _) (by simp [A5]) (Nat.le_of_ble_eq_true rfl)]
  have okB : ∀ x ∈ B, okD 20 x := by
    have f1 := K1.1
    have f2 := K1.2.1
    have f3 := K1.2.2
    have k1 := K2.1
    have k2 := K2.2.1
    have k3 := K2.2.2
    intro x hx
    simp only [B, A1, A2, A3, A4, A5, List.cons_append, List.nil_append, List.mem_cons, List.not_mem_nil, or_false] at hx
    rcases hx with rfl | rfl | rfl | rfl | rfl | rfl | rfl | rfl | rfl | rfl | rfl | rfl | rfl | rfl | rfl | rfl | rfl | rfl | rfl | rfl | rfl <;> simp [okD, f1, f2, k1, k2] <;> omega
  generalize hS5 : S ++ [MO.lst A1] ++ [MO.lst (A1 ++ A2)] ++ [MO.lst (A1 ++ A2 ++ A3)] ++ [MO.lst (A1 ++ A2 ++ A3 ++ A4)] = S4
  generalize hS : S4 ++ [MO.lst (A1 ++ A2 ++ A3 ++ A4 ++ A5)] = S5
  have h55 : S5[S4.length]? = some (.lst B) := by rw [← hS]; exact last _ _
  generalize S4.length = m at h55
  have lenB : B.length ≤ 1000 := by rw [lB]; decide
  clear_value B
  -- the odd ones
  have odd : ∃ o6' S6 A, ex (run P n) (.for [6] false .rng [.con (.int 16)] [.expr (.mth .app (.var 5) [.call 10 [.var 3, .pr .add [.pr .add [.call 6 [.var 0, .con (.int 9)], .pr .mul [.con (.int 17), .var 6]], .pr .mul [.con (.int 5), .var 1]]]]),
      .expr (.mth .app (.var 5) [.call 10 [.var 4, .pr .add [.pr .add [.call 6 [.var 0, .con (.int 9)], .pr .mul [.con (.int 19), .var 6]], .pr .mul [.con (.int 5), .var 1]]]])]) [some (.scr ns), some (.int k), some (.int c), some one, some other, some (.loc m), o6, o7, o8, o9] S5
      = .nx [some (.scr ns), some (.int k), some (.int c), some one, some other, some (.loc m), o6', o7, o8, o9] S6 ∧ S6[m]? = some (.lst A) ∧ (∀ x ∈ A, okD 20 x) ∧ A.length ≤ 2000 := by
    have hi : ∀ S : Sto, items .rng [.int 16] S = some ((List.range 16).map fun (i : Nat) => .int i, none) := fun _ => rfl
    obtain ⟨s', S', e, o6', A, e2, e3, e4, e5⟩ := forL_ix (b := fun d s => bindT [6] false d s) (f := fun s S => exs (run P n) [.expr (.mth .app (.var 5) [.call 10 [.var 3, .pr .add [.pr .add [.call 6 [.var 0, .con (.int 9)], .pr .mul [.con (.int 17), .var 6]], .pr .mul [.con (.int 5), .var 1]]]]),
      .expr (.mth .app (.var 5) [.call 10 [.var 4, .pr .add [.pr .add [.call 6 [.var 0, .con (.int 9)], .pr .mul [.con (.int 19), .var 6]], .pr .mul [.con (.int 5), .var 1]]]])] s S) (k := chk ((List.range 16).map fun (i : Nat) => .int i) none)
      (fun i s S => ∃ o6 A, s = [some (.scr ns), some (.int k), some (.int c), some one, some other, some (.loc m), o6, o7, o8, o9] ∧ S[m]? = some (.lst A) ∧ (∀ x ∈ A, okD 20 x) ∧ A.length ≤ 1000 + 2 * i)
      ((List.range 16).map fun (i : Nat) => .int i) 0 (by
        intro d hd j s S hj hI
        obtain ⟨i, _, rfl⟩ := List.mem_map.mp hd
        obtain ⟨o6, A, rfl, e1, e2, e3⟩ := hI
        simp at hj
        refine ⟨_, rfl, ?_⟩
        obtain ⟨r, er, kr⟩ := r_odd h7 h10 5 (n := n) (S := S) one (lawCell ns 9 + 17 * (i : Int) + 5 * (k : Int)) T1.1 T1.2 (by omega) (by omega)
        have hm : m < S.length := (List.getElem?_eq_some_iff.mp e1).1
        obtain ⟨r2, er2, kr2⟩ := r_odd h7 h10 5 (n := n) (S := S.set m (.lst (A ++ [r]))) other (lawCell ns 9 + 19 * (i : Int) + 5 * (k : Int)) T2.1 T2.2 (by omega) (by omega)
        have e1' : (S.set m (.lst (A ++ [r])))[m]? = some (.lst (A ++ [r])) := by rw [List.getElem?_set_self hm]
        have p1 := p_app (x := r) e1 (by unfold szL; omega)
        have p2 := p_app (x := r2) e1' (by unfold szL; simp; omega)
        have q1 : okM .app (.loc m) S = true := by simp [okM, rs, e1]
        have q2 : okM .app (.loc m) (S.set m (.lst (A ++ [r]))) = true := by simp [okM, rs, hm]
        refine ⟨_, (S.set m (.lst (A ++ [r]))).set m (.lst (A ++ [r] ++ [r2])), ?_, ⟨some (.int i), A ++ [r] ++ [r2], rfl, ?_, ?_, ?_⟩, rfl⟩
        · simp [-g_mulI, getV, bindT, c9, g2, g3, g4, er, er2, p1, p2, q1, q2]
        · rw [List.getElem?_set_self (by simpa using hm)]
        · intro x hx
          simp only [List.mem_append, List.mem_cons, List.not_mem_nil, or_false] at hx
          rcases hx with (hx | rfl) | rfl
          · exact e2 x hx
          · exact kr.mono (by omega)
          · exact kr2.mono (by omega)
        · simp; omega) [some (.scr ns), some (.int k), some (.int c), some one, some other, some (.loc m), o6, o7, o8, o9] S5 ⟨o6, B, rfl, h55, okB, by omega⟩
    refine ⟨o6', S', A, ?_, e3, e4, by simp at e5; omega⟩
    rw [← e2, ← e]
    simp only [ex_for, evs_cons, evs_nil, ev_con, bOk, outL_ok, hi]
  obtain ⟨o6', S6, A, e1, e2, e3, e4⟩ := odd
  rw [exs_step e1]
  -- each thing
  have hi : items .seq [.loc m] S6 = some (A, some m) := it_loc e2
  have hck : chk A (some m) S6 = true := by simp [chk, e2]
  obtain ⟨s', S', e, o7', o8', o9', hs', hS'⟩ := forL_inv (b := fun d s => bindT [7] false d s) (f := fun s S => exs (run P n) [.for [8, 9] true .seq [.tup [.tup [.call 4 [.var 7], .call 11 [.var 7, .con (.int 5), .con (.bl false)]], .tup [.call 5 [.var 7], .call 11 [.var 7, .con (.int 5), .con (.bl true)]]]] [.ite (.or (.and (.pr (.isntc (.bl true)) [.var 8]) (.var 9)) (.and (.pr (.isntc (.bl false)) [.var 8]) (.pr .not [.var 9]))) [.ret (.con (.bl false))] []]] s S) (k := chk A (some m))
    (fun s S => ∃ o7 o8 o9, s = [some (.scr ns), some (.int k), some (.int c), some one, some other, some (.loc m), o6', o7, o8, o9] ∧ S = S6) A (by
      intro d hd s S hI
      obtain ⟨o7, o8, o9, rfl, rfl⟩ := hI
      refine ⟨_, rfl, ?_⟩
      obtain ⟨o8', o9', q⟩ := k01_thing h1 h2 h3 h4 h5 h11 (n := n) (by omega) (some (.scr ns)) (some (.int k)) (some (.int c)) (some one) (some other) (some (.loc m)) o6' o8 o9 d S (e3 d hd)
      exact ⟨_, S, q, ⟨some d, o8', o9', rfl, rfl⟩, hck⟩) [some (.scr ns), some (.int k), some (.int c), some one, some other, some (.loc m), o6', o7, o8, o9] S6 ⟨o7, o8, o9, rfl, rfl⟩
  subst hs'
  rw [hS'] at e
  refine ⟨_, S6, ?_, some (.int k), some (.int c), some one, some other, some (.loc m), o6', o7', o8', o9', rfl⟩
  rw [exs_step (s1 := [some (.scr ns), some (.int k), some (.int c), some one, some other, some (.loc m), o6', o7', o8', o9']) (S1 := S6)]
  · simp
  · rw [← e]
    simp [ex_for, getV, hi]
theorem k01 (hn : 20 ≤ n) (ns : List Int) : run P n 12 [.scr ns] [] = .ok (.bl true) [] := by
  obtain ⟨n, rfl⟩ : ∃ k, n = k + 1 := ⟨n - 1, by omega⟩
  rw [run_at h12 _ _ _ rfl]
  have hi : ∀ S : Sto, items .rng [.int 12] S = some ((List.range 12).map fun (i : Nat) => .int i, none) := fun _ => rfl
  obtain ⟨s', S', e, o1, o2, o3, o4, o5, o6, o7, o8, o9, rfl⟩ := forL_inv (b := fun d s => bindT [1] false d s) (f := fun s S => exs (run P n) (match F_law.body.headD .pass with | .for _ _ _ _ b => b | _ => []) s S) (k := chk ((List.range 12).map fun (i : Nat) => .int i) none)
    (fun s S => ∃ o1 o2 o3 o4 o5 o6 o7 o8 o9, s = [some (.scr ns), o1, o2, o3, o4, o5, o6, o7, o8, o9]) ((List.range 12).map fun (i : Nat) => .int i) (by
      intro d hd s S hI
      obtain ⟨k, hk, rfl⟩ := List.mem_map.mp hd
      obtain ⟨o1, o2, o3, o4, o5, o6, o7, o8, o9, rfl⟩ := hI
      obtain ⟨s2, S2, q, i⟩ := k01_turn h1 h2 h3 h4 h5 h6 h7 h8 h9 h10 h11 h12 (n := n) (by omega) ns k o2 o3 o4 o5 o6 o7 o8 o9 S
      exact ⟨_, rfl, s2, S2, q, i, rfl⟩) (start 10 [.scr ns]) [] ⟨none, none, none, none, none, none, none, none, none, rfl⟩
  have f1 := r_term (S := S') (n := n) h1 h2 h3 h4 (by omega) (.tup [.str [102], .tup [.str [102], .tup [.str [102], .tup [.str [102], .str [97]]]]]) (by decide)
  have f2 := r_term (S := S') (n := n) h1 h2 h3 h4 (by omega) (.tup [.str [102], .tup [.str [102], .tup [.str [102], .tup [.str [102], .tup [.str [102], .str [97]]]]]]) (by decide)
  have d1 : isPat 5 false (.tup [.str [102], .tup [.str [102], .tup [.str [102], .tup [.str [102], .str [97]]]]]) = true := by decide
  have d2 : isPat 5 false (.tup [.str [102], .tup [.str [102], .tup [.str [102], .tup [.str [102], .tup [.str [102], .str [97]]]]]]) = false := by decide
  rw [d1] at f1
  rw [d2] at f2
  have hfor : ex (run P n) (F_law.body.headD .pass) (start 10 [.scr ns]) [] = .nx [some (.scr ns), o1, o2, o3, o4, o5, o6, o7, o8, o9] S' := by
    rw [← e]
    simp only [F_law, List.headD_cons, ex_for, evs_cons, evs_nil, ev_con, bOk, outL_ok, hi]
  have hb : F_law.body = F_law.body.headD .pass :: F_law.body.tail := rfl
  rw [hb, show F_law.ns = 10 from rfl, exs_step hfor]
  simp [F_law, getV, f1, f2]
  cases S' with
  | nil => simp
  | cons x r => simp [retD, keepS, D.pure]
end
end Eng

theorem PySem.Challenge.cw_mendrules_k01_terms_holds : PySem.Challenge.rw_mendrules_k01_terms.Holds := by
  exact Eng.K01.closing fun ns _ => Eng.k01 rfl rfl rfl rfl rfl rfl rfl rfl rfl rfl rfl rfl (by decide) ns
