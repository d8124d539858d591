import PyProof.Rows.All
import Wide.All
import OpenK.AllK
import Wide.FinOn
import KE.KStateDown
import HandS.Text
import HandS.ReplaceList
import HandS.ForMost
import HandS.ForExc
import HandS.Zip
import HandS.TupAny
import HandS.TupLe
import HandS.IsInst
import HandS.StrMore
import HandS.Replace
import HandS.ReplaceLit
import HandS.RevRange
import HandS.Flow
import HandS.Deep
import HandS.Conv
import HandS.WordsExc
import HandS.Defaults
import KE.DataEq
import HandS.HeadHook1
import HandS.Dict
import KE.DataMinMax
import HandS.SortKw
import HandS.Style
import HandS.Strs
import HandS.Exc
import HandS.ExcOwn
import HandS.Comp
import KE.GoesComp
import HandS.ExcIs
import HandS.More
import KE.GoesMore
import KE.GoesEnum
import HandS.ReplaceDef
import HandS.HeadHook3
import HandS.Head0
import HandS.Head1
import HandS.Head2
import HandS.HeadEnd
import HandS.HeadHook2
import PySem.Challenge.RW_marktongues_k29_whole_as_few_as_can_be
set_option Elab.async false
set_option linter.all false
set_option maxRecDepth 100000
set_option maxHeartbeats 0
namespace MT
open L2

/-- a value of the programs: immutable trees; a list is told by what it holds -/
inductive D where
  | non | bl (b : Bool) | int (i : Int) | str (s : List Nat) | tup (xs : List D) | lst (xs : List D)
  /-- the law's own list of numbers: it is read by its places alone -/
  | scr (xs : List Int)
  /-- a dict by pairs of numbers, told -/
  | dct (kvs : List (List Int × Int))
  deriving Inhabited

/-- what an evaluation comes to: a value, an exception of a class (by number), or nothing that is told -/
inductive R (α : Type) where
  | ok (a : α) | ex (c : Nat) | no
def R.bind {α β : Type} : R α → (α → R β) → R β
  | .ok a, f => f a
  | .ex c, _ => .ex c
  | .no, _ => .no
instance : Monad R where
  pure := .ok
  bind := R.bind
@[simp] theorem R.bind_ok {α β : Type} (a : α) (f : α → R β) : (R.ok a >>= f) = f a := rfl
@[simp] theorem R.bind_ex {α β : Type} (c : Nat) (f : α → R β) : (R.ex c >>= f) = R.ex c := rfl
@[simp] theorem R.bind_no {α β : Type} (f : α → R β) : (R.no >>= f) = (R.no : R β) := rfl
@[simp] theorem R.pure_ok {α : Type} (a : α) : (pure a : R α) = R.ok a := rfl

inductive BO where | add | sub | mul | fdiv | mod
inductive CO where | eq | ne | lt | le | gt | ge | isin | notin | is | isnot
/-- built-ins and methods of texts -/
inductive Pr where
  | len | tuple | list | str | int | all | any | sum | abs | min2 | max2 | minD | maxD | min1 | max1
  | isT (bool int str tuple list : Bool)
  | join | lower | upper | split0 | split1 | partition | find2 | sindex | starts | replace | strip1 | count | lenset
inductive IK where | seq | rng1 | rng2 | enum | zip | rrng1
inductive Tg where
  | nm (i : Nat) | tp (ts : List Tg)

inductive E where
  | c (d : D) | v (i : Nat)
  | bin (o : BO) (a b : E)
  | cmp (o : CO) (a b : E)
  | chain (o o' : CO) (a b c : E)
  | and (a b : E) | or (a b : E) | not (a : E) | neg (a : E)
  | ife (t a b : E)
  | tup (es : List E) | lst (es : List E)
  | idx (a i : E)
  | slLo (a lo : E) | slHi (a hi : E) | slLH (a lo hi : E) | rev (a : E)
  | call (f : Nat) (es : List E)
  | pr (p : Pr) (es : List E) | me (p : Pr) (o : E) (es : List E)
  | lc (t : Tg) (k : IK) (es : List E) (cond : List E) (el : E)
  | lcx (t : Tg) (k : IK) (es : List E) (cond : List E) (el : E)
  | gd (kvs : List (List Nat × List Nat)) (k : E)
  /-- what one's own dict holds at a key -/
  | dgt (i : Nat) (es : List E)

/-- the suite of an except clause: texts, and what isinstance tells of what was caught -/
inductive XI where
  | c (s : List Nat) | b (v : Bool)
inductive XS where
  | asg (j : Nat) (its : List XI) | ret (u v : Bool)
inductive S where
  | asg (i : Nat) (fr : Bool) (e : E)
  | tgt (t : Tg) (e : E)
  | par (is : List Nat) (es : List E)
  | app (i : Nat) (e : E) | ext (i : Nat) (e : E) | sti (i : Nat) (k e : E)
  | ret (e : E)
  | iff (c : E) (a b : List S)
  | for (t : Tg) (k : IK) (es : List E) (body : List S)
  | whl (c : E) (body : List S)
  | raise (c : Nat)
  | exp (e : E)
  | frz (i : Nat)
  | tryN (body : List S)
  | tryX (body : List S) (i n : Nat) (su : XS)
  | never
  | cont | pass
  /-- rows parted by empty ones, told: found = [[]], the walk, the return -/
  | grp (i r v : Nat)
  /-- return v.replace(y, z)...: the outermost ahead -/
  | rpl (i : Nat) (cts : List (List Nat × List Nat))
  /-- a new dict of one's own; what it gets; its return -/
  | dnew (i : Nat) | dput (i : Nat) (es : List E) (e : E) | retd (i : Nat)
  /-- i.append((w, i.pop()[1] + x)) -/
  | apop (i w x : Nat)

/-- a slot: unset, a value, a list of the def's own -/
inductive Ob where
  | dic (kvs : List (List Int × Int)) | rdr (t : List Nat) (p : Int)
inductive SV where
  | un | val (d : D) | own (xs : List D)
  /-- a dict of the def's own, or the reader that a method works at -/
  | obj (tk : Option Nat) (o : Ob)
def SV.nob : SV → Bool
  | .obj _ _ => false
  | _ => true
abbrev Env := List SV
inductive Fl where
  | nx (ρ : Env) | rt (d : D) | ct (ρ : Env)
abbrev CL := Nat → List D → R D

/-! ### sizes -/
def sz (n : Nat) : Bool := decide (n ≤ 16777216)
def guardR {α : Type} (b : Bool) (a : R α) : R α := if b = true then a else .no

/-! ### equality -/
mutual
def D.eqv : D → D → Bool
  | .non, .non => true
  | .bl a, .bl b => a == b
  | .bl a, .int j => (if a then 1 else 0) == j
  | .int i, .bl b => i == (if b then 1 else 0)
  | .int i, .int j => i == j
  | .str x, .str y => x == y
  | .lst xs, .lst ys => eqvs xs ys
  | .tup xs, .tup ys => eqvs xs ys
  | _, _ => false
def D.eqvs : List D → List D → Bool
  | [], [] => true
  | x :: xs, y :: ys => D.eqv x y && D.eqvs xs ys
  | _, _ => false
end
mutual
def D.depth : D → Nat
  | .lst xs => D.depths xs + 1
  | .tup xs => D.depths xs + 1
  | .scr _ => 100
  | .dct _ => 100
  | _ => 0
def D.depths : List D → Nat
  | [] => 0
  | x :: xs => max (D.depth x) (D.depths xs)
end
def shal (d : D) : Bool := decide (d.depth ≤ 64)

/-! ### truth -/
def truth : D → R Bool
  | .non => .ok false
  | .bl b => .ok b
  | .int i => .ok (i != 0)
  | .str s => guardR (sz s.length) (.ok !s.isEmpty)
  | .tup xs => .ok !xs.isEmpty
  | .lst xs => .ok !xs.isEmpty
  | .scr _ => .no
  | .dct _ => .no

/-! ### operators -/
def smallI (i : Int) : Bool := decide (-(2 ^ 64) < i ∧ i < 2 ^ 64)
def binD : BO → D → D → R D
  | .add, .int i, .int j => .ok (.int (i + j))
  | .add, .str s, .str t => guardR (sz (s.length + t.length)) (.ok (.str (s ++ t)))
  | .add, .tup xs, .tup ys => guardR (sz (xs.length + ys.length)) (.ok (.tup (xs ++ ys)))
  | .add, .lst xs, .lst ys => guardR (sz (xs.length + ys.length)) (.ok (.lst (xs ++ ys)))
  | .sub, .int i, .int j => .ok (.int (i - j))
  | .mul, .int i, .int j => guardR (smallI i || smallI j) (.ok (.int (i * j)))
  | .mul, .str s, .int n => guardR (decide (n < 2 ^ 30 ∧ -(2 ^ 30) < n) && sz (s.length * n.toNat)) (.ok (.str (List.replicate n.toNat s).flatten))
  | .mul, .lst xs, .int n => guardR (decide (n < 2 ^ 30 ∧ -(2 ^ 30) < n) && sz (xs.length * n.toNat)) (.ok (.lst (List.replicate n.toNat xs).flatten))
  | .fdiv, .int i, .int j => guardR (decide (0 < j ∧ j < 1073741824)) (.ok (.int (i / j)))
  | .mod, .int i, .int j => guardR (decide (0 < j)) (.ok (.int (i % j)))
  | _, _, _ => .no

/-- a flat thing: none, a truth, a number, a text -/
def flat : D → Bool
  | .non | .bl _ | .int _ | .str _ => true
  | _ => false
/-- a text within another -/
def subL (u : List Nat) : List Nat → Bool
  | [] => u.isEmpty
  | c :: r => u.isPrefixOf (c :: r) || subL u r
def inD (x : D) : D → R Bool
  | .str t => match x with
    | .str [c] => .ok (decide (c ∈ t))
    | .str (c :: d :: u) => .ok (subL (c :: d :: u) t)
    | _ => .no
  | .tup ys => guardR (flat x && ys.all flat) (.ok (ys.any fun y => D.eqv y x))
  | .lst ys => guardR (flat x && ys.all flat) (.ok (ys.any fun y => D.eqv y x))
  | _ => .no
def isNon : D → Bool
  | .non => true
  | _ => false
def isD : D → D → R Bool
  | x, .non => .ok (isNon x)
  | .bl a, .bl b => .ok (a == b)
  | _, _ => .no
def cmpD : CO → D → D → R D
  | .eq, x, y => guardR (shal x && shal y) (.ok (.bl (D.eqv x y)))
  | .ne, x, y => guardR (shal x && shal y) (.ok (.bl !(D.eqv x y)))
  | .lt, .int i, .int j => .ok (.bl (decide (i < j)))
  | .le, .int i, .int j => .ok (.bl (decide (i ≤ j)))
  | .gt, .int i, .int j => .ok (.bl (decide (j < i)))
  | .ge, .int i, .int j => .ok (.bl (decide (j ≤ i)))
  | .isin, x, y => (inD x y).bind fun b => .ok (.bl b)
  | .notin, x, y => (inD x y).bind fun b => .ok (.bl !b)
  | .is, x, y => (isD x y).bind fun b => .ok (.bl b)
  | .isnot, x, y => (isD x y).bind fun b => .ok (.bl !b)
  | _, _, _ => .no

/-! ### dicts by pairs of numbers -/
def getDT (kvs : List (List Int × Int)) (k : List Int) : Option Int := (kvs.find? fun kv => decide (kv.1 = k)).map (·.2)
def putDT (kvs : List (List Int × Int)) (k : List Int) (v : Int) : List (List Int × Int) :=
  if (kvs.any fun kv => decide (kv.1 = k)) = true then kvs.map (fun kv => if kv.1 = k then (kv.1, v) else kv) else kvs ++ [(k, v)]
def keyD : D → Option (List Int)
  | .tup [.int i, .int j] => some [i, j]
  | _ => none
def dgtD (kvs : List (List Int × Int)) (d : D) : R D := match (keyD d).bind (getDT kvs) with
  | some n => .ok (.int n)
  | none => .no
/-! ### places and slices -/
def ixN (n : Nat) (i : Int) : Option Nat :=
  if 0 ≤ i then (if i < n then some i.toNat else none) else (if -(n : Int) ≤ i then some (i + n).toNat else none)
def idxD : D → D → R D
  | .tup xs, .int i => match (ixN xs.length i).bind fun j => xs[j]? with
    | some d => .ok d
    | none => .no
  | .lst xs, .int i => match (ixN xs.length i).bind fun j => xs[j]? with
    | some d => .ok d
    | none => .no
  | .str s, .int i => guardR (sz s.length) (match (ixN s.length i).bind fun j => s[j]? with
    | some c => .ok (.str [c])
    | none => .no)
  | .scr xs, .int i => match (ixN xs.length i).bind fun j => xs[j]? with
    | some n => .ok (.int n)
    | none => .no
  | _, _ => .no
/-- a bound of a slice, brought within 0 .. n -/
def clip (n : Nat) (i : Int) : Nat := if i < 0 then (i + n).toNat else min i.toNat n
def cutL {α : Type} (xs : List α) (lo hi : Option Int) : List α :=
  let a := match lo with | some i => clip xs.length i | none => 0
  let b := match hi with | some i => clip xs.length i | none => xs.length
  (xs.drop a).take (b - a)
def slD (d : D) (lo hi : Option Int) : R D := match d with
  | .tup xs => .ok (.tup (cutL xs lo hi))
  | .lst xs => .ok (.lst (cutL xs lo hi))
  | .str s => guardR (sz s.length) (.ok (.str (cutL s lo hi)))
  | _ => .no
def intD : D → R Int
  | .int i => .ok i
  | _ => .no
def revD : D → R D
  | .tup xs => .ok (.tup xs.reverse)
  | _ => .no

/-! ### built-ins -/
def strsD : List D → Option (List (List Nat))
  | [] => some []
  | .str s :: r => (strsD r).map (s :: ·)
  | _ :: _ => none
def intsD : List D → Option (List Int)
  | [] => some []
  | .int i :: r => (intsD r).map (i :: ·)
  | _ :: _ => none
def blsD : List D → Option (List Bool)
  | [] => some []
  | .bl b :: r => (blsD r).map (b :: ·)
  | _ :: _ => none
def seqD : D → Option (List D)
  | .tup xs => some xs
  | .lst xs => some xs
  | _ => none


/-- the number of a text of figures alone, as it is written -/
def figs (s : List Nat) : Option Int :=
  let n := s.foldl (fun a c => a * 10 + (c - 48)) 0
  if TL.numL n = s then some n else none
def ascii (s : List Nat) : Bool := s.all fun c => decide (c < 128)
def lowC (c : Nat) : Nat := if 65 ≤ c ∧ c ≤ 90 then c + 32 else c
def upC (c : Nat) : Nat := if 97 ≤ c ∧ c ≤ 122 then c - 32 else c
/-- the first place of a sign, from a place on -/
def findC (c : Nat) : Nat → List Nat → Option Nat
  | _, [] => none
  | k, x :: r => if x = c then some k else findC c (k + 1) r
def maxI : List Int → Option Int
  | [] => none
  | x :: r => some (r.foldl max x)
def minI : List Int → Option Int
  | [] => none
  | x :: r => some (r.foldl min x)
/-- each sign of a text that is c made to t -/
def replC (c : Nat) (t : List Nat) (s : List Nat) : List Nat := s.flatMap fun x => if x = c then t else [x]
def stripC (c : Nat) (s : List Nat) : List Nat := ((s.dropWhile (· == c)).reverse.dropWhile (· == c)).reverse
def nodupS : List (List Nat) → Bool
  | [] => true
  | x :: r => !r.contains x && nodupS r
def isTyD (b i s t l : Bool) : D → Bool
  | .non => false
  | .bl _ => b || i
  | .int _ => i
  | .str _ => s
  | .tup _ => t
  | .lst _ => l
  | .scr _ => l
  | .dct _ => false
def ofO {α : Type} : Option α → R α
  | some a => .ok a
  | none => .no
def prD : Pr → List D → R D
  | .len, [.str s] => guardR (sz s.length) (.ok (.int s.length))
  | .len, [.tup xs] => .ok (.int xs.length)
  | .len, [.lst xs] => .ok (.int xs.length)
  | .len, [.scr xs] => .ok (.int xs.length)
  | .tuple, [.lst xs] => .ok (.tup xs)
  | .tuple, [.tup xs] => .ok (.tup xs)
  | .list, [.tup xs] => .ok (.lst xs)
  | .list, [.lst xs] => .ok (.lst xs)
  | .str, [.int i] => guardR (decide (0 ≤ i ∧ i < 1000000)) (.ok (.str (TL.numL i.toNat)))
  | .int, [.bl b] => .ok (.int (if b = true then 1 else 0))
  | .int, [.int i] => .ok (.int i)
  | .int, [.str s] => guardR (decide (s.length ≤ 600)) ((ofO (figs s)).bind fun n => .ok (.int n))
  | .all, [.lst xs] => (ofO (blsD xs)).bind fun bs => .ok (.bl (bs.all id))
  | .any, [.lst xs] => (ofO (blsD xs)).bind fun bs => .ok (.bl (bs.any id))
  | .sum, [.lst xs] => (ofO (intsD xs)).bind fun ns => .ok (.int ns.sum)
  | .abs, [.int i] => .ok (.int (if i < 0 then -i else i))
  | .min2, [.int i, .int j] => .ok (.int (if j < i then j else i))
  | .max2, [.int i, .int j] => .ok (.int (if j > i then j else i))
  | .minD, [.lst xs, .int d] => (ofO (intsD xs)).bind fun ns => .ok (.int ((minI ns).getD d))
  | .maxD, [.lst xs, .int d] => (ofO (intsD xs)).bind fun ns => .ok (.int ((maxI ns).getD d))
  | .min1, [.lst xs] => (ofO (intsD xs)).bind fun ns => (ofO (minI ns)).bind fun m => .ok (.int m)
  | .max1, [.lst xs] => (ofO (intsD xs)).bind fun ns => (ofO (maxI ns)).bind fun m => .ok (.int m)
  | .isT _ _ _ _ _, [.scr _] => .no
  | .isT _ _ _ _ _, [.dct _] => .no
  | .isT b i s t l, [x] => .ok (.bl (isTyD b i s t l x))
  | .join, [.str s, .lst xs] => (ofO (strsD xs)).bind fun ys => guardR (sz ((ys.map List.length).sum + ys.length * s.length)) (.ok (.str (TL.joinL s ys)))
  | .lower, [.str s] => guardR (decide (s.length ≤ 5592405) && ascii s) (.ok (.str (s.map lowC)))
  | .upper, [.str s] => guardR (decide (s.length ≤ 5592405) && ascii s) (.ok (.str (s.map upC)))
  | .split0, [.str s] => guardR (decide (s.length + 2 ≤ 16777216)) (.ok (.lst ((TL.wfin (s.foldl TL.wstep ([], []))).map .str)))
  | .split1, [.str s, .str [c]] => guardR (decide (s.length + 2 ≤ 16777216) && decide (c < 256)) (.ok (.lst ((TL.spl [c] 0 [] s).map .str)))
  | .partition, [.str s, .str [c]] => guardR (sz s.length) (match TL.par [c] [] s with
    | some (a, b) => .ok (.tup [.str a, .str [c], .str b])
    | none => .ok (.tup [.str s, .str [], .str []]))
  | .find2, [.str s, .str [c], .int i] => guardR (sz s.length && decide (0 ≤ i ∧ i ≤ s.length)) (match findC c i.toNat (s.drop i.toNat) with
    | some k => .ok (.int k)
    | none => .ok (.int (-1)))
  | .sindex, [.str s, .str [c]] => guardR (sz s.length) ((ofO (findC c 0 s)).bind fun k => .ok (.int k))
  | .starts, [.str s, .str t] => guardR (sz s.length && sz t.length) (.ok (.bl (t.isPrefixOf s)))
  | .replace, [.str s, .str [c], .str t] => guardR (decide (s.length + (s.length + 1) * t.length ≤ 16777216)) (.ok (.str (replC c t s)))
  | .strip1, [.str s, .str [c]] => guardR (sz s.length) (.ok (.str (stripC c s)))
  | .lenset, [.tup xs] => (ofO (strsD xs)).bind fun ys => guardR (nodupS ys && decide (ys.length < 64)) (.ok (.int ys.length))
  | _, _ => .no

/-- rows parted by empty ones -/
def grpStep (st : List (List (List Nat)) × List (List Nat)) (s : List Nat) : List (List (List Nat)) × List (List Nat) := if s = [] then (st.1 ++ [st.2], []) else (st.1, st.2 ++ [s])
def grpEnd (st : List (List (List Nat)) × List (List Nat)) : List (List (List Nat)) := st.1 ++ [st.2]
def grpL (ss : List (List Nat)) : List (List (List Nat)) := grpEnd (ss.foldl grpStep ([], []))
def lstS (g : List (List Nat)) : D := .lst (g.map .str)
/-- one replace behind another, the last one ahead -/
def rplGo : List (List Nat × List Nat) → List Nat → Option (List Nat)
  | [], s => some s
  | (y, z) :: r, s => (rplGo r s).bind fun x => if x.length + (x.length + 1) * z.length ≤ 16777216 then some (PySem.StrLaws.replL y z x) else none

/-! ### what is walked -/
def enumL (k : Nat) : List D → List D
  | [] => []
  | x :: r => .tup [.int k, x] :: enumL (k + 1) r
def zipL : List D → List D → List D
  | x :: r, y :: q => .tup [x, y] :: zipL r q
  | _, _ => []
def itD : IK → List D → R (List D)
  | .seq, [.tup xs] => .ok xs
  | .seq, [.lst xs] => .ok xs
  | .seq, [.str s] => .ok (s.map fun c => .str [c])
  | .rng1, [.int n] => guardR (decide (-(2 ^ 30) < n ∧ n < 2 ^ 30)) (.ok ((List.range n.toNat).map fun (k : Nat) => .int k))
  | .rng2, [.int a, .int b] => guardR (decide (-(2 ^ 30) < a ∧ a < 2 ^ 30 ∧ -(2 ^ 30) < b ∧ b < 2 ^ 30)) (.ok ((List.range (b - a).toNat).map fun (k : Nat) => .int (a + k)))
  | .rrng1, [.int n] => guardR (decide (-(2 ^ 30) < n ∧ n < 2 ^ 30)) (.ok ((List.range n.toNat).map fun (k : Nat) => .int (n - 1 - k)))
  | .enum, [.tup xs] => .ok (enumL 0 xs)
  | .enum, [.lst xs] => .ok (enumL 0 xs)
  | .zip, [.tup xs, .tup ys] => .ok (zipL xs ys)
  | .zip, [.lst xs, .lst ys] => .ok (zipL xs ys)
  | _, _ => .no

/-! ### slots -/
def rd (ρ : Env) (i : Nat) : R D := match ρ[i]? with
  | some (.val d) => .ok d
  | _ => .no
def rdB (ρ : Env) (i : Nat) : R D := match ρ[i]? with
  | some (.val d) => .ok d
  | some (.own xs) => .ok (.lst xs)
  | _ => .no
def put (ρ : Env) (i : Nat) (v : SV) : R Env := if i < ρ.length then .ok (ρ.set i v) else .no
def rdO (ρ : Env) (i : Nat) : R Ob := match ρ[i]? with
  | some (.obj _ o) => .ok o
  | _ => .no
def rdKV (ρ : Env) (i : Nat) : R (List (List Int × Int)) := match ρ[i]? with
  | some (.obj none (.dic kvs)) => .ok kvs
  | _ => .no
def rdKB (ρ : Env) (i : Nat) : R (List (List Int × Int)) := match ρ[i]? with
  | some (.obj none (.dic kvs)) => .ok kvs
  | some (.val (.dct kvs)) => .ok kvs
  | _ => .no
/-- a read that may borrow a list of the def's own -/
def bor (ρ : Env) : E → R D → R D
  | .v i, _ => rdB ρ i
  | _, r => r
mutual
def bindT : Tg → D → Env → R Env
  | .nm i, d, ρ => put ρ i (.val d)
  | .tp ts, .tup ds, ρ => bindTs ts ds ρ
  | _, _, _ => .no
def bindTs : List Tg → List D → Env → R Env
  | [], [], ρ => .ok ρ
  | t :: ts, d :: ds, ρ => (bindT t d ρ).bind fun ρ' => bindTs ts ds ρ'
  | _, _, _ => .no
end

/-! ### expressions -/
/-! the slots of a target -/
mutual
def Tg.slots : Tg → List Nat
  | .nm i => [i]
  | .tp ts => Tg.slotss ts
def Tg.slotss : List Tg → List Nat
  | [] => []
  | t :: ts => Tg.slots t ++ Tg.slotss ts
end
def wipeE (ρ : Env) : List Nat → Env
  | [] => ρ
  | v :: vs => (wipeE ρ vs).set v .un
/-- the items of a comprehension -/
def lcGo (t : Tg) (cond : Env → R Bool) (el : Env → R D) (ρ : Env) : List D → R (List D)
  | [] => .ok []
  | x :: xs => (bindT t x ρ).bind fun ρ' => (cond ρ').bind fun b =>
    if b = true then (el ρ').bind fun y => (lcGo t cond el ρ xs).bind fun ys => .ok (y :: ys) else lcGo t cond el ρ xs
/-- exceptions within are not told -/
def noEx {α : Type} : R α → R α
  | .ok a => .ok a
  | _ => .no
def lookG (kvs : List (List Nat × List Nat)) (k : List Nat) : Option (List Nat) := (kvs.find? fun p => p.1 == k).map (·.2)
def andK (r : R D) : D → R D
  | .bl true => r
  | .bl false => .ok (.bl false)
  | _ => .no
def orK (r : R D) : D → R D
  | .bl true => .ok (.bl true)
  | .bl false => r
  | _ => .no
def strK (r : R D) : D → R D
  | .str _ => r
  | _ => .no
/-- the truth of a value that may be borrowed -/
def tst (e : E) (f : Env → R D) : (Env → R D) × (Env → R Bool) := (f, fun ρ => (bor ρ e (f ρ)).bind truth)
mutual
def ev2 (cl : CL) : E → (Env → R D) × (Env → R Bool)
  | .c d => tst (.c d) fun _ => .ok d
  | .v i => tst (.v i) fun ρ => rd ρ i
  | .bin o a b => tst (.bin o a b) fun ρ => (bor ρ a ((ev2 cl a).1 ρ)).bind fun x => (bor ρ b ((ev2 cl b).1 ρ)).bind fun y => binD o x y
  | .cmp o a b => tst (.cmp o a b) fun ρ => (bor ρ a ((ev2 cl a).1 ρ)).bind fun x => (bor ρ b ((ev2 cl b).1 ρ)).bind fun y => cmpD o x y
  | .chain o o' a b c => tst (.chain o o' a b c) fun ρ => ((ev2 cl a).1 ρ).bind fun x => ((ev2 cl b).1 ρ).bind fun y => (cmpD o x y).bind (andK (((ev2 cl c).1 ρ).bind fun z => cmpD o' y z))
  | .and a b => (fun ρ => ((ev2 cl a).1 ρ).bind (andK ((ev2 cl b).1 ρ)),
    fun ρ => ((ev2 cl a).2 ρ).bind fun x => if x = true then (ev2 cl b).2 ρ else .ok false)
  | .or a b => (fun ρ => ((ev2 cl a).1 ρ).bind (orK ((ev2 cl b).1 ρ)),
    fun ρ => ((ev2 cl a).2 ρ).bind fun x => if x = true then .ok true else (ev2 cl b).2 ρ)
  | .not a => (fun ρ => (bor ρ a ((ev2 cl a).1 ρ)).bind fun x => (truth x).bind fun b => .ok (.bl !b),
    fun ρ => ((ev2 cl a).2 ρ).bind fun x => .ok !x)
  | .neg a => tst (.neg a) fun ρ => ((ev2 cl a).1 ρ).bind fun x => (intD x).bind fun i => .ok (.int (-i))
  | .ife t a b => tst (.ife t a b) fun ρ => ((ev2 cl t).2 ρ).bind fun c => if c = true then (ev2 cl a).1 ρ else (ev2 cl b).1 ρ
  | .tup es => tst (.tup es) fun ρ => (evEs cl es ρ).bind fun ds => .ok (.tup ds)
  | .lst es => tst (.lst es) fun ρ => (evEs cl es ρ).bind fun ds => .ok (.lst ds)
  | .idx a i => tst (.idx a i) fun ρ => (bor ρ a ((ev2 cl a).1 ρ)).bind fun x => ((ev2 cl i).1 ρ).bind fun y => idxD x y
  | .slLo a l => tst (.slLo a l) fun ρ => (bor ρ a ((ev2 cl a).1 ρ)).bind fun x => ((ev2 cl l).1 ρ).bind fun y => (intD y).bind fun i => slD x (some i) none
  | .slHi a h => tst (.slHi a h) fun ρ => (bor ρ a ((ev2 cl a).1 ρ)).bind fun x => ((ev2 cl h).1 ρ).bind fun y => (intD y).bind fun i => slD x none (some i)
  | .slLH a l h => tst (.slLH a l h) fun ρ => (bor ρ a ((ev2 cl a).1 ρ)).bind fun x => ((ev2 cl l).1 ρ).bind fun y => (intD y).bind fun i => ((ev2 cl h).1 ρ).bind fun z => (intD z).bind fun j => slD x (some i) (some j)
  | .rev a => tst (.rev a) fun ρ => ((ev2 cl a).1 ρ).bind fun x => revD x
  | .call f es => tst (.call f es) fun ρ => (evEs cl es ρ).bind fun ds => cl f ds
  | .pr p es => tst (.pr p es) fun ρ => (evBs cl es ρ).bind fun ds => prD p ds
  | .me p o es => tst (.me p o es) fun ρ => (bor ρ o ((ev2 cl o).1 ρ)).bind fun x => strK ((evBs cl es ρ).bind fun ds => prD p (x :: ds)) x
  | .lc t k es cond el => tst (.lc t k es cond el) fun ρ => (evEs cl es ρ).bind fun ds => (itD k ds).bind fun xs =>
      (noEx (lcGo t (evC cl cond) (ev2 cl el).1 (wipeE ρ t.slots) xs)).bind fun ys => guardR (sz ys.length) (.ok (.lst ys))
  | .lcx t k es cond el => tst (.lcx t k es cond el) fun ρ => (evEs cl es ρ).bind fun ds => (itD k ds).bind fun xs =>
      guardR (sz xs.length) ((lcGo t (evC cl cond) (ev2 cl el).1 (wipeE ρ t.slots) xs).bind fun ys => .ok (.lst ys))
  | .gd kvs k => tst (.gd kvs k) fun ρ => ((ev2 cl k).1 ρ).bind fun x => match x with
    | .str s => match lookG kvs s with
      | some t => .ok (.str t)
      | none => .no
    | _ => .no
  | .dgt i es => tst (.dgt i es) fun ρ => (rdKB ρ i).bind fun kvs => (evEs cl es ρ).bind fun ds => dgtD kvs (.tup ds)
def evEs (cl : CL) : List E → Env → R (List D)
  | [] => fun _ => .ok []
  | e :: es => fun ρ => ((ev2 cl e).1 ρ).bind fun d => (evEs cl es ρ).bind fun ds => .ok (d :: ds)
def evBs (cl : CL) : List E → Env → R (List D)
  | [] => fun _ => .ok []
  | e :: es => fun ρ => (bor ρ e ((ev2 cl e).1 ρ)).bind fun d => (evBs cl es ρ).bind fun ds => .ok (d :: ds)
/-- the tests of a comprehension -/
def evC (cl : CL) : List E → Env → R Bool
  | [] => fun _ => .ok true
  | e :: es => fun ρ => ((ev2 cl e).2 ρ).bind fun b => if b = true then evC cl es ρ else .ok false
end
def evE (cl : CL) (e : E) : Env → R D := (ev2 cl e).1
def evT (cl : CL) (e : E) : Env → R Bool := (ev2 cl e).2

/-! ### statements -/
def forGo (t : Tg) (body : Env → R Fl) : List D → Env → R Fl
  | [], ρ => .ok (.nx ρ)
  | x :: xs, ρ => (bindT t x ρ).bind fun ρ1 => (body ρ1).bind fun f => match f with
    | .nx ρ2 => forGo t body xs ρ2
    | .ct ρ2 => forGo t body xs ρ2
    | .rt d => .ok (.rt d)
def whlGo (c : Env → R Bool) (body : Env → R Fl) : Nat → Env → R Fl
  | 0, _ => .no
  | n + 1, ρ => (c ρ).bind fun b => if b = true then (body ρ).bind fun f => match f with
      | .nx ρ2 => whlGo c body n ρ2
      | .ct ρ2 => whlGo c body n ρ2
      | .rt d => .ok (.rt d)
    else .ok (.nx ρ)
def putAll (ρ : Env) : List Nat → List D → R Env
  | [], [] => .ok ρ
  | i :: is, d :: ds => (put ρ i (.val d)).bind fun ρ' => putAll ρ' is ds
  | _, _ => .no
def getOwn (ρ : Env) (i : Nat) : R (List D) := match ρ[i]? with
  | some (.own xs) => .ok xs
  | _ => .no
def svOf (fr : Bool) (d : D) : SV := match fr, d with
  | true, .lst xs => .own xs
  | _, d => .val d
def wfuel : Nat := 100000000
def XI.d : XI → D
  | .c s => .str s
  | .b v => .bl v
/-- behind an exception nothing is told of the slots -/
def XS.ev (n : Nat) : XS → R Fl
  | .asg j its => (put (List.replicate n .un) j (.val (.tup (its.map XI.d)))).bind fun ρ' => .ok (.nx ρ')
  | .ret u v => .ok (.rt (.bl (u && v)))
def tryR (h : R Fl) : R Fl → R Fl
  | .ex 0 => h
  | .ex _ => .no
  | r => r
mutual
def evS (cl : CL) : S → Env → R Fl
  | .asg i fr e, ρ => (evE cl e ρ).bind fun d => (put ρ i (svOf fr d)).bind fun ρ' => .ok (.nx ρ')
  | .tgt t e, ρ => (evE cl e ρ).bind fun d => (bindT t d ρ).bind fun ρ' => .ok (.nx ρ')
  | .par is es, ρ => (evEs cl es ρ).bind fun ds => (putAll ρ is ds).bind fun ρ' => .ok (.nx ρ')
  | .app i e, ρ => (getOwn ρ i).bind fun xs => (evE cl e ρ).bind fun d => guardR (decide (xs.length < 16777216)) ((put ρ i (.own (xs ++ [d]))).bind fun ρ' => .ok (.nx ρ'))
  | .ext i e, ρ => (getOwn ρ i).bind fun xs => (evE cl e ρ).bind fun d => match d with
    | .lst ys => guardR (sz (xs.length + ys.length)) ((put ρ i (.own (xs ++ ys))).bind fun ρ' => .ok (.nx ρ'))
    | _ => .no
  | .sti i k e, ρ => (getOwn ρ i).bind fun xs => (evE cl e ρ).bind fun d => (evE cl k ρ).bind fun y => (intD y).bind fun z => match ixN xs.length z with
    | some j => (put ρ i (.own (xs.set j d))).bind fun ρ' => .ok (.nx ρ')
    | none => .no
  | .ret e, ρ => (bor ρ e (evE cl e ρ)).bind fun d => .ok (.rt d)
  | .iff c a b, ρ => (evT cl c ρ).bind fun x => if x = true then evSs cl a ρ else evSs cl b ρ
  | .for t k es body, ρ => (evEs cl es ρ).bind fun ds => (itD k ds).bind fun xs => forGo t (evSs cl body) xs ρ
  | .whl c body, ρ => whlGo (evT cl c) (evSs cl body) wfuel ρ
  | .raise c, _ => .ex c
  | .exp e, ρ => (evE cl e ρ).bind fun _ => .ok (.nx ρ)
  | .frz i, ρ => match ρ[i]? with
    | some (.own xs) => .ok (.nx (ρ.set i (.val (.lst xs))))
    | _ => .ok (.nx ρ)
  | .tryN body, ρ => noEx (evSs cl body ρ)
  | .tryX body _ n su, ρ => tryR (su.ev n) (evSs cl body ρ)
  | .never, _ => .no
  | .cont, ρ => .ok (.ct ρ)
  | .pass, ρ => .ok (.nx ρ)
  | .grp i r v, ρ => (rd ρ r).bind fun d => match d with
    | .lst xs => (ofO (strsD xs)).bind fun ss => guardR (decide (i < ρ.length) && decide (v < ρ.length) && decide (ss.length < 16777215)) (.ok (.rt (.lst ((grpL ss).map lstS))))
    | _ => .no
  | .rpl i cts, ρ => (rd ρ i).bind fun d => match d with
    | .str s => (ofO (rplGo cts s)).bind fun u => .ok (.rt (.str u))
    | _ => .no
  | .dnew i, ρ => guardR (ρ.all SV.nob) ((put ρ i (.obj none (.dic []))).bind fun ρ' => .ok (.nx ρ'))
  | .dput i es e, ρ => (evE cl e ρ).bind fun d => (intD d).bind fun n => (rdKV ρ i).bind fun kvs => (evEs cl es ρ).bind fun ds => match keyD (.tup ds) with
    | some key => guardR (decide (kvs.length < 16777216)) ((put ρ i (.obj none (.dic (putDT kvs key n)))).bind fun ρ' => .ok (.nx ρ'))
    | none => .no
  | .retd i, ρ => (rdKV ρ i).bind fun kvs => .ok (.rt (.dct kvs))
  | .apop i w x, ρ => (getOwn ρ i).bind fun xs => (rd ρ w).bind fun dw => (rd ρ x).bind fun dx => match xs.getLast? with
    | some (.tup [_, v]) => (binD .add v dx).bind fun u => guardR (decide (xs.length < 16777216)) ((put ρ i (.own (xs.dropLast ++ [.tup [dw, u]]))).bind fun ρ' => .ok (.nx ρ'))
    | _ => .no
def evSs (cl : CL) : List S → Env → R Fl
  | [], ρ => .ok (.nx ρ)
  | s :: ss, ρ => (evS cl s ρ).bind fun f => match f with
    | .nx ρ' => evSs cl ss ρ'
    | f => .ok f
end

structure Fn where
  np : Nat
  ns : Nat
  body : List S
def start (np ns : Nat) (ds : List D) : Env := ds.map .val ++ List.replicate (ns - np) .un
def evF (cl : CL) (f : Fn) (ds : List D) : R D :=
  if ds.length = f.np then
    (evSs cl f.body (start f.np f.ns ds)).bind fun x => match x with
      | .rt d => .ok d
      | .nx _ => .ok .non
      | .ct _ => .no
  else .no
inductive Ent where
  | ir (f : Fn) | xt (g : List D → R D)
abbrev Tab := Nat → Option Ent
def callN (T : Tab) : Nat → CL
  | 0 => fun _ _ => .no
  | n + 1 => fun f ds => match T f with
    | some (.ir fn) => evF (callN T n) fn ds
    | some (.xt g) => g ds
    | none => .no
end MT
namespace MT
open PySem L2

/-! ### values and the heap -/
def dKV (kvs : List (List Int × Int)) : List (List L2.Key × V) := kvs.map fun p => (p.1.map Sum.inl, V.int p.2)
/-- the class of readers -/
noncomputable def rcl (K : PySem.W.Frag) : Addr := He.ga K "Reader"
def rdF (t : List Nat) (p : Int) : List (Str × V) := [("text", .str ⟨t.toArray⟩), ("place", .int p)]
def ObOk (K : PySem.W.Frag) : Ob → HO → Prop
  | .dic kvs, h => h = .dT (dKV kvs)
  | .rdr t p, h => ∃ dx, h = .ins (rcl K) dx (rdF t p)
theorem ObOk.nl {K : PySem.W.Frag} {o : Ob} {vs : List V} (h : ObOk K o (.lst vs)) : False := by
  cases o with
  | dic kvs => cases h
  | rdr t p => obtain ⟨dx, h⟩ := h; cases h
mutual
inductive DV (K : PySem.W.Frag) (F : Hp) : V → D → Prop
  | non : DV K F .non .non
  | bl (b : Bool) : DV K F (.bl b) (.bl b)
  | int (i : Int) : DV K F (.int i) (.int i)
  | str (s : List Nat) : DV K F (.str ⟨s.toArray⟩) (.str s)
  | tup {a : Addr} {vs : List V} {ds : List D} : SqT K F a vs → DVs K F vs ds → DV K F (.ref a) (.tup ds)
  | lst {a : Addr} {vs : List V} {ds : List D} : Rd F a (.lst vs) → DVs K F vs ds → DV K F (.ref a) (.lst ds)
  | scr {a : Addr} {xs : List Int} : SqL K F a (xs.map V.int) → DV K F (.ref a) (.scr xs)
  | dct {a : Addr} {kvs : List (List Int × Int)} : Rd F a (.dT (dKV kvs)) → DV K F (.ref a) (.dct kvs)
inductive DVs (K : PySem.W.Frag) (F : Hp) : List V → List D → Prop
  | nil : DVs K F [] []
  | cons {v : V} {vs : List V} {d : D} {ds : List D} : DV K F v d → DVs K F vs ds → DVs K F (v :: vs) (d :: ds)
end
section
variable {K : PySem.W.Frag} {F F' F1 F2 H H' H1 H2 : Hp}
theorem sqT_mono {a : Addr} {xs : List V} (e : Same F F') (h : SqT K F a xs) : SqT K F' a xs := by
  rcases h with (h | ⟨o, h⟩) | h
  · exact .inl (.inl (e _ _ h))
  · exact .inl (.inr ⟨o, e _ _ h⟩)
  · exact .inr h
theorem rd_mono {a : Addr} {o : HO} (e : Same F F') (h : Rd F a o) : Rd F' a o := by
  rcases h with h | ⟨u, h⟩
  · exact .inl (e _ _ h)
  · exact .inr ⟨u, e _ _ h⟩
theorem sqL_mono {a : Addr} {xs : List V} (e : Same F F') (h : SqL K F a xs) : SqL K F' a xs := by
  rcases h with h | h
  · exact .inl (rd_mono e h)
  · exact .inr h
mutual
theorem DV.mono (e : Same F F') : ∀ {v : V} {d : D}, DV K F v d → DV K F' v d
  | _, _, .non => .non
  | _, _, .bl b => .bl b
  | _, _, .int i => .int i
  | _, _, .str s => .str s
  | _, _, .tup h t => .tup (sqT_mono e h) (DVs.mono e t)
  | _, _, .lst h t => .lst (rd_mono e h) (DVs.mono e t)
  | _, _, .scr h => .scr (sqL_mono e h)
  | _, _, .dct h => .dct (rd_mono e h)
theorem DVs.mono (e : Same F F') : ∀ {vs : List V} {ds : List D}, DVs K F vs ds → DVs K F' vs ds
  | _, _, .nil => .nil
  | _, _, .cons h t => .cons (DV.mono e h) (DVs.mono e t)
end
theorem DVs.length : ∀ {vs : List V} {ds : List D}, DVs K F vs ds → vs.length = ds.length
  | _, _, .nil => rfl
  | _, _, .cons _ t => congrArg (· + 1) (DVs.length t)
theorem DVs.get : ∀ {vs : List V} {ds : List D} {i : Nat} {d : D}, DVs K F vs ds → ds[i]? = some d → ∃ v, vs[i]? = some v ∧ DV K F v d
  | _, _, _, _, .nil, e => by simp at e
  | _, _, 0, _, .cons h _, e => by simp at e; subst e; exact ⟨_, rfl, h⟩
  | _, _, i + 1, d, .cons _ t, e => by
    obtain ⟨v, h1, h2⟩ := DVs.get (i := i) (d := d) t (by simpa using e)
    exact ⟨v, by simpa using h1, h2⟩
theorem DVs.getV : ∀ {vs : List V} {ds : List D} {i : Nat} {v : V}, DVs K F vs ds → vs[i]? = some v → ∃ d, ds[i]? = some d ∧ DV K F v d
  | _, _, _, _, .nil, e => by simp at e
  | _, _, 0, _, .cons h _, e => by simp at e; subst e; exact ⟨_, rfl, h⟩
  | _, _, i + 1, v, .cons _ t, e => by
    obtain ⟨d, h1, h2⟩ := DVs.getV (i := i) (v := v) t (by simpa using e)
    exact ⟨d, by simpa using h1, h2⟩
theorem DVs.append : ∀ {vs ws : List V} {ds es : List D}, DVs K F vs ds → DVs K F ws es → DVs K F (vs ++ ws) (ds ++ es)
  | _, _, _, _, .nil, s => s
  | _, _, _, _, .cons h t, s => .cons h (DVs.append t s)
theorem DVs.take : ∀ {vs : List V} {ds : List D} (n : Nat), DVs K F vs ds → DVs K F (vs.take n) (ds.take n)
  | _, _, 0, _ => .nil
  | _, _, _ + 1, .nil => .nil
  | _, _, n + 1, .cons h t => .cons h (DVs.take n t)
theorem DVs.drop : ∀ {vs : List V} {ds : List D} (n : Nat), DVs K F vs ds → DVs K F (vs.drop n) (ds.drop n)
  | _, _, 0, h => h
  | _, _, _ + 1, .nil => .nil
  | _, _, n + 1, .cons _ t => DVs.drop n t
theorem DVs.set {v : V} {d : D} (h : DV K F v d) : ∀ {vs : List V} {ds : List D} (i : Nat), DVs K F vs ds → DVs K F (vs.set i v) (ds.set i d)
  | _, _, _, .nil => .nil
  | _, _, 0, .cons _ t => .cons h t
  | _, _, i + 1, .cons q t => .cons q (DVs.set h i t)
theorem DVs.reverse : ∀ {vs : List V} {ds : List D}, DVs K F vs ds → DVs K F vs.reverse ds.reverse
  | _, _, .nil => .nil
  | _, _, .cons h t => by
    rw [List.reverse_cons, List.reverse_cons]
    exact (DVs.reverse t).append (.cons h .nil)
theorem DVs.rep {vs : List V} {ds : List D} (h : DVs K F vs ds) : ∀ k : Nat, DVs K F (List.replicate k vs).flatten (List.replicate k ds).flatten
  | 0 => .nil
  | k + 1 => by
    rw [List.replicate_succ, List.replicate_succ, List.flatten_cons, List.flatten_cons]
    exact h.append (DVs.rep h k)
theorem DVs.isEmpty {vs : List V} {ds : List D} (h : DVs K F vs ds) : vs.isEmpty = ds.isEmpty := by cases h <;> rfl

/-! ### how the heap goes on: F the frozen part, H the heap -/
structure Step (F H F' H' : Hp) : Prop where
  f : Same F F'
  h : Same H H'
  s : Same F' H'
  n : ∀ a o, H a = some o → F' a = F a
theorem Step.refl (s : Same F H) : Step F H F H := ⟨Same.refl _, Same.refl _, s, fun _ _ _ => rfl⟩
theorem Step.trans (a : Step F H F1 H1) (b : Step F1 H1 F2 H2) : Step F H F2 H2 :=
  ⟨a.f.trans b.f, a.h.trans b.h, b.s, fun x o e => (b.n x o (a.h x o e)).trans (a.n x o e)⟩
theorem same_new {p : Addr} (h : H p = none) (o : HO) : Same H (upd H p o) := fun b u q => by rw [upd_ne (ne_of_none q h)]; exact q
theorem same_upd2 {p : Addr} {o : HO} (s : Same F H) : Same (upd F p o) (upd H p o) := fun b u q => by
  by_cases e : b = p
  · subst e; rw [upd_same] at q ⊢; exact q
  · rw [upd_ne e] at q ⊢; exact s _ _ q
theorem none_sub {p : Addr} (s : Same F H) (h : H p = none) : F p = none := s.free h
/-- a new object, frozen at once -/
theorem Step.new {p : Addr} {o : HO} (s : Same F H) (h : H p = none) : Step F H (upd F p o) (upd H p o) :=
  ⟨same_new (none_sub s h) o, same_new h o, same_upd2 s, fun a u e => by rw [upd_ne (ne_of_none e h)]⟩

/-- a value, or a list of the def's own that is lent -/
def DB (K : PySem.W.Frag) (F H : Hp) (v : V) (d : D) : Prop := DV K F v d ∨ ∃ a vs xs, v = .ref a ∧ d = .lst xs ∧ H a = some (.lst vs) ∧ DVs K F vs xs
theorem DB.mono {v : V} {d : D} (s : Step F H F' H') (h : DB K F H v d) : DB K F' H' v d := by
  rcases h with h | ⟨a, vs, xs, e1, e2, e3, h⟩
  · exact .inl (h.mono s.f)
  · exact .inr ⟨a, vs, xs, e1, e2, s.h _ _ e3, h.mono s.f⟩
/-- a list to be read -/
theorem DB.list {v : V} {ds : List D} (s : Same F H) (h : DB K F H v (.lst ds)) : ∃ a vs, v = .ref a ∧ Rd H a (.lst vs) ∧ DVs K F vs ds := by
  rcases h with h | ⟨a, vs, xs, e1, e2, e3, h⟩
  · cases h with
    | lst q t => exact ⟨_, _, rfl, rd_mono s q, t⟩
  · cases e2
    exact ⟨a, vs, e1, .inl e3, h⟩
theorem DB.tuple {v : V} {ds : List D} (s : Same F H) (h : DB K F H v (.tup ds)) : ∃ a vs, v = .ref a ∧ SqT K H a vs ∧ SqT K F a vs ∧ DVs K F vs ds := by
  rcases h with h | ⟨a, vs, xs, e1, e2, e3, h⟩
  · cases h with
    | tup q t => exact ⟨_, _, rfl, sqT_mono s q, q, t⟩
  · cases e2
theorem DB.script {v : V} {xs : List Int} (s : Same F H) (h : DB K F H v (.scr xs)) : ∃ a, v = .ref a ∧ SqL K H a (xs.map V.int) := by
  rcases h with h | ⟨a, vs, ys, e1, e2, e3, h⟩
  · cases h with
    | scr q => exact ⟨_, rfl, sqL_mono s q⟩
  · cases e2
theorem DB.dict {v : V} {kvs : List (List Int × Int)} (h : DB K F H v (.dct kvs)) : ∃ a, v = .ref a := by
  rcases h with h | ⟨a, vs, xs, e1, e2, e3, h⟩
  · cases h; exact ⟨_, rfl⟩
  · cases e2
theorem DB.str {v : V} {x : List Nat} (h : DB K F H v (.str x)) : v = .str ⟨x.toArray⟩ := by
  rcases h with h | ⟨a, vs, xs, e1, e2, e3, h⟩
  · cases h; rfl
  · cases e2
theorem DB.int {v : V} {x : Int} (h : DB K F H v (.int x)) : v = .int x := by
  rcases h with h | ⟨a, vs, xs, e1, e2, e3, h⟩
  · cases h; rfl
  · cases e2
theorem DB.bl {v : V} {x : Bool} (h : DB K F H v (.bl x)) : v = .bl x := by
  rcases h with h | ⟨a, vs, xs, e1, e2, e3, h⟩
  · cases h; rfl
  · cases e2
theorem DB.non {v : V} (h : DB K F H v .non) : v = .non := by
  rcases h with h | ⟨a, vs, xs, e1, e2, e3, h⟩
  · cases h; rfl
  · cases e2
theorem DV.sInv {v : V} {x : List Nat} (h : DV K F v (.str x)) : v = .str ⟨x.toArray⟩ := by cases h; rfl
theorem DV.iInv {v : V} {x : Int} (h : DV K F v (.int x)) : v = .int x := by cases h; rfl
theorem DV.bInv {v : V} {x : Bool} (h : DV K F v (.bl x)) : v = .bl x := by cases h; rfl
theorem DV.nInv {v : V} (h : DV K F v .non) : v = .non := by cases h; rfl

/-! ### the slots -/
structure Rel (K : PySem.W.Frag) (F : Hp) (ρ : MT.Env) (σ : L2.St) (H : Hp) : Prop where
  len : ρ.length = σ.length
  sub : Same F H
  val : ∀ (i : Nat) (d : D), ρ[i]? = some (.val d) → ∃ v, σ[i]? = some (some v) ∧ DV K F v d
  own : ∀ (i : Nat) (xs : List D), ρ[i]? = some (.own xs) → ∃ a vs, σ[i]? = some (some (.ref a)) ∧ H a = some (.lst vs) ∧ F a = none ∧ DVs K F vs xs
  apart : ∀ (i j : Nat) (xs ys : List D) (a : Addr), ρ[i]? = some (.own xs) → ρ[j]? = some (.own ys) → σ[i]? = some (some (.ref a)) → σ[j]? = some (some (.ref a)) → i = j
  obj : ∀ (i : Nat) (tk : Option Nat) (o : Ob), ρ[i]? = some (.obj tk o) → ∃ a ho, σ[i]? = some (some (.ref a)) ∧ (∀ b, tk = some b → a = b) ∧ H a = some ho ∧ ObOk K o ho ∧ F a = none
  one : ∀ (i j : Nat) (tk tk' : Option Nat) (o o' : Ob), ρ[i]? = some (.obj tk o) → ρ[j]? = some (.obj tk' o') → i = j
variable {ρ : MT.Env} {σ : L2.St}
theorem Rel.step (r : Rel K F ρ σ H) (s : Step F H F' H') : Rel K F' ρ σ H' := by
  refine ⟨r.len, s.s, fun i d e => ?_, fun i xs e => ?_, r.apart, fun i tk o e => ?_, r.one⟩
  · obtain ⟨v, e1, h⟩ := r.val i d e
    exact ⟨v, e1, h.mono s.f⟩
  · obtain ⟨a, vs, e1, e2, e3, h⟩ := r.own i xs e
    exact ⟨a, vs, e1, s.h _ _ e2, (s.n a _ e2).trans e3, h.mono s.f⟩
  · obtain ⟨a, ho, e1, e2, e3, e4, e5⟩ := r.obj i tk o e
    exact ⟨a, ho, e1, e2, s.h _ _ e3, e4, (s.n a _ e3).trans e5⟩
theorem set_obj {ρ : MT.Env} {i j : Nat} {v : SV} {tk : Option Nat} {o : Ob} (hv : v.nob = true) (h : (ρ.set i v)[j]? = some (.obj tk o)) : j ≠ i ∧ ρ[j]? = some (.obj tk o) := by
  by_cases hj : j = i
  · subst hj
    by_cases hi : j < ρ.length
    · rw [List.getElem?_set_self hi] at h
      cases h
      cases hv
    · rw [List.getElem?_eq_none (by simpa using hi)] at h
      cases h
  · rw [List.getElem?_set_ne (Ne.symm hj)] at h
    exact ⟨hj, h⟩
theorem Rel.obj_set {i : Nat} {v : SV} {w : Option V} (r : Rel K F ρ σ H) (hv : v.nob = true) : ∀ (j : Nat) (tk : Option Nat) (o : Ob), (ρ.set i v)[j]? = some (.obj tk o) → ∃ a ho, (σ.set i w)[j]? = some (some (.ref a)) ∧ (∀ b, tk = some b → a = b) ∧ H a = some ho ∧ ObOk K o ho ∧ F a = none := fun j tk o e => by
  obtain ⟨hj, e⟩ := set_obj hv e
  rw [List.getElem?_set_ne (Ne.symm hj)]
  exact r.obj j tk o e
theorem Rel.one_set {i : Nat} {v : SV} (r : Rel K F ρ σ H) (hv : v.nob = true) : ∀ (j k : Nat) (tk tk' : Option Nat) (o o' : Ob), (ρ.set i v)[j]? = some (.obj tk o) → (ρ.set i v)[k]? = some (.obj tk' o') → j = k := fun j k tk tk' o o' e e' =>
  r.one j k tk tk' o o' (set_obj hv e).2 (set_obj hv e').2
/-- a slot gets a value -/
theorem Rel.put {i : Nat} {v : V} {d : D} (r : Rel K F ρ σ H) (hi : i < ρ.length) (h : DV K F v d) : Rel K F (ρ.set i (.val d)) (σ.set i (some v)) H := by
  have hi' : i < σ.length := r.len ▸ hi
  refine ⟨by simp [r.len], r.sub, fun j e q => ?_, fun j xs q => ?_, fun j k xs ys a q1 q2 q3 q4 => ?_, r.obj_set rfl, r.one_set rfl⟩
  · by_cases hj : j = i
    · subst hj
      rw [List.getElem?_set_self hi] at q
      cases q
      exact ⟨v, List.getElem?_set_self hi', h⟩
    · rw [List.getElem?_set_ne (Ne.symm hj)] at q ⊢
      exact r.val j e q
  · by_cases hj : j = i
    · subst hj
      rw [List.getElem?_set_self hi] at q
      cases q
    · rw [List.getElem?_set_ne (Ne.symm hj)] at q ⊢
      exact r.own j xs q
  · by_cases hj : j = i
    · subst hj
      rw [List.getElem?_set_self hi] at q1
      cases q1
    · by_cases hk : k = i
      · subst hk
        rw [List.getElem?_set_self hi] at q2
        cases q2
      · rw [List.getElem?_set_ne (Ne.symm hj)] at q1 q3
        rw [List.getElem?_set_ne (Ne.symm hk)] at q2 q4
        exact r.apart j k xs ys a q1 q2 q3 q4
/-- a slot gets a list of its own -/
theorem Rel.putOwn {i : Nat} {a : Addr} {vs : List V} {ds : List D} (r : Rel K F ρ σ H) (hi : i < ρ.length) (ha : H a = some (.lst vs)) (hf : F a = none) (h : DVs K F vs ds)
    (hn : ∀ j xs, j ≠ i → ρ[j]? = some (.own xs) → σ[j]? ≠ some (some (.ref a))) : Rel K F (ρ.set i (.own ds)) (σ.set i (some (.ref a))) H := by
  have hi' : i < σ.length := r.len ▸ hi
  refine ⟨by simp [r.len], r.sub, fun j e q => ?_, fun j xs q => ?_, fun j k xs ys b q1 q2 q3 q4 => ?_, r.obj_set rfl, r.one_set rfl⟩
  · by_cases hj : j = i
    · subst hj
      rw [List.getElem?_set_self hi] at q
      cases q
    · rw [List.getElem?_set_ne (Ne.symm hj)] at q ⊢
      exact r.val j e q
  · by_cases hj : j = i
    · subst hj
      rw [List.getElem?_set_self hi] at q
      cases q
      exact ⟨a, vs, List.getElem?_set_self hi', ha, hf, h⟩
    · rw [List.getElem?_set_ne (Ne.symm hj)] at q ⊢
      exact r.own j xs q
  · by_cases hj : j = i
    · subst hj
      by_cases hk : k = j
      · exact hk.symm
      · rw [List.getElem?_set_ne (Ne.symm hk)] at q2 q4
        rw [List.getElem?_set_self hi'] at q3
        cases q3
        exact absurd q4 (hn k ys hk q2)
    · by_cases hk : k = i
      · subst hk
        rw [List.getElem?_set_ne (Ne.symm hj)] at q1 q3
        rw [List.getElem?_set_self hi'] at q4
        cases q4
        exact absurd q3 (hn j xs hj q1)
      · rw [List.getElem?_set_ne (Ne.symm hj)] at q1 q3
        rw [List.getElem?_set_ne (Ne.symm hk)] at q2 q4
        exact r.apart j k xs ys b q1 q2 q3 q4
/-- the list of a slot's own is changed -/
theorem Rel.upd {i : Nat} {a : Addr} {vs : List V} {xs ds : List D} (r : Rel K F ρ σ H) (ho : ρ[i]? = some (.own xs)) (ha : σ[i]? = some (some (.ref a))) (h : DVs K F vs ds) :
    Rel K F (ρ.set i (.own ds)) σ (upd H a (.lst vs)) := by
  obtain ⟨a', vs', e1, e2, e3, _⟩ := r.own i xs ho
  rw [ha] at e1
  cases e1
  have hi : i < ρ.length := (List.getElem?_eq_some_iff.mp ho).1
  have sub : Same F (L2.upd H a (.lst vs)) := fun b o q => by rw [upd_ne (ne_of_none q e3)]; exact r.sub _ _ q
  refine ⟨by simp [r.len], sub, fun j e q => ?_, fun j ys q => ?_, fun j k ys zs b q1 q2 q3 q4 => ?_, fun j tk o q => ?_, r.one_set rfl⟩
  · by_cases hj : j = i
    · subst hj
      rw [List.getElem?_set_self hi] at q
      cases q
    · rw [List.getElem?_set_ne (Ne.symm hj)] at q
      exact r.val j e q
  · by_cases hj : j = i
    · subst hj
      rw [List.getElem?_set_self hi] at q
      cases q
      exact ⟨a, vs, ha, upd_same, e3, h⟩
    · rw [List.getElem?_set_ne (Ne.symm hj)] at q
      obtain ⟨b, ws, f1, f2, f3, f4⟩ := r.own j ys q
      refine ⟨b, ws, f1, ?_, f3, f4⟩
      rw [upd_ne]
      · exact f2
      · rintro rfl
        exact hj (r.apart j i ys xs b q ho f1 ha)
  · have q1' : ∃ w, ρ[j]? = some (.own w) := by
      by_cases hj : j = i
      · exact ⟨xs, hj ▸ ho⟩
      · rw [List.getElem?_set_ne (Ne.symm hj)] at q1; exact ⟨ys, q1⟩
    have q2' : ∃ w, ρ[k]? = some (.own w) := by
      by_cases hk : k = i
      · exact ⟨xs, hk ▸ ho⟩
      · rw [List.getElem?_set_ne (Ne.symm hk)] at q2; exact ⟨zs, q2⟩
    obtain ⟨w1, q1'⟩ := q1'
    obtain ⟨w2, q2'⟩ := q2'
    exact r.apart j k w1 w2 b q1' q2' q3 q4
  · obtain ⟨hj, q⟩ := set_obj rfl q
    obtain ⟨b, ho', f1, f2, f3, f4, f5⟩ := r.obj j tk o q
    refine ⟨b, ho', f1, f2, ?_, f4, f5⟩
    rw [upd_ne]
    · exact f3
    · rintro rfl
      rw [e2] at f3
      cases f3
      exact f4.nl
/-- a list of a slot's own is frozen -/
theorem Rel.frzX {i : Nat} {xs : List D} (r : Rel K F ρ σ H) (ho : ρ[i]? = some (.own xs)) : ∃ F', Same F F' ∧ Rel K F' (ρ.set i (.val (.lst xs))) σ H ∧ ∃ a vs, σ[i]? = some (some (.ref a)) ∧ H a = some (.lst vs) ∧ F' = L2.upd F a (.lst vs) := by
  obtain ⟨a, vs, e1, e2, e3, h⟩ := r.own i xs ho
  have hi : i < ρ.length := (List.getElem?_eq_some_iff.mp ho).1
  have sF : Same F (L2.upd F a (.lst vs)) := same_new e3 _
  refine ⟨L2.upd F a (.lst vs), sF, ⟨by simp [r.len], fun b o q => ?_, fun j d q => ?_, fun j ys q => ?_, fun j k ys zs b q1 q2 q3 q4 => ?_, fun j tk o q => ?_, r.one_set rfl⟩, a, vs, e1, e2, rfl⟩
  · by_cases hb : b = a
    · subst hb; rw [upd_same] at q; rw [← q]; exact e2
    · rw [upd_ne hb] at q; exact r.sub _ _ q
  · by_cases hj : j = i
    · subst hj
      rw [List.getElem?_set_self hi] at q
      cases q
      exact ⟨.ref a, e1, .lst (.inl upd_same) (h.mono sF)⟩
    · rw [List.getElem?_set_ne (Ne.symm hj)] at q
      obtain ⟨v, f1, f2⟩ := r.val j d q
      exact ⟨v, f1, f2.mono sF⟩
  · by_cases hj : j = i
    · subst hj
      rw [List.getElem?_set_self hi] at q
      cases q
    · rw [List.getElem?_set_ne (Ne.symm hj)] at q
      obtain ⟨b, ws, f1, f2, f3, f4⟩ := r.own j ys q
      refine ⟨b, ws, f1, f2, ?_, f4.mono sF⟩
      rw [upd_ne]
      · exact f3
      · rintro rfl
        exact hj (r.apart j i ys xs b q ho f1 e1)
  · by_cases hj : j = i
    · subst hj
      rw [List.getElem?_set_self hi] at q1
      cases q1
    · by_cases hk : k = i
      · subst hk
        rw [List.getElem?_set_self hi] at q2
        cases q2
      · rw [List.getElem?_set_ne (Ne.symm hj)] at q1
        rw [List.getElem?_set_ne (Ne.symm hk)] at q2
        exact r.apart j k ys zs b q1 q2 q3 q4
  · obtain ⟨hj, q⟩ := set_obj rfl q
    obtain ⟨b, ho', f1, f2, f3, f4, f5⟩ := r.obj j tk o q
    refine ⟨b, ho', f1, f2, f3, f4, ?_⟩
    rw [upd_ne]
    · exact f5
    · rintro rfl
      rw [e2] at f3
      cases f3
      exact f4.nl
theorem Rel.frz {i : Nat} {xs : List D} (r : Rel K F ρ σ H) (ho : ρ[i]? = some (.own xs)) : ∃ F', Same F F' ∧ Rel K F' (ρ.set i (.val (.lst xs))) σ H := let ⟨F', s, r', _⟩ := r.frzX ho; ⟨F', s, r'⟩
theorem Rel.frzE {i : Nat} {a : Addr} {vs : List V} {xs : List D} (r : Rel K F ρ σ H) (ho : ρ[i]? = some (.own xs)) (ha : σ[i]? = some (some (.ref a))) (hH : H a = some (.lst vs)) : ∃ F', Same F F' ∧ Rel K F' (ρ.set i (.val (.lst xs))) σ H ∧ F' = L2.upd F a (.lst vs) := by
  obtain ⟨F', s, r', e⟩ := r.frzX ho
  obtain ⟨a', vs', e1, e2, e3⟩ := e
  rw [ha] at e1
  cases e1
  rw [hH] at e2
  cases e2
  exact ⟨F', s, r', e3⟩
/-- an object that no slot owns, and that is not frozen, may change -/
theorem Rel.side {p : Addr} {o : HO} (r : Rel K F ρ σ H) (hf : F p = none) (hn : ∀ (i : Nat) (xs : List D), ρ[i]? = some (.own xs) → σ[i]? ≠ some (some (.ref p))) (hm : ∀ (i : Nat) (tk : Option Nat) (o : Ob), ρ[i]? = some (.obj tk o) → σ[i]? ≠ some (some (.ref p))) : Rel K F ρ σ (L2.upd H p o) := by
  refine ⟨r.len, fun b u q => by rw [upd_ne (ne_of_none q hf)]; exact r.sub _ _ q, r.val, fun i xs q => ?_, r.apart, fun i tk o q => ?_, r.one⟩
  obtain ⟨a, vs, e1, e2, e3, h⟩ := r.own i xs q
  refine ⟨a, vs, e1, ?_, e3, h⟩
  rw [upd_ne]
  · exact e2
  · rintro rfl
    exact hn i xs q e1
  · obtain ⟨a, ho', e1, e2, e3, e4, e5⟩ := r.obj i tk o q
    refine ⟨a, ho', e1, e2, ?_, e4, e5⟩
    rw [upd_ne]
    · exact e3
    · rintro rfl
      exact hm i tk o q e1
/-- a slot gets an object of its own -/
theorem Rel.putObj {i : Nat} {a : Addr} {ho : HO} {tk : Option Nat} {o : Ob} (r : Rel K F ρ σ H) (hi : i < ρ.length) (ht : ∀ b, tk = some b → a = b) (ha : H a = some ho) (ok : ObOk K o ho) (hf : F a = none)
    (hn : ∀ j tk' o', j ≠ i → ρ[j]? ≠ some (.obj tk' o')) : Rel K F (ρ.set i (.obj tk o)) (σ.set i (some (.ref a))) H := by
  have hi' : i < σ.length := r.len ▸ hi
  have same : ∀ j, j ≠ i → (ρ.set i (.obj tk o))[j]? = ρ[j]? ∧ (σ.set i (some (.ref a)))[j]? = σ[j]? := fun j hj => ⟨List.getElem?_set_ne (Ne.symm hj), List.getElem?_set_ne (Ne.symm hj)⟩
  have self : (ρ.set i (.obj tk o))[i]? = some (.obj tk o) := List.getElem?_set_self hi
  have key : ∀ j tk' o', (ρ.set i (.obj tk o))[j]? = some (.obj tk' o') → j = i := fun j tk' o' e => by
    by_cases hj : j = i
    · exact hj
    · rw [(same j hj).1] at e
      exact absurd e (hn j tk' o' hj)
  refine ⟨by simp [r.len], r.sub, fun j d q => ?_, fun j xs q => ?_, fun j k xs ys b q1 q2 q3 q4 => ?_, fun j tk' o' q => ?_, fun j k t1 t2 o1 o2 q1 q2 => (key j t1 o1 q1).trans (key k t2 o2 q2).symm⟩
  · have hj : j ≠ i := fun e => by subst e; rw [self] at q; cases q
    rw [(same j hj).1] at q
    rw [(same j hj).2]
    exact r.val j d q
  · have hj : j ≠ i := fun e => by subst e; rw [self] at q; cases q
    rw [(same j hj).1] at q
    rw [(same j hj).2]
    exact r.own j xs q
  · have hj : j ≠ i := fun e => by subst e; rw [self] at q1; cases q1
    have hk : k ≠ i := fun e => by subst e; rw [self] at q2; cases q2
    rw [(same j hj).1] at q1
    rw [(same j hj).2] at q3
    rw [(same k hk).1] at q2
    rw [(same k hk).2] at q4
    exact r.apart j k xs ys b q1 q2 q3 q4
  · have hj := key j tk' o' q
    subst hj
    rw [self] at q
    cases q
    exact ⟨a, ho, List.getElem?_set_self hi', ht, ha, ok, hf⟩
/-- the object of a slot changes -/
theorem Rel.updObj {i : Nat} {a : Addr} {ho : HO} {tk : Option Nat} {o o' : Ob} (r : Rel K F ρ σ H) (e : ρ[i]? = some (.obj tk o)) (ha : σ[i]? = some (some (.ref a))) (ok : ObOk K o' ho) :
    Rel K F (ρ.set i (.obj tk o')) σ (L2.upd H a ho) := by
  obtain ⟨a', ho0, e1, e2, e3, e4, e5⟩ := r.obj i tk o e
  rw [ha] at e1
  cases e1
  have hi : i < ρ.length := (List.getElem?_eq_some_iff.mp e).1
  have self : (ρ.set i (.obj tk o'))[i]? = some (.obj tk o') := List.getElem?_set_self hi
  have same : ∀ j, j ≠ i → (ρ.set i (.obj tk o'))[j]? = ρ[j]? := fun j hj => List.getElem?_set_ne (Ne.symm hj)
  have key : ∀ j tk' o'', (ρ.set i (.obj tk o'))[j]? = some (.obj tk' o'') → j = i := fun j tk' o'' q => by
    by_cases hj : j = i
    · exact hj
    · rw [same j hj] at q
      exact r.one j i _ _ _ _ q e
  refine ⟨by simp [r.len], fun b u q => by rw [upd_ne (ne_of_none q e5)]; exact r.sub _ _ q, fun j d q => ?_, fun j xs q => ?_, fun j k xs ys b q1 q2 q3 q4 => ?_, fun j tk' o'' q => ?_, fun j k t1 t2 o1 o2 q1 q2 => (key j t1 o1 q1).trans (key k t2 o2 q2).symm⟩
  · have hj : j ≠ i := fun e => by subst e; rw [self] at q; cases q
    rw [same j hj] at q
    exact r.val j d q
  · have hj : j ≠ i := fun e => by subst e; rw [self] at q; cases q
    rw [same j hj] at q
    obtain ⟨b, ws, f1, f2, f3, f4⟩ := r.own j xs q
    refine ⟨b, ws, f1, ?_, f3, f4⟩
    rw [upd_ne]
    · exact f2
    · rintro rfl
      rw [e3] at f2
      cases f2
      exact e4.nl
  · have hj : j ≠ i := fun e => by subst e; rw [self] at q1; cases q1
    have hk : k ≠ i := fun e => by subst e; rw [self] at q2; cases q2
    rw [same j hj] at q1
    rw [same k hk] at q2
    exact r.apart j k xs ys b q1 q2 q3 q4
  · have hj := key j tk' o'' q
    subst hj
    rw [self] at q
    cases q
    exact ⟨a, ho, ha, e2, upd_same, ok, e5⟩
end
end MT
namespace MT
open PySem L2

/-! ### what is wanted behind an evaluation -/
abbrev WN := Nat → L2.St → Hp → Prop
def Out {α β : Type} (W : WN) (F H : Hp) (σ : L2.St) (r : R α) (Y : Hp → Hp → β → α → Prop) (Q : β → Hp → Prop) : Prop := match r with
  | .ok d => ∀ F' H' v, Step F H F' H' → Y F' H' v d → Q v H'
  | .ex c => ∀ F' H', Step F H F' H' → W c σ H'
  | .no => False
theorem Out.mono {α β : Type} {W : WN} {F H F' H' : Hp} {σ : L2.St} {r : R α} {Y : Hp → Hp → β → α → Prop} {Q : β → Hp → Prop} (s : Step F H F' H') (h : Out W F H σ r Y Q) : Out W F' H' σ r Y Q := by
  cases r with
  | ok d => exact fun F2 H2 v s2 y => h F2 H2 v (s.trans s2) y
  | ex c => exact fun F2 H2 s2 => h F2 H2 (s.trans s2)
  | no => exact h
theorem Out.bind {α β γ δ : Type} {W : WN} {F H : Hp} {σ : L2.St} {r : R α} {f : α → R γ} {Y : Hp → Hp → β → α → Prop} {Z : Hp → Hp → δ → γ → Prop} {Q : δ → Hp → Prop} {Q1 : β → Hp → Prop}
    (h : Out W F H σ (r.bind f) Z Q) (k : ∀ F' H' v d, Step F H F' H' → Y F' H' v d → Out W F' H' σ (f d) Z Q → Q1 v H') : Out W F H σ r Y Q1 := by
  cases r with
  | ok d =>
    have h' : Out W F H σ (f d) Z Q := h
    exact fun F2 H2 v s2 y => k F2 H2 v d s2 y (h'.mono s2)
  | ex c => exact h
  | no => exact h
/-- .. with what came -/
theorem Out.bindE {α β γ δ : Type} {W : WN} {F H : Hp} {σ : L2.St} {r : R α} {f : α → R γ} {Y : Hp → Hp → β → α → Prop} {Z : Hp → Hp → δ → γ → Prop} {Q : δ → Hp → Prop} {Q1 : β → Hp → Prop}
    (h : Out W F H σ (r.bind f) Z Q) (k : ∀ F' H' v d, r = .ok d → Step F H F' H' → Y F' H' v d → Out W F' H' σ (f d) Z Q → Q1 v H') : Out W F H σ r Y Q1 := by
  cases r with
  | ok d =>
    have h' : Out W F H σ (f d) Z Q := h
    exact fun F2 H2 v s2 y => k F2 H2 v d rfl s2 y (h'.mono s2)
  | ex c => exact h
  | no => exact h
/-- a result without exceptions -/
def OutP (K : PySem.W.Frag) (F H : Hp) (r : R D) (Q : VK) : Prop := match r with
  | .ok d => ∀ F' H' v, Step F H F' H' → DV K F' v d → Q v H'
  | _ => False
abbrev YV (K : PySem.W.Frag) : Hp → Hp → V → D → Prop := fun F _ v d => DV K F v d
abbrev YB (K : PySem.W.Frag) : Hp → Hp → V → D → Prop := fun F H v d => DB K F H v d
theorem Out.prim {K : PySem.W.Frag} {W : WN} {F H : Hp} {σ : L2.St} {r : R D} {Q : VK} (h : Out W F H σ r (YV K) Q) (n : ∀ c, r ≠ .ex c) : OutP K F H r Q := by
  cases r with
  | ok d => exact h
  | ex c => exact absurd rfl (n c)
  | no => exact h
theorem OutP.guard {K : PySem.W.Frag} {F H : Hp} {b : Bool} {r : R D} {Q : VK} (h : OutP K F H (guardR b r) Q) : b = true ∧ OutP K F H r Q := by
  cases b with
  | true => exact ⟨rfl, h⟩
  | false => exact (show False from h).elim
theorem OutP.here {K : PySem.W.Frag} {F H : Hp} {d : D} {v : V} {Q : VK} (h : OutP K F H (.ok d) Q) (s : Same F H) (y : DV K F v d) : Q v H := h F H v (Step.refl s) y
theorem OutP.new {K : PySem.W.Frag} {F H : Hp} {d : D} {p : Addr} {o : HO} {Q : VK} (h : OutP K F H (.ok d) Q) (s : Same F H) (hp : H p = none) (y : DV K (upd F p o) (.ref p) d) : Q (.ref p) (upd H p o) := h _ _ _ (Step.new s hp) y
theorem guard_ex {α : Type} {b : Bool} {r : R α} {c : Nat} (h : ∀ c, r ≠ .ex c) : guardR b r ≠ .ex c := by
  cases b with
  | true => exact h c
  | false => exact fun z => nomatch z
theorem ok_ex {α : Type} {a : α} : ∀ c, R.ok a ≠ .ex c := fun _ z => nomatch z
theorem no_ex {α : Type} : ∀ c, (R.no : R α) ≠ .ex c := fun _ z => nomatch z

def sizeLine_eq : sizeLine = 16777216 := rfl
theorem sz_ok {n : Nat} (h : sz n = true) : n ≤ sizeLine := of_decide_eq_true h
theorem slen (s : List Nat) : Str.length ⟨s.toArray⟩ = s.length := by simp [Str.length]
theorem sapp (s t : List Nat) : ((⟨s.toArray⟩ : Str) ++ (⟨t.toArray⟩ : Str)) = ⟨(s ++ t).toArray⟩ := TL.ext_tl (by rw [TL.tl_append] <;> rfl)
theorem dv_tup_new {K : PySem.W.Frag} {F : Hp} {p : Addr} {vs : List V} {ds : List D} (hp : F p = none) (h : DVs K F vs ds) : DV K (upd F p (.tup vs)) (.ref p) (.tup ds) := .tup (.inl (.inl upd_same)) (h.mono (same_new hp _))
theorem dv_lst_new {K : PySem.W.Frag} {F : Hp} {p : Addr} {vs : List V} {ds : List D} (hp : F p = none) (h : DVs K F vs ds) : DV K (upd F p (.lst vs)) (.ref p) (.lst ds) := .lst (.inl upd_same) (h.mono (same_new hp _))

section
variable {X : Cx}

/-! ### two-place operations -/
def rP2 (K : PySem.W.Frag) (g : D → D → R D) : R2 := fun x y H Q => ∃ F dx dy, Same F H ∧ DB K F H x dx ∧ DB K F H y dy ∧ OutP K F H (g dx dy) Q

theorem op_catR : OpR X (binaryOp .Add) (fun x y H Q => ∃ l b xs zs, x = .ref l ∧ y = .ref b ∧ Rd H l (.lst xs) ∧ Rd H b (.lst zs) ∧ xs.length + zs.length ≤ sizeLine ∧ ∀ p, H p = none → Q (.ref p) (upd H p (.lst (xs ++ zs)))) := by
  intro pins s σ H x y v u Q I rx ry h
  obtain ⟨l, b, xs, zs, rfl, rfl, hH, hB, hz, q⟩ := h
  cases rx
  cases ry
  obtain ⟨z, its, n, r, e⟩ := hH.ok I.hok
  obtain ⟨z2, its2, n2, r2, e2⟩ := hB.ok I.hok
  have hl := r.length
  have hl2 := r2.length
  refine PySem.P.add_list e e2 ?_ (by rw [List.size_toArray, List.size_toArray]; omega)
  have ea : its.toArray ++ its2.toArray = (its ++ its2).toArray := by simp
  rw [ea]
  exact ⟨.ref _, _, I.lnew (t' := s.toks) (r.append r2) (by rw [List.length_append]; omega), rfl, q _ I.fresh⟩

theorem foldl_cps (s : List Nat) : ∀ (k : Nat) (acc : List Nat), List.foldl (fun x1 x2 => x1 ++ x2) acc.toArray (List.replicate k s.toArray) = (acc ++ (List.replicate k s).flatten).toArray
  | 0, acc => by simp
  | k + 1, acc => by
    have e : acc.toArray ++ s.toArray = (acc ++ s).toArray := by simp
    have e2 : (acc ++ s) ++ (List.replicate k s).flatten = acc ++ (List.replicate (k + 1) s).flatten := by
      rw [List.replicate_succ, List.flatten_cons, List.append_assoc]
    rw [← e2, ← foldl_cps s k (acc ++ s), ← e, List.replicate_succ, List.foldl_cons]
theorem op_mulS : OpR X (binaryOp .Mult) (fun x y H Q => ∃ (s : List Nat) (n : Int), x = .str ⟨s.toArray⟩ ∧ y = .int n ∧ -(2 ^ 30) < n ∧ n < 2 ^ 30 ∧ s.length * n.toNat ≤ sizeLine ∧ Q (.str ⟨((List.replicate n.toNat s).flatten).toArray⟩) H) := by
  intro pins s0 σ H x y v u Q I rx ry h
  obtain ⟨s, n, rfl, rfl, h1, h2, hz, q⟩ := h
  obtain ⟨t, rfl⟩ := rx
  obtain ⟨t', rfl⟩ := ry
  refine PySem.P.mul_str ?_ (fun h3 h4 => ?_) (fun h3 h4 => ?_) ?_
  · rw [decide_eq_false (by omega), decide_eq_false (by omega)]; rfl
  · rw [slen]
    intro hgt
    have hs0 : s.length ≠ 0 := fun e => by rw [slen, e] at h4; simp at h4
    have h5 : (2 ^ 63 - 1 : Int) / n ≥ 2 ^ 24 := by
      have : (2 ^ 24 : Int) * n ≤ 2 ^ 63 - 1 := by omega
      exact (Int.le_ediv_iff_mul_le (by omega)).mpr this
    have h6 : s.length ≤ s.length * n.toNat := Nat.le_mul_of_pos_right _ (by omega)
    have h7 : s.length ≤ 2 ^ 24 := Nat.le_trans h6 hz
    omega
  · rw [slen]
    unfold PySem.Builtin.Str.tooLong
    exact decide_eq_false (by omega)
  · by_cases c1 : n < 1
    · rw [if_pos c1]
      refine ⟨by decide, ?_⟩
      have e0 : n.toNat = 0 := by omega
      rw [e0] at q
      exact ⟨.str _, H, I.tok _, ⟨_, rfl⟩, q⟩
    · rw [if_neg c1]
      by_cases c2 : (n == 1 || Str.length ⟨s.toArray⟩ == 0) = true
      · rw [if_pos c2]
        have e : (List.replicate n.toNat s).flatten = s := by
          rcases Bool.or_eq_true_iff.mp c2 with c | c
          · have : n = 1 := by simpa using c
            subst this
            simp
          · rw [slen] at c
            have : s = [] := by simpa using c
            subst this
            simp
        rw [e] at q
        exact ⟨.str _, H, I, ⟨_, rfl⟩, q⟩
      · rw [if_neg c2]
        have e := foldl_cps s n.toNat []
        rw [List.nil_append] at e
        show Made.post (Made.str ⟨List.foldl (fun x1 x2 => x1 ++ x2) #[] (List.replicate n.toNat s.toArray)⟩) _ s0
        rw [e]
        refine ⟨?_, ⟨.str _, H, I.tok _, ⟨_, rfl⟩, q⟩⟩
        have : (Str.length ⟨((List.replicate n.toNat s).flatten).toArray⟩) = s.length * n.toNat := by
          rw [slen, PyProof.Rows.lm_len_rep_flat, Nat.mul_comm]
        rw [this]
        exact hz

/-- a list that may be locked, times a number -/
theorem op_repF : OpR X (binaryOp .Mult) (fun x y H Q => ∃ (l : Addr) (m : Int) (zs : List V) (ob : Obj), x = .ref l ∧ y = .int m ∧ H l = some (.frz ob (.lst zs)) ∧ -(2 ^ 63) ≤ m ∧ m < 2 ^ 63 ∧ zs.length * m.toNat ≤ sizeLine ∧
    ∀ p, H p = none → Q (.ref p) (upd H p (.lst (List.replicate m.toNat zs).flatten))) := by
  intro pins st σ H x y a b Q J ra rb hyp
  obtain ⟨l, m, zs, ob, rfl, rfl, hl, lo, hi, fit, fin⟩ := hyp
  obtain ⟨_, le, its, k, vals, at_⟩ := J.hok l _ hl
  have same := vals.length
  obtain ⟨t, rfl⟩ := rb
  cases ra
  have small : its.toArray.size * m.toNat ≤ sizeLine := by simpa [← same] using fit
  have big : (sizeLine : Nat) ≤ (2 ^ 63 - 1) / 8 := by decide
  have e0 : ∀ j : Nat, List.foldl (fun c d => c ++ d) #[] (List.replicate j its.toArray) = (List.replicate j its).flatten.toArray := fun j => by simpa using foldl_rep its j []
  have enew : List.foldl (fun c d => c ++ d) #[] (List.replicate (if its.toArray.isEmpty = true then 0 else m.toNat) its.toArray) = (List.replicate m.toNat its).flatten.toArray := by
    rw [e0]
    cases its <;> simp
  have h1 : ¬ (!Builtin.List.listFitsIndex m) = true := by simp [fitsIndex_both lo hi]
  have h2 : ¬ its.toArray.size * m.toNat > (2 ^ 63 - 1) / 8 := Nat.not_lt.mpr (Nat.le_trans small big)
  have h3 : ¬ Builtin.List.listTooLong (its.toArray.size * m.toNat) = true := by rw [notLongL small]; decide
  have ty : st.TypeIs (.ref l) "list" := ⟨_, at_, rfl⟩
  have inner := AutoListH.list___mul___list_int_3 l its.toArray k m t h1 h2 h3
  refine wpAny_binaryOp_repeat_ref (T := "list") (U := "int") (by decide) ty (fun z => typeIs_int z m t) noFill_list_mul F.fills_int_mul F.slot_int_rmul repeat_list F.slot_int_index.lookup ?_
  refine call_meets F.slot_int_rmul (typeIs_int st m t) F.entry_int_rmul (F.args_int_rmul_2 _ _) (int___rmul___int_list m t l its.toArray k) ⟨at_, rfl, ty, ?_⟩
  refine call_meets F.slot_list_mul ty F.entry_list_mul (F.args_list_mul_2 _ _) inner ⟨at_, ?_⟩
  rw [enew]
  refine ⟨.ref _, _, J.lnew (t' := st.toks) (vals.rep m.toNat) ?_, rfl, fin _ J.fresh⟩
  rw [PyProof.Rows.lm_len_rep_flat, Nat.mul_comm]
  exact fit
def opOf : BO → Operator
  | .add => .Add | .sub => .Sub | .mul => .Mult | .fdiv => .FloorDiv | .mod => .Mod
theorem cat_tup {K : PySem.W.Frag} {F H : Hp} {a b : Addr} {vs ws : List V} {xs ys : List D} {Q : VK} (s : Same F H) (qa : SqT K F a vs) (qb : SqT K F b ws) (ha : DVs K F vs xs) (hb : DVs K F ws ys) (h : OutP K F H (.ok (.tup (xs ++ ys))) Q) :
    (vs = [] → Q (.ref b) H) ∧ (vs ≠ [] → ws = [] → Q (.ref a) H) ∧ (vs ≠ [] → ws ≠ [] → ∀ p, H p = none → Q (.ref p) (upd H p (.tup (vs ++ ws)))) := by
  refine ⟨fun e => ?_, fun e1 e2 => ?_, fun e1 e2 p hp => ?_⟩
  · subst e
    cases ha
    exact h.here s (.tup qb hb)
  · subst e2
    cases hb
    rw [List.append_nil] at h
    exact h.here s (.tup qa ha)
  · exact h.new s hp (dv_tup_new (s.free hp) (ha.append hb))
theorem op_bin (o : BO) : OpR X (binaryOp (opOf o)) (rP2 X.K (binD o)) := by
  intro pins s σ H x y v u Q I rx ry h
  obtain ⟨F, dx, dy, sb, hx, hy, h⟩ := h
  cases o with
  | add =>
    cases dx <;> cases dy <;> first
      | exact (show False from h).elim
      | skip
    · rename_i i j
      rw [hx.int] at rx; rw [hy.int] at ry
      exact op_add pins s σ H _ _ v u Q I rx ry ⟨i, j, rfl, rfl, h.here sb (.int _)⟩
    · rename_i a b
      rw [hx.str] at rx; rw [hy.str] at ry
      obtain ⟨hz, h⟩ := h.guard
      refine op_add_str pins s σ H _ _ v u Q I rx ry ⟨_, _, rfl, rfl, by rw [slen, slen]; exact sz_ok hz, ?_⟩
      rw [sapp]
      exact h.here sb (.str _)
    · obtain ⟨a, vs, rfl, qa, fa, ha⟩ := hx.tuple sb
      obtain ⟨b, ws, rfl, qb, fb, hb⟩ := hy.tuple sb
      obtain ⟨hz, h⟩ := h.guard
      exact op_catA pins s σ H _ _ v u Q I rx ry ⟨a, b, vs, ws, rfl, rfl, qa, qb, by rw [ha.length, hb.length]; exact sz_ok hz, cat_tup sb fa fb ha hb h⟩
    · obtain ⟨a, vs, rfl, qa, ha⟩ := hx.list sb
      obtain ⟨b, ws, rfl, qb, hb⟩ := hy.list sb
      obtain ⟨hz, h⟩ := h.guard
      exact op_catR pins s σ H _ _ v u Q I rx ry ⟨a, b, vs, ws, rfl, rfl, qa, qb, by rw [ha.length, hb.length]; exact sz_ok hz, fun p hp => h.new sb hp (dv_lst_new (sb.free hp) (ha.append hb))⟩
  | sub =>
    cases dx <;> cases dy <;> first
      | exact (show False from h).elim
      | skip
    rename_i i j
    rw [hx.int] at rx; rw [hy.int] at ry
    exact op_sub pins s σ H _ _ v u Q I rx ry ⟨i, j, rfl, rfl, h.here sb (.int _)⟩
  | mul =>
    cases dx <;> cases dy <;> first
      | exact (show False from h).elim
      | skip
    · rename_i i j
      rw [hx.int] at rx; rw [hy.int] at ry
      obtain ⟨hz, h⟩ := h.guard
      refine op_mul pins s σ H _ _ v u Q I rx ry ⟨i, j, rfl, rfl, ?_, h.here sb (.int _)⟩
      rcases Bool.or_eq_true_iff.mp hz with c | c
      · exact .inl (of_decide_eq_true c)
      · exact .inr (of_decide_eq_true c)
    · rename_i a n
      rw [hx.str] at rx; rw [hy.int] at ry
      obtain ⟨hz, h⟩ := h.guard
      obtain ⟨h1, h2⟩ := Bool.and_eq_true_iff.mp hz
      have h1 := of_decide_eq_true h1
      exact op_mulS pins s σ H _ _ v u Q I rx ry ⟨a, n, rfl, rfl, h1.2, h1.1, sz_ok h2, h.here sb (.str _)⟩
    · rename_i a n
      obtain ⟨l, vs, rfl, ql, hl⟩ := hx.list sb
      rw [hy.int] at ry
      obtain ⟨hz, h⟩ := h.guard
      obtain ⟨h1, h2⟩ := Bool.and_eq_true_iff.mp hz
      have h1 := of_decide_eq_true h1
      have h2 := sz_ok h2
      rcases ql with ql | ⟨ob, ql⟩
      · exact op_rep pins s σ H _ _ v u Q I rx ry ⟨l, n, vs, rfl, rfl, ql, by omega, by omega, by rw [hl.length]; exact h2, fun p hp => h.new sb hp (dv_lst_new (sb.free hp) (hl.rep _))⟩
      · exact op_repF pins s σ H _ _ v u Q I rx ry ⟨l, n, vs, ob, rfl, rfl, ql, by omega, by omega, by rw [hl.length]; exact h2, fun p hp => h.new sb hp (dv_lst_new (sb.free hp) (hl.rep _))⟩
  | fdiv =>
    cases dx <;> cases dy <;> first
      | exact (show False from h).elim
      | skip
    rename_i i j
    rw [hx.int] at rx; rw [hy.int] at ry
    obtain ⟨hz, h⟩ := h.guard
    have hz : 0 < j ∧ j < 1073741824 := of_decide_eq_true hz
    exact op_fdiv pins s σ H _ _ v u Q I rx ry ⟨i, j, rfl, rfl, hz, h.here sb (.int _)⟩
  | mod =>
    cases dx <;> cases dy <;> first
      | exact (show False from h).elim
      | skip
    rename_i i j
    rw [hx.int] at rx; rw [hy.int] at ry
    obtain ⟨hz, h⟩ := h.guard
    exact op_mod pins s σ H _ _ v u Q I rx ry ⟨i, j, rfl, rfl, of_decide_eq_true hz, h.here sb (.int _)⟩
end
end MT
namespace MT
open PySem L2

mutual
def D.py : D → PyData
  | .non => .none
  | .bl b => .bool b
  | .int i => .int i
  | .str s => .str ⟨s.toArray⟩
  | .tup xs => .tuple (D.pys xs)
  | .lst xs => .list (D.pys xs)
  | .scr xs => .list (xs.map .int)
  | .dct _ => .none
def D.pys : List D → List PyData
  | [] => []
  | x :: xs => D.py x :: D.pys xs
end
theorem ints_plain : ∀ xs : List Int, PyData.plainAll (xs.map .int) = true
  | [] => rfl
  | x :: xs => by
    show (true && PyData.plainAll (xs.map .int)) = true
    rw [ints_plain xs]; rfl
theorem ints_depth : ∀ xs : List Int, PyData.depthAll (xs.map .int) = 0
  | [] => rfl
  | x :: xs => by
    show max 0 (PyData.depthAll (xs.map .int)) = 0
    rw [ints_depth xs]; rfl
mutual
theorem py_plain : ∀ d : D, (D.py d).plain = true
  | .non => rfl
  | .bl _ => rfl
  | .int _ => rfl
  | .str _ => rfl
  | .tup xs => pys_plain xs
  | .lst xs => pys_plain xs
  | .scr xs => ints_plain xs
  | .dct _ => rfl
theorem pys_plain : ∀ ds : List D, PyData.plainAll (D.pys ds) = true
  | [] => rfl
  | x :: xs => by
    show ((D.py x).plain && PyData.plainAll (D.pys xs)) = true
    rw [py_plain x, pys_plain xs]; rfl
end
mutual
theorem py_depth : ∀ d : D, (D.py d).depth ≤ D.depth d
  | .non => Nat.le_refl _
  | .bl _ => Nat.le_refl _
  | .int _ => Nat.le_refl _
  | .str _ => Nat.le_refl _
  | .tup xs => Nat.succ_le_succ (pys_depth xs)
  | .lst xs => Nat.succ_le_succ (pys_depth xs)
  | .scr xs => by
    show PyData.depthAll (xs.map .int) + 1 ≤ 100
    rw [ints_depth]; decide
  | .dct _ => Nat.zero_le _
theorem pys_depth : ∀ ds : List D, PyData.depthAll (D.pys ds) ≤ D.depths ds
  | [] => Nat.le_refl _
  | x :: xs => by
    show max (D.py x).depth (PyData.depthAll (D.pys xs)) ≤ max (D.depth x) (D.depths xs)
    have h1 := py_depth x
    have h2 := pys_depth xs
    omega
end
theorem str_beq (s t : List Nat) : ((⟨s.toArray⟩ : Str) == (⟨t.toArray⟩ : Str)) = (s == t) := by
  by_cases h : s = t
  · subst h; simp
  · have h' : (⟨s.toArray⟩ : Str) ≠ ⟨t.toArray⟩ := fun e => h (by injection e with e; simpa using e)
    rw [beq_eq_false_iff_ne.mpr h', beq_eq_false_iff_ne.mpr h]
mutual
theorem py_eqv : ∀ a b : D, a.depth ≤ 64 → b.depth ≤ 64 → PyData.eqv (D.py a) (D.py b) = D.eqv a b
  | .non, b, _, hb => by
    cases b <;> first
      | rfl
      | exact absurd (show 100 ≤ 64 from hb) (by decide)
  | .bl x, b, _, hb => by
    cases b <;> first
      | rfl
      | exact absurd (show 100 ≤ 64 from hb) (by decide)
  | .int x, b, _, hb => by
    cases b <;> first
      | rfl
      | exact absurd (show 100 ≤ 64 from hb) (by decide)
  | .str x, b, _, hb => by
    cases b <;> first
      | rfl
      | exact str_beq _ _
      | exact absurd (show 100 ≤ 64 from hb) (by decide)
  | .tup xs, b, ha, hb => by
    cases b <;> first
      | rfl
      | exact pys_eqv _ _ (Nat.le_of_succ_le ha) (Nat.le_of_succ_le hb)
      | exact absurd (show 100 ≤ 64 from hb) (by decide)
  | .lst xs, b, ha, hb => by
    cases b <;> first
      | rfl
      | exact pys_eqv _ _ (Nat.le_of_succ_le ha) (Nat.le_of_succ_le hb)
      | exact absurd (show 100 ≤ 64 from hb) (by decide)
  | .scr xs, b, ha, _ => absurd (show 100 ≤ 64 from ha) (by decide)
  | .dct xs, b, ha, _ => absurd (show 100 ≤ 64 from ha) (by decide)
theorem pys_eqv : ∀ a b : List D, D.depths a ≤ 64 → D.depths b ≤ 64 → PyData.eqvAll (D.pys a) (D.pys b) = D.eqvs a b
  | [], [], _, _ => rfl
  | [], _ :: _, _, _ => rfl
  | _ :: _, [], _, _ => rfl
  | x :: xs, y :: ys, ha, hb => by
    have ha : max x.depth (D.depths xs) ≤ 64 := ha
    have hb : max y.depth (D.depths ys) ≤ 64 := hb
    show (PyData.eqv (D.py x) (D.py y) && PyData.eqvAll (D.pys xs) (D.pys ys)) = (D.eqv x y && D.eqvs xs ys)
    rw [py_eqv x y (by omega) (by omega), pys_eqv xs ys (by omega) (by omega)]
end
theorem pys_any (x : D) (hx : x.depth ≤ 64) : ∀ ys : List D, D.depths ys ≤ 64 → ((D.pys ys).any fun y => PyData.eqv y (D.py x)) = ys.any fun y => D.eqv y x
  | [], _ => rfl
  | y :: ys, hy => by
    have hy : max y.depth (D.depths ys) ≤ 64 := hy
    show (PyData.eqv (D.py y) (D.py x) || (D.pys ys).any _) = (D.eqv y x || ys.any _)
    rw [py_eqv y x (by omega) hx, pys_any x hx ys (by omega)]
theorem ints_dp {K : PySem.W.Frag} {H : Hp} : ∀ xs : List Int, DpAll K H (xs.map V.int) (xs.map .int)
  | [] => .nil
  | x :: xs => .cons (.int x) (ints_dp xs)
section
variable {K : PySem.W.Frag} {F H : Hp}
mutual
theorem DV.dp (s : Same F H) : ∀ {v : V} {d : D}, DV K F v d → d.depth ≤ 64 → Dp K H v (D.py d)
  | _, _, .non, _ => .non
  | _, _, .bl b, _ => .bl b
  | _, _, .int i, _ => .int i
  | _, _, .str x, _ => .str _
  | _, _, .tup q t, h => .tup (sqT_mono s q) (DVs.dp s t (Nat.le_of_succ_le h))
  | _, _, .lst q t, h => .lst (.inl (rd_mono s q)) (DVs.dp s t (Nat.le_of_succ_le h))
  | _, _, .scr q, _ => .lst (sqL_mono s q) (ints_dp _)
  | _, _, .dct q, h => absurd (show 100 ≤ 64 from h) (by decide)
theorem DVs.dp (s : Same F H) : ∀ {vs : List V} {ds : List D}, DVs K F vs ds → D.depths ds ≤ 64 → DpAll K H vs (D.pys ds)
  | _, _, .nil, _ => .nil
  | _, _, .cons (d := d) (ds := ds) h t, q => by
    have q : max d.depth (D.depths ds) ≤ 64 := q
    exact .cons (DV.dp s h (by omega)) (DVs.dp s t (by omega))
end
theorem DB.dp {v : V} {d : D} (s : Same F H) (h : DB K F H v d) (z : d.depth ≤ 64) : Dp K H v (D.py d) := by
  rcases h with h | ⟨a, vs, xs, rfl, rfl, e3, h⟩
  · exact h.dp s z
  · exact .lst (.inl (.inl e3)) (h.dp s (Nat.le_of_succ_le z))
end
theorem depth_flat {d : D} (h : flat d = true) : d.depth = 0 := by
  cases d <;> first
    | rfl
    | exact nomatch h
theorem depths_flat : ∀ {ds : List D}, ds.all flat = true → D.depths ds = 0
  | [], _ => rfl
  | d :: ds, h => by
    rw [List.all_cons, Bool.and_eq_true] at h
    show max d.depth (D.depths ds) = 0
    rw [depth_flat h.1, depths_flat h.2]
    rfl

section
variable {X : Cx}
def cmpOf : CO → CmpOp
  | .eq => .Eq | .ne => .NotEq | .lt => .Lt | .le => .LtE | .gt => .Gt | .ge => .GtE | .isin => .In | .notin => .NotIn | .is => .Is | .isnot => .IsNot
theorem non_iff {K : PySem.W.Frag} {F H : Hp} {x : V} {dx : D} (sb : Same F H) (hx : DB K F H x dx) : decide (x = V.non) = isNon dx := by
  cases dx with
  | non => rw [hx.non]; rfl
  | bl _ => rw [hx.bl]; rfl
  | int _ => rw [hx.int]; rfl
  | str _ => rw [hx.str]; rfl
  | tup _ => obtain ⟨_, _, rfl, _⟩ := hx.tuple sb; rfl
  | lst _ => obtain ⟨_, _, rfl, _⟩ := hx.list sb; rfl
  | scr _ => obtain ⟨_, rfl, _⟩ := hx.script sb; rfl
  | dct _ => obtain ⟨_, rfl⟩ := hx.dict; rfl
theorem subL_iff (u : List Nat) : ∀ t : List Nat, subL u t = true ↔ ∃ i, i + u.length ≤ t.length ∧ (t.drop i).take u.length = u
  | [] => by
    cases u with
    | nil => exact ⟨fun _ => ⟨0, Nat.le_refl _, rfl⟩, fun _ => rfl⟩
    | cons c u => exact ⟨fun h => (nomatch h), fun ⟨i, h, _⟩ => absurd h (by simp)⟩
  | c :: r => by
    have ih := subL_iff u r
    have e : subL u (c :: r) = (u.isPrefixOf (c :: r) || subL u r) := rfl
    rw [e, Bool.or_eq_true, ih, List.isPrefixOf_iff_prefix]
    constructor
    · rintro (h | ⟨i, h1, h2⟩)
      · obtain ⟨q, hq⟩ := h
        exact ⟨0, by rw [← hq]; simp, by rw [← hq, List.drop_zero]; exact List.take_left⟩
      · exact ⟨i + 1, by simp only [List.length_cons]; omega, h2⟩
    · rintro ⟨i, h1, h2⟩
      cases i with
      | zero => exact .inl ⟨(c :: r).drop u.length, by conv => lhs; lhs; rw [← h2, List.drop_zero]
                                                       exact List.take_append_drop _ _⟩
      | succ i => exact .inr ⟨i, by simp only [List.length_cons] at h1; omega, h2⟩
theorem sub_found (u t : List Nat) : subL u t = !(Builtin.Str.occurrences (⟨t.toArray⟩ : Str) ⟨u.toArray⟩ 0 (⟨t.toArray⟩ : Str).length 1).isEmpty := by
  rw [Bool.eq_iff_iff, StrLaws.found_iff, subL_iff]
  have e1 : ∀ x : List Nat, (⟨x.toArray⟩ : Str).length = x.length := fun x => by simp [Str.length]
  constructor
  · rintro ⟨i, h1, h2⟩
    refine ⟨i, by rw [e1, e1]; exact h1, ?_⟩
    rw [StrLaws.subAt_eq, e1]
    show ((t.drop i).take u.length == u) = true
    rw [h2]; exact beq_self_eq_true u
  · rintro ⟨i, h1, h2⟩
    rw [e1, e1] at h1
    refine ⟨i, h1, ?_⟩
    rw [StrLaws.subAt_eq, e1] at h2
    exact eq_of_beq h2
theorem op_cmp (hu : X.A.units + 80 < cLine) (o : CO) : OpR X (compareOp (cmpOf o)) (rP2 X.K (cmpD o)) := by
  intro pins st σ H x y a b Q I rx ry hyp
  obtain ⟨F, dx, dy, sb, hx, hy, h⟩ := hyp
  have rdx := fun z => Dp.reads I _ _ _ (hx.dp sb z) rx
  have rdy := fun z => Dp.reads I _ _ _ (hy.dp sb z) ry
  cases o with
  | eq =>
    obtain ⟨hz, h⟩ := h.guard
    obtain ⟨z1, z2⟩ := Bool.and_eq_true_iff.mp hz
    have z1 : dx.depth ≤ 64 := of_decide_eq_true z1
    have z2 : dy.depth ≤ 64 := of_decide_eq_true z2
    have z3 := py_depth dx
    obtain ⟨as, rdx⟩ := rdx z1
    obtain ⟨bs, rdy⟩ := rdy z2
    refine SeqAt.eq_plain rdx rdy (py_plain _) (py_plain _) (by omega) ⟨.bl _, H, I, rfl, ?_⟩
    rw [py_eqv _ _ z1 z2]
    exact h.here sb (.bl _)
  | ne =>
    obtain ⟨hz, h⟩ := h.guard
    obtain ⟨z1, z2⟩ := Bool.and_eq_true_iff.mp hz
    have z1 : dx.depth ≤ 64 := of_decide_eq_true z1
    have z2 : dy.depth ≤ 64 := of_decide_eq_true z2
    have z3 := py_depth dx
    obtain ⟨as, rdx⟩ := rdx z1
    obtain ⟨bs, rdy⟩ := rdy z2
    refine SeqAt.ne_plain rdx rdy (py_plain _) (py_plain _) (by omega) ⟨.bl _, H, I, rfl, ?_⟩
    rw [py_eqv _ _ z1 z2]
    exact h.here sb (.bl _)
  | lt =>
    cases dx <;> cases dy <;> first
      | exact (show False from h).elim
      | skip
    rename_i i j
    rw [hx.int] at rx; rw [hy.int] at ry
    exact op_lt pins st σ H _ _ a b Q I rx ry ⟨i, j, rfl, rfl, h.here sb (.bl _)⟩
  | le =>
    cases dx <;> cases dy <;> first
      | exact (show False from h).elim
      | skip
    rename_i i j
    rw [hx.int] at rx; rw [hy.int] at ry
    exact op_le pins st σ H _ _ a b Q I rx ry ⟨i, j, rfl, rfl, h.here sb (.bl _)⟩
  | gt =>
    cases dx <;> cases dy <;> first
      | exact (show False from h).elim
      | skip
    rename_i i j
    rw [hx.int] at rx; rw [hy.int] at ry
    exact op_gt pins st σ H _ _ a b Q I rx ry ⟨i, j, rfl, rfl, h.here sb (.bl _)⟩
  | ge =>
    cases dx <;> cases dy <;> first
      | exact (show False from h).elim
      | skip
    rename_i i j
    rw [hx.int] at rx; rw [hy.int] at ry
    exact op_ge pins st σ H _ _ a b Q I rx ry ⟨i, j, rfl, rfl, h.here sb (.bl _)⟩
  | isin =>
    cases dy with
    | str t =>
      cases dx <;> first
        | exact (show False from h).elim
        | skip
      rename_i s
      rw [hx.str] at rx; rw [hy.str] at ry
      match s, h with
      | [], h => exact (show False from h).elim
      | [c], h => exact op_in_sign pins st σ H _ _ a b Q I rx ry ⟨c, _, rfl, rfl, OutP.here h sb (.bl _)⟩
      | c :: d :: u, h =>
        obtain ⟨t1, rfl⟩ := rx
        obtain ⟨t2, rfl⟩ := ry
        exact PyProof.Rows.in_str ⟨.bl (subL (c :: d :: u) t), H, I, by rw [sub_found]; rfl, OutP.here h sb (.bl _)⟩
    | tup ys =>
      have h : OutP X.K F H ((guardR (flat dx && ys.all flat) (.ok (ys.any fun y => D.eqv y dx))).bind fun b => .ok (.bl b)) Q := h
      by_cases hz : (flat dx && ys.all flat) = true
      · rw [hz] at h
        obtain ⟨f1, f2⟩ := Bool.and_eq_true_iff.mp hz
        have g1 := depth_flat f1
        have g2 := depths_flat f2
        have g3 := pys_depth ys
        have g4 := py_depth dx
        obtain ⟨as, rdx⟩ := rdx (by omega)
        obtain ⟨bs, rdy⟩ := rdy (by show D.depths ys + 1 ≤ 64; omega)
        refine SeqAt.in_tuple_data rdy rdx (pys_plain _) (py_plain _) (by omega) ⟨.bl _, H, I, rfl, ?_⟩
        rw [pys_any _ (by omega) _ (by omega)]
        exact h.here sb (.bl _)
      · rw [Bool.not_eq_true] at hz
        rw [hz] at h
        exact (show False from h).elim
    | lst ys =>
      have h : OutP X.K F H ((guardR (flat dx && ys.all flat) (.ok (ys.any fun y => D.eqv y dx))).bind fun b => .ok (.bl b)) Q := h
      by_cases hz : (flat dx && ys.all flat) = true
      · rw [hz] at h
        obtain ⟨f1, f2⟩ := Bool.and_eq_true_iff.mp hz
        have g1 := depth_flat f1
        have g2 := depths_flat f2
        have g3 := pys_depth ys
        have g4 := py_depth dx
        obtain ⟨as, rdx⟩ := rdx (by omega)
        obtain ⟨bs, rdy⟩ := rdy (by show D.depths ys + 1 ≤ 64; omega)
        refine SeqAt.in_list_data rdy rdx (pys_plain _) (py_plain _) (by omega) ⟨.bl _, H, I, rfl, ?_⟩
        rw [pys_any _ (by omega) _ (by omega)]
        exact h.here sb (.bl _)
      · rw [Bool.not_eq_true] at hz
        rw [hz] at h
        exact (show False from h).elim
    | _ => exact (show False from h).elim
  | notin =>
    cases dy with
    | str t =>
      cases dx <;> first
        | exact (show False from h).elim
        | skip
      rename_i s
      rw [hx.str] at rx; rw [hy.str] at ry
      match s, h with
      | [], h => exact (show False from h).elim
      | [c], h => exact op_notIn_sign pins st σ H _ _ a b Q I rx ry ⟨c, _, rfl, rfl, OutP.here h sb (.bl _)⟩
      | c :: d :: u, h =>
        obtain ⟨t1, rfl⟩ := rx
        obtain ⟨t2, rfl⟩ := ry
        exact PyProof.Rows.notIn_str ⟨.bl (!subL (c :: d :: u) t), H, I, by rw [sub_found]; rfl, OutP.here h sb (.bl _)⟩
    | tup ys =>
      have h : OutP X.K F H ((guardR (flat dx && ys.all flat) (.ok (ys.any fun y => D.eqv y dx))).bind fun b => .ok (.bl !b)) Q := h
      by_cases hz : (flat dx && ys.all flat) = true
      · rw [hz] at h
        obtain ⟨f1, f2⟩ := Bool.and_eq_true_iff.mp hz
        have g1 := depth_flat f1
        have g2 := depths_flat f2
        have g3 := pys_depth ys
        have g4 := py_depth dx
        obtain ⟨as, rdx⟩ := rdx (by omega)
        obtain ⟨bs, rdy⟩ := rdy (by show D.depths ys + 1 ≤ 64; omega)
        refine SeqAt.notIn_tuple_data rdy rdx (pys_plain _) (py_plain _) (by omega) ⟨.bl _, H, I, rfl, ?_⟩
        rw [pys_any _ (by omega) _ (by omega)]
        exact h.here sb (.bl _)
      · rw [Bool.not_eq_true] at hz
        rw [hz] at h
        exact (show False from h).elim
    | lst ys =>
      have h : OutP X.K F H ((guardR (flat dx && ys.all flat) (.ok (ys.any fun y => D.eqv y dx))).bind fun b => .ok (.bl !b)) Q := h
      by_cases hz : (flat dx && ys.all flat) = true
      · rw [hz] at h
        obtain ⟨f1, f2⟩ := Bool.and_eq_true_iff.mp hz
        have g1 := depth_flat f1
        have g2 := depths_flat f2
        have g3 := pys_depth ys
        have g4 := py_depth dx
        obtain ⟨as, rdx⟩ := rdx (by omega)
        obtain ⟨bs, rdy⟩ := rdy (by show D.depths ys + 1 ≤ 64; omega)
        refine SeqAt.notIn_list_data rdy rdx (pys_plain _) (py_plain _) (by omega) ⟨.bl _, H, I, rfl, ?_⟩
        rw [pys_any _ (by omega) _ (by omega)]
        exact h.here sb (.bl _)
      · rw [Bool.not_eq_true] at hz
        rw [hz] at h
        exact (show False from h).elim
    | _ => exact (show False from h).elim
  | is =>
    cases dy with
    | non =>
      rw [hy.non] at ry
      refine op_isN pins st σ H _ _ a b Q I rx ry ⟨rfl, ?_⟩
      rw [non_iff sb hx]
      exact OutP.here h sb (.bl _)
    | bl c =>
      cases dx <;> first
        | exact (show False from h).elim
        | skip
      rename_i d
      rw [hx.bl] at rx; rw [hy.bl] at ry
      refine op_is_bl pins st σ H _ _ a b Q I rx ry ⟨d, c, rfl, rfl, ?_⟩
      have e : (decide (d = c)) = (d == c) := by cases d <;> cases c <;> rfl
      rw [e]
      exact h.here sb (.bl _)
    | _ => cases dx <;> exact (show False from h).elim
  | isnot =>
    cases dy with
    | non =>
      rw [hy.non] at ry
      refine op_notN pins st σ H _ _ a b Q I rx ry ⟨rfl, ?_⟩
      rw [non_iff sb hx]
      exact OutP.here h sb (.bl _)
    | bl c =>
      cases dx <;> first
        | exact (show False from h).elim
        | skip
      rename_i d
      rw [hx.bl] at rx; rw [hy.bl] at ry
      refine op_isnot_bl pins st σ H _ _ a b Q I rx ry ⟨d, c, rfl, rfl, ?_⟩
      have e : (decide (d = c)) = (d == c) := by cases d <;> cases c <;> rfl
      rw [e]
      exact h.here sb (.bl _)
    | _ => cases dx <;> exact (show False from h).elim
end
end MT
namespace MT
open PySem L2

inductive DBs (K : PySem.W.Frag) (F H : Hp) : List V → List D → Prop
  | nil : DBs K F H [] []
  | cons {v : V} {vs : List V} {d : D} {ds : List D} : DB K F H v d → DBs K F H vs ds → DBs K F H (v :: vs) (d :: ds)
theorem DBs.mono {K : PySem.W.Frag} {F H F' H' : Hp} {vs : List V} {ds : List D} (s : Step F H F' H') (h : DBs K F H vs ds) : DBs K F' H' vs ds := by
  induction h with
  | nil => exact .nil
  | cons a _ ih => exact .cons (a.mono s) ih
def rPN (K : PySem.W.Frag) (g : List D → R D) : List V → Hp → VK → Prop := fun vs H Q => ∃ F ds, Same F H ∧ DBs K F H vs ds ∧ OutP K F H (g ds) Q

section
variable {X : Cx}
/-! ### a truth -/
theorem truth_ok {K : PySem.W.Frag} {F H : Hp} {x : V} {d : D} {b : Bool} (s : Same F H) (h : DB K F H x d) (e : truth d = .ok b) : TruV K x H b := by
  cases d with
  | non => rw [h.non]; cases e; rfl
  | bl c => rw [h.bl]; cases e; rfl
  | int i => rw [h.int]; cases e; rfl
  | str t =>
    rw [h.str]
    have e : guardR (sz t.length) (.ok !t.isEmpty) = .ok b := e
    by_cases hz : sz t.length = true
    · rw [hz] at e
      cases e
      refine ⟨by rw [slen]; exact sz_ok hz, ?_⟩
      rw [slen]
      cases t <;> rfl
    · rw [Bool.not_eq_true] at hz
      rw [hz] at e
      cases e
  | tup ds =>
    obtain ⟨a, vs, rfl, q, _, t⟩ := h.tuple s
    cases e
    exact .inr (.inl ⟨vs, q, by rw [t.isEmpty]⟩)
  | lst ds =>
    obtain ⟨a, vs, rfl, q, t⟩ := h.list s
    cases e
    exact .inl ⟨vs, .inl q, by rw [t.isEmpty]⟩
  | scr xs => cases e
  | dct xs => cases e
theorem truth_ex (d : D) : ∀ c, truth d ≠ .ex c := by
  intro c
  cases d with
  | str t => exact guard_ex ok_ex
  | _ => exact fun z => nomatch z

/-! ### places, slices -/
theorem ix_D : IxR X (rP2 X.K idxD) := by
  intro value slice pins st σ H x y a b Q I rx ry hyp hs
  obtain ⟨F, dx, dy, sb, hx, hy, h⟩ := hyp
  cases dx <;> cases dy <;> first
    | exact (show False from h).elim
    | skip
  · rename_i t i
    rw [hx.str] at rx; rw [hy.int] at ry
    obtain ⟨hz, h⟩ := OutP.guard h
    cases e : (MT.ixN t.length i).bind fun j => t[j]? with
    | none => rw [e] at h; exact (show False from h).elim
    | some c =>
      rw [e] at h
      exact ix_str value slice pins st σ H _ _ a b Q I rx ry ⟨_, i, c, rfl, rfl, by rw [slen]; exact sz_ok hz, e, h.here sb (.str [c])⟩ hs
  · rename_i ds i
    obtain ⟨p, vs, rfl, q, qF, t⟩ := hx.tuple sb
    rw [hy.int] at ry
    cases e : (MT.ixN ds.length i).bind fun j => ds[j]? with
    | none => simp only [idxD, e] at h; exact (show False from h).elim
    | some d =>
      simp only [idxD, e] at h
      obtain ⟨j, e1, e2⟩ := Option.bind_eq_some_iff.mp e
      obtain ⟨v, e3, hv⟩ := t.get e2
      refine ix_tup value slice pins st σ H _ _ a b Q I rx ry ⟨p, vs, i, v, rfl, rfl, q, ?_, h.here sb hv⟩ hs
      show (L2.ixN vs.length i).bind (fun j => vs[j]?) = some v
      rw [t.length]
      exact Option.bind_eq_some_iff.mpr ⟨j, e1, e3⟩
  · rename_i ds i
    obtain ⟨p, vs, rfl, q, t⟩ := hx.list sb
    rw [hy.int] at ry
    cases e : (MT.ixN ds.length i).bind fun j => ds[j]? with
    | none => simp only [idxD, e] at h; exact (show False from h).elim
    | some d =>
      simp only [idxD, e] at h
      obtain ⟨j, e1, e2⟩ := Option.bind_eq_some_iff.mp e
      obtain ⟨v, e3, hv⟩ := t.get e2
      refine ix_list value slice pins st σ H _ _ a b Q I rx ry ⟨p, vs, i, v, rfl, rfl, .inl q, ?_, h.here sb hv⟩ hs
      show (L2.ixN vs.length i).bind (fun j => vs[j]?) = some v
      rw [t.length]
      exact Option.bind_eq_some_iff.mpr ⟨j, e1, e3⟩
  · rename_i ns i
    obtain ⟨p, rfl, q⟩ := hx.script sb
    rw [hy.int] at ry
    cases e : (MT.ixN ns.length i).bind fun j => ns[j]? with
    | none => simp only [idxD, e] at h; exact (show False from h).elim
    | some d =>
      simp only [idxD, e] at h
      obtain ⟨j, e1, e2⟩ := Option.bind_eq_some_iff.mp e
      refine ix_list value slice pins st σ H _ _ a b Q I rx ry ⟨p, ns.map V.int, i, .int d, rfl, rfl, q, ?_, h.here sb (.int d)⟩ hs
      show (L2.ixN (ns.map V.int).length i).bind (fun j => (ns.map V.int)[j]?) = some (.int d)
      rw [List.length_map]
      exact Option.bind_eq_some_iff.mpr ⟨j, e1, by rw [List.getElem?_map, e2]; rfl⟩
theorem cut_sIx {α : Type} (xs : List α) (lo hi : Option Int) : cutL xs lo hi = (xs.drop (HT.sIx xs.length 0 lo)).take (HT.sIx xs.length xs.length hi - HT.sIx xs.length 0 lo) := by
  cases lo <;> cases hi <;> rfl
theorem DVs.cut {K : PySem.W.Frag} {F : Hp} {vs : List V} {ds : List D} (h : DVs K F vs ds) (lo hi : Option Int) : DVs K F (cutV vs lo hi) (cutL ds lo hi) := by
  rw [cut_sIx]
  unfold cutV
  rw [h.length]
  exact (h.drop _).take _
theorem sl_D : SlR X (fun x lo hi H Q => ∃ F d, Same F H ∧ DB X.K F H x d ∧ OutP X.K F H (slD d lo hi) Q) := by
  intro pins st σ H x v vl vu lo hi sl Q I rx hs pl pu hyp
  obtain ⟨F, d, sb, hx, h⟩ := hyp
  cases d <;> first
    | exact (show False from h).elim
    | skip
  · rename_i t
    rw [hx.str] at rx
    obtain ⟨hz, h⟩ := OutP.guard h
    refine sl_str pins st σ H _ v vl vu lo hi sl Q I rx hs pl pu ⟨_, rfl, by rw [slen]; exact sz_ok hz, ?_⟩
    have e : cutS ⟨t.toArray⟩ lo hi = ⟨(cutL t lo hi).toArray⟩ := by
      rw [cut_sIx]
      unfold cutS
      rw [slen]
    rw [e]
    exact h.here sb (.str _)
  · rename_i ds
    obtain ⟨p, vs, rfl, q, qF, t⟩ := hx.tuple sb
    refine sl_tupA pins st σ H _ v vl vu lo hi sl Q I rx hs pl pu ⟨p, vs, rfl, q, fun hw => ?_, fun _ r hr => ?_⟩
    · have e : cutL ds lo hi = ds := by
        rw [cut_sIx, ← t.length, hw.1, hw.2, List.drop_zero, Nat.sub_zero, t.length]
        exact List.take_length
      have h : OutP X.K F H (.ok (.tup (cutL ds lo hi))) Q := h
      rw [e] at h
      exact h.here sb (.tup qF t)
    · exact OutP.new h sb hr (dv_tup_new (sb.free hr) (t.cut lo hi))
  · rename_i ds
    obtain ⟨p, vs, rfl, q, t⟩ := hx.list sb
    exact sl_list pins st σ H _ v vl vu lo hi sl Q I rx hs pl pu ⟨p, vs, rfl, .inl q, fun r hr => OutP.new h sb hr (dv_lst_new (sb.free hr) (t.cut lo hi))⟩

/-! ### lists of one kind -/
theorem bls_of {K : PySem.W.Frag} {F : Hp} : ∀ {ds : List D} {bs : List Bool} {vs : List V}, blsD ds = some bs → DVs K F vs ds → vs = bs.map V.bl
  | [], _, _, e, .nil => by cases e; rfl
  | .bl b :: ds, bs, _, e, .cons h t => by
    obtain ⟨r, e1, e2⟩ := Option.map_eq_some_iff.mp (show (blsD ds).map (b :: ·) = some bs from e)
    subst e2
    rw [h.bInv, bls_of e1 t]; rfl
  | .non :: _, _, _, e, _ => nomatch e
  | .int _ :: _, _, _, e, _ => nomatch e
  | .str _ :: _, _, _, e, _ => nomatch e
  | .tup _ :: _, _, _, e, _ => nomatch e
  | .lst _ :: _, _, _, e, _ => nomatch e
theorem ints_of {K : PySem.W.Frag} {F : Hp} : ∀ {ds : List D} {bs : List Int} {vs : List V}, intsD ds = some bs → DVs K F vs ds → vs = bs.map V.int
  | [], _, _, e, .nil => by cases e; rfl
  | .int b :: ds, bs, _, e, .cons h t => by
    obtain ⟨r, e1, e2⟩ := Option.map_eq_some_iff.mp (show (intsD ds).map (b :: ·) = some bs from e)
    subst e2
    rw [h.iInv, ints_of e1 t]; rfl
  | .non :: _, _, _, e, _ => nomatch e
  | .bl _ :: _, _, _, e, _ => nomatch e
  | .str _ :: _, _, _, e, _ => nomatch e
  | .tup _ :: _, _, _, e, _ => nomatch e
  | .lst _ :: _, _, _, e, _ => nomatch e
def mkS (s : List Nat) : Str := ⟨s.toArray⟩
theorem strs_of {K : PySem.W.Frag} {F : Hp} : ∀ {ds : List D} {bs : List (List Nat)} {vs : List V}, strsD ds = some bs → DVs K F vs ds → vs = (bs.map mkS).map V.str
  | [], _, _, e, .nil => by cases e; rfl
  | .str b :: ds, bs, _, e, .cons h t => by
    obtain ⟨r, e1, e2⟩ := Option.map_eq_some_iff.mp (show (strsD ds).map (b :: ·) = some bs from e)
    subst e2
    rw [h.sInv, strs_of e1 t]; rfl
  | .non :: _, _, _, e, _ => nomatch e
  | .bl _ :: _, _, _, e, _ => nomatch e
  | .int _ :: _, _, _, e, _ => nomatch e
  | .tup _ :: _, _, _, e, _ => nomatch e
  | .lst _ :: _, _, _, e, _ => nomatch e
theorem strs_dv {K : PySem.W.Frag} {F : Hp} : ∀ ys : List (List Nat), DVs K F ((ys.map mkS).map V.str) (ys.map .str)
  | [] => .nil
  | y :: ys => .cons (.str y) (strs_dv ys)
theorem OutP.ofO {α : Type} {K : PySem.W.Frag} {F H : Hp} {o : Option α} {f : α → R D} {Q : VK} (h : OutP K F H ((ofO o).bind f) Q) : ∃ a, o = some a ∧ OutP K F H (f a) Q := by
  cases o with
  | none => exact (show False from h).elim
  | some a => exact ⟨a, rfl, h⟩

/-! ### built-in functions -/
theorem pr_len : CallR X (.builtin "len") (rPN X.K (prD .len)) := by
  intro pins st σ H xs us Q I r hyp
  obtain ⟨F, ds, sb, hs, h⟩ := hyp
  cases hs with
  | nil => exact (show False from h).elim
  | cons hx hr =>
    cases hr with
    | cons _ _ =>
      rename_i d _ _ _ _ _ _
      cases d <;> exact (show False from h).elim
    | nil =>
      rename_i x d
      cases d <;> first
        | exact (show False from h).elim
        | skip
      · rename_i t
        obtain ⟨hz, h⟩ := OutP.guard h
        rw [hx.str] at r
        refine call_len_str pins st σ H _ us Q I r ⟨_, rfl, by rw [slen]; exact sz_ok hz, ?_⟩
        rw [slen]
        exact h.here sb (.int _)
      · obtain ⟨p, vs, rfl, q, qF, t⟩ := hx.tuple sb
        refine call_len_seq pins st σ H _ us Q I r ⟨p, vs, rfl, .inr q, ?_⟩
        rw [t.length]
        exact OutP.here h sb (.int _)
      · obtain ⟨p, vs, rfl, q, t⟩ := hx.list sb
        refine call_len_seq pins st σ H _ us Q I r ⟨p, vs, rfl, .inl (.inl q), ?_⟩
        rw [t.length]
        exact OutP.here h sb (.int _)
      · obtain ⟨p, rfl, q⟩ := hx.script sb
        refine call_len_seq pins st σ H _ us Q I r ⟨p, _, rfl, .inl q, ?_⟩
        rw [List.length_map]
        exact OutP.here h sb (.int _)
/-- one argument -/
theorem one_arg {K : PySem.W.Frag} {F H : Hp} {p : Pr} {vs : List V} {ds : List D} {Q : VK} (hp : ∀ d e r, prD p (d :: e :: r) = .no) (h0 : prD p [] = .no) (hs : DBs K F H vs ds) (h : OutP K F H (prD p ds) Q) : ∃ x d, vs = [x] ∧ ds = [d] ∧ DB K F H x d := by
  cases hs with
  | nil => rw [h0] at h; exact (show False from h).elim
  | cons hx hr =>
    cases hr with
    | cons _ _ => rw [hp] at h; exact (show False from h).elim
    | nil => exact ⟨_, _, rfl, rfl, hx⟩
theorem pr_tuple : CallR X (.type "tuple") (rPN X.K (prD .tuple)) := by
  intro pins st σ H xs us Q I r hyp
  obtain ⟨F, ds, sb, hs, h⟩ := hyp
  obtain ⟨x, d, rfl, rfl, hx⟩ := one_arg (fun d _ _ => by cases d <;> rfl) rfl hs h
  cases d <;> first
    | exact (show False from h).elim
    | skip
  · obtain ⟨p, vs, rfl, q, qF, t⟩ := hx.tuple sb
    exact call_tuple_of pins st σ H _ us Q I r ⟨p, vs, rfl, .inr ⟨q, OutP.here h sb (.tup qF t)⟩⟩
  · obtain ⟨p, vs, rfl, q, t⟩ := hx.list sb
    exact call_tuple_of pins st σ H _ us Q I r ⟨p, vs, rfl, .inl ⟨.inl q, fun l hl => OutP.new h sb hl (dv_tup_new (sb.free hl) t)⟩⟩
theorem pr_list : CallR X (.type "list") (rPN X.K (prD .list)) := by
  intro pins st σ H xs us Q I r hyp
  obtain ⟨F, ds, sb, hs, h⟩ := hyp
  obtain ⟨x, d, rfl, rfl, hx⟩ := one_arg (fun d _ _ => by cases d <;> rfl) rfl hs h
  cases d <;> first
    | exact (show False from h).elim
    | skip
  · obtain ⟨p, vs, rfl, q, qF, t⟩ := hx.tuple sb
    exact call_list_of pins st σ H _ us Q I r ⟨p, vs, rfl, .inr q, fun l hl => OutP.new h sb hl (dv_lst_new (sb.free hl) t)⟩
  · obtain ⟨p, vs, rfl, q, t⟩ := hx.list sb
    exact call_list_of pins st σ H _ us Q I r ⟨p, vs, rfl, .inl (.inl q), fun l hl => OutP.new h sb hl (dv_lst_new (sb.free hl) t)⟩
theorem num_str (i : Int) (h : 0 ≤ i) : (Str.ofString (toString i)) = mkS (TL.numL i.toNat) := by
  obtain ⟨n, rfl⟩ := Int.eq_ofNat_of_zero_le h
  refine TL.ext_tl ?_
  rw [TL.tl_num]
  rfl
theorem pr_str : CallR X (.type "str") (rPN X.K (prD .str)) := by
  intro pins st σ H xs us Q I r hyp
  obtain ⟨F, ds, sb, hs, h⟩ := hyp
  obtain ⟨x, d, rfl, rfl, hx⟩ := one_arg (fun d _ _ => by cases d <;> rfl) rfl hs h
  cases d <;> first
    | exact (show False from h).elim
    | skip
  rename_i i
  rw [hx.int] at r
  obtain ⟨hz, h⟩ := OutP.guard h
  have hz : 0 ≤ i ∧ i < 1000000 := of_decide_eq_true hz
  refine call_str_int pins st σ H _ us Q I r ⟨i, rfl, ?_, ?_⟩
  · have h1 : i.natAbs < 2 ^ 20 := by omega
    by_cases h0 : i.natAbs = 0
    · rw [h0]; decide
    · have := (Nat.log2_lt h0).mpr h1
      omega
  · rw [num_str i hz.1]
    exact h.here sb (.str _)
theorem pr_int : CallR X (.type "int") (rPN X.K (prD .int)) := by
  intro pins st σ H xs us Q I r hyp
  obtain ⟨F, ds, sb, hs, h⟩ := hyp
  obtain ⟨x, d, rfl, rfl, hx⟩ := one_arg (fun d _ _ => by cases d <;> rfl) rfl hs h
  cases d <;> first
    | exact (show False from h).elim
    | skip
  · rename_i b
    rw [hx.bl] at r
    exact call_int1 pins st σ H _ us Q I r (.inr ⟨b, rfl, OutP.here h sb (.int _)⟩)
  · rename_i i
    rw [hx.int] at r
    exact call_int1 pins st σ H _ us Q I r (.inl ⟨i, rfl, OutP.here h sb (.int _)⟩)
  · rename_i t
    rw [hx.str] at r
    obtain ⟨hz, h⟩ := OutP.guard h
    have hz : t.length ≤ 600 := of_decide_eq_true hz
    obtain ⟨n, e, h⟩ := OutP.ofO h
    have e : (if TL.numL (t.foldl (fun a c => a * 10 + (c - 48)) 0) = t then some (((t.foldl (fun a c => a * 10 + (c - 48)) 0 : Nat)) : Int) else none) = some n := e
    by_cases c : TL.numL (t.foldl (fun a c => a * 10 + (c - 48)) 0) = t
    · rw [if_pos c] at e
      cases e
      refine call_int_str pins st σ H _ us Q I r ⟨_, _, rfl, ?_, by rw [slen]; omega, h.here sb (.int _)⟩
      have e2 := TL.int_num (n := t.foldl (fun a c => a * 10 + (c - 48)) 0) (by rw [c]; omega)
      have e3 : Str.ofString (toString (((t.foldl (fun a c => a * 10 + (c - 48)) 0 : Nat)) : Int)) = ⟨t.toArray⟩ := TL.ext_tl (by rw [TL.tl_num, c])
      rw [e3] at e2
      exact e2
    · rw [if_neg c] at e
      cases e
theorem pr_all (hc : X.calm = true) : CallR X (.builtin "all") (rPN X.K (prD .all)) := by
  intro pins st σ H xs us Q I r hyp
  obtain ⟨F, ds, sb, hs, h⟩ := hyp
  obtain ⟨x, d, rfl, rfl, hx⟩ := one_arg (fun d _ _ => by cases d <;> rfl) rfl hs h
  cases d <;> first
    | exact (show False from h).elim
    | skip
  obtain ⟨p, vs, rfl, q, t⟩ := hx.list sb
  obtain ⟨bs, e, h⟩ := OutP.ofO h
  rw [bls_of e t] at q
  exact cr_all hc pins st σ H _ us Q I r ⟨p, bs, rfl, .inl q, h.here sb (.bl _)⟩
theorem pr_any (hc : X.calm = true) : CallR X (.builtin "any") (rPN X.K (prD .any)) := by
  intro pins st σ H xs us Q I r hyp
  obtain ⟨F, ds, sb, hs, h⟩ := hyp
  obtain ⟨x, d, rfl, rfl, hx⟩ := one_arg (fun d _ _ => by cases d <;> rfl) rfl hs h
  cases d <;> first
    | exact (show False from h).elim
    | skip
  obtain ⟨p, vs, rfl, q, t⟩ := hx.list sb
  obtain ⟨bs, e, h⟩ := OutP.ofO h
  rw [bls_of e t] at q
  exact cr_any hc pins st σ H _ us Q I r ⟨p, bs, rfl, .inl q, h.here sb (.bl _)⟩
theorem pr_sum (hc : X.calm = true) : CallR X (.builtin "sum") (rPN X.K (prD .sum)) := by
  intro pins st σ H xs us Q I r hyp
  obtain ⟨F, ds, sb, hs, h⟩ := hyp
  obtain ⟨x, d, rfl, rfl, hx⟩ := one_arg (fun d _ _ => by cases d <;> rfl) rfl hs h
  cases d <;> first
    | exact (show False from h).elim
    | skip
  obtain ⟨p, vs, rfl, q, t⟩ := hx.list sb
  obtain ⟨ns, e, h⟩ := OutP.ofO h
  rw [ints_of e t] at q
  exact cr_sum hc pins st σ H _ us Q I r ⟨p, ns, rfl, .inl q, h.here sb (.int _)⟩
theorem pr_abs : CallR X (.builtin "abs") (rPN X.K (prD .abs)) := by
  intro pins st σ H xs us Q I r hyp
  obtain ⟨F, ds, sb, hs, h⟩ := hyp
  obtain ⟨x, d, rfl, rfl, hx⟩ := one_arg (fun d _ _ => by cases d <;> rfl) rfl hs h
  cases d <;> first
    | exact (show False from h).elim
    | skip
  rename_i i
  rw [hx.int] at r
  exact call_abs pins st σ H _ us Q I r ⟨i, rfl, OutP.here h sb (.int _)⟩
/-- two numbers -/
theorem two_ints {K : PySem.W.Frag} {F H : Hp} {p : Pr} {vs : List V} {ds : List D} {Q : VK} (hp : p = .min2 ∨ p = .max2) (hs : DBs K F H vs ds) (h : OutP K F H (prD p ds) Q) : ∃ i j, vs = [.int i, .int j] ∧ ds = [.int i, .int j] := by
  cases hs with
  | nil => rcases hp with rfl | rfl <;> exact (show False from h).elim
  | @cons v vs d ds a hs =>
    cases hs with
    | nil => rcases hp with rfl | rfl <;> cases d <;> exact (show False from h).elim
    | @cons w ws e es b hs =>
      cases hs with
      | @cons y ys f fs c hs => rcases hp with rfl | rfl <;> cases d <;> cases e <;> exact (show False from h).elim
      | nil =>
        cases d <;> cases e <;> first
          | (rcases hp with rfl | rfl <;> exact (show False from h).elim)
          | skip
        exact ⟨_, _, by rw [a.int, b.int], rfl⟩
theorem pr_min2 (hc : X.calm = true) : CallR X (.builtin "min") (rPN X.K (prD .min2)) := by
  intro pins st σ H xs us Q I r hyp
  obtain ⟨F, ds, sb, hs, h⟩ := hyp
  obtain ⟨i, j, rfl, rfl⟩ := two_ints (by simp) hs h
  exact call_min2 hc pins st σ H _ us Q I r ⟨i, j, rfl, OutP.here h sb (.int _)⟩
theorem pr_max2 (hc : X.calm = true) : CallR X (.builtin "max") (rPN X.K (prD .max2)) := by
  intro pins st σ H xs us Q I r hyp
  obtain ⟨F, ds, sb, hs, h⟩ := hyp
  obtain ⟨i, j, rfl, rfl⟩ := two_ints (by simp) hs h
  exact call_max2 hc pins st σ H _ us Q I r ⟨i, j, rfl, OutP.here h sb (.int _)⟩

/-! ### min, max of a list of numbers, with default= -/
theorem pys_ints : ∀ {ds : List D} {ns : List Int}, intsD ds = some ns → D.pys ds = ns.map .int
  | [], _, e => by cases e; rfl
  | .int b :: ds, bs, e => by
    obtain ⟨r, e1, e2⟩ := Option.map_eq_some_iff.mp (show (intsD ds).map (b :: ·) = some bs from e)
    subst e2
    show PyData.int b :: D.pys ds = PyData.int b :: r.map .int
    rw [pys_ints e1]
  | .non :: _, _, e => nomatch e
  | .bl _ :: _, _, e => nomatch e
  | .str _ :: _, _, e => nomatch e
  | .tup _ :: _, _, e => nomatch e
  | .lst _ :: _, _, e => nomatch e
theorem alike_ints (ns : List Int) : PySem.W.AlikeAll (ns.map .int) := by
  refine ⟨fun x hx y hy => ?_, fun x hx => ?_⟩
  · obtain ⟨i, _, rfl⟩ := List.mem_map.mp hx
    obtain ⟨j, _, rfl⟩ := List.mem_map.mp hy
    rfl
  · obtain ⟨i, _, rfl⟩ := List.mem_map.mp hx
    exact fun z => nomatch z
theorem depth_ints : ∀ ns : List Int, PyData.depthAll (ns.map .int) = 0
  | [] => rfl
  | n :: ns => by
    show max 0 (PyData.depthAll (ns.map .int)) = 0
    rw [depth_ints ns]; rfl
/-- a list and a number -/
theorem list_int {K : PySem.W.Frag} {F H : Hp} {p : Pr} {xs zs : List V} {ds es : List D} {Q : VK} (hp : p = .minD ∨ p = .maxD) (h1 : DBs K F H xs ds) (h2 : DBs K F H zs es) (l1 : ds.length = 1) (h : OutP K F H (prD p (ds ++ es)) Q) :
    ∃ x ys i, xs = [x] ∧ zs = [.int i] ∧ DB K F H x (.lst ys) ∧ ds = [.lst ys] ∧ es = [.int i] := by
  cases h1 with
  | nil => cases l1
  | @cons v vs d ds a hs =>
    cases hs with
    | cons _ _ => cases l1
    | nil =>
      cases h2 with
      | nil => rcases hp with rfl | rfl <;> cases d <;> exact (show False from h).elim
      | @cons w ws e es b hs =>
        cases hs with
        | @cons y ys f fs c hs => rcases hp with rfl | rfl <;> cases d <;> cases e <;> exact (show False from h).elim
        | nil =>
          cases d <;> cases e <;> first
            | (rcases hp with rfl | rfl <;> exact (show False from h).elim)
            | skip
          exact ⟨_, _, _, rfl, by rw [b.int], a, rfl, rfl⟩
def rPK (K : PySem.W.Frag) (p : Pr) : List V → List V → Hp → VK → Prop := fun xs zs H Q => ∃ F ds es, Same F H ∧ DBs K F H xs ds ∧ DBs K F H zs es ∧ ds.length = 1 ∧ OutP K F H (prD p (ds ++ es)) Q
theorem intsD_depth : ∀ {xs : List D} {ns : List Int}, intsD xs = some ns → D.depths xs = 0
  | [], _, _ => rfl
  | x :: xs, ns, h => by
    cases x <;> first
      | (cases h; done)
      | skip
    rename_i i
    have h : (intsD xs).map (i :: ·) = some ns := h
    cases q : intsD xs with
    | none => rw [q] at h; cases h
    | some r =>
      show max 0 (D.depths xs) = 0
      rw [intsD_depth q]; rfl
theorem pr_maxD (hc : X.calm = true) (hu : X.A.units + 80 < cLine) : CallRK X (.builtin "max") [Str.ofString "default"] (rPK X.K .maxD) := by
  intro pins st σ H xs zs us ws Q I r rz hyp
  obtain ⟨F, ds, es, sb, h1, h2, l1, h⟩ := hyp
  obtain ⟨x, ys, i, rfl, rfl, hx, rfl, rfl⟩ := list_int (.inr rfl) h1 h2 l1 h
  obtain ⟨ns, e, h⟩ := OutP.ofO h
  obtain ⟨p, vs, rfl, q, t⟩ := hx.list sb
  obtain ⟨u, rfl, ru⟩ := r.one
  cases ru
  obtain ⟨u, rfl, tk0, rfl⟩ := rz.one
  obtain ⟨its, rv, pl, hz⟩ := I.list (.inl q)
  obtain ⟨as, hr⟩ := Dp.readsAll I (D.pys ys) vs its (t.dp sb (by rw [intsD_depth e]; decide)) rv
  rw [pys_ints e] at hr
  refine PySem.W.max_list_default (I.ok.hd hc) pl.isList (by simpa using hr) (alike_ints ns) (by rw [depth_ints]; omega) (fun e0 h' tk hk => ?_) (fun y ys' j v h' tk bs e1 _ rd hk => ?_)
  · have e0 : ns = [] := by simpa using e0
    subst e0
    exact ⟨.int i, H, I.kept (t' := tk) hk, ⟨_, rfl⟩, h.here sb (.int _)⟩
  · cases ns with
    | nil => cases e1
    | cons n ns =>
      cases e1
      rw [PySem.W.maxD_ints] at rd
      cases rd
      exact ⟨.int _, H, I.kept (t' := tk) hk, ⟨_, rfl⟩, h.here sb (.int _)⟩
theorem pr_minD (hc : X.calm = true) (hu : X.A.units + 80 < cLine) : CallRK X (.builtin "min") [Str.ofString "default"] (rPK X.K .minD) := by
  intro pins st σ H xs zs us ws Q I r rz hyp
  obtain ⟨F, ds, es, sb, h1, h2, l1, h⟩ := hyp
  obtain ⟨x, ys, i, rfl, rfl, hx, rfl, rfl⟩ := list_int (.inl rfl) h1 h2 l1 h
  obtain ⟨ns, e, h⟩ := OutP.ofO h
  obtain ⟨p, vs, rfl, q, t⟩ := hx.list sb
  obtain ⟨u, rfl, ru⟩ := r.one
  cases ru
  obtain ⟨u, rfl, tk0, rfl⟩ := rz.one
  obtain ⟨its, rv, pl, hz⟩ := I.list (.inl q)
  obtain ⟨as, hr⟩ := Dp.readsAll I (D.pys ys) vs its (t.dp sb (by rw [intsD_depth e]; decide)) rv
  rw [pys_ints e] at hr
  refine PySem.W.min_list_default (I.ok.hd hc) pl.isList (by simpa using hr) (alike_ints ns) (by rw [depth_ints]; omega) (fun e0 h' tk hk => ?_) (fun y ys' j v h' tk bs e1 _ rd hk => ?_)
  · have e0 : ns = [] := by simpa using e0
    subst e0
    exact ⟨.int i, H, I.kept (t' := tk) hk, ⟨_, rfl⟩, h.here sb (.int _)⟩
  · cases ns with
    | nil => cases e1
    | cons n ns =>
      cases e1
      rw [PySem.W.minD_ints] at rd
      cases rd
      exact ⟨.int _, H, I.kept (t' := tk) hk, ⟨_, rfl⟩, h.here sb (.int _)⟩

/-! ### methods of texts -/
def rPM (K : PySem.W.Frag) (p : Pr) : V → List V → Hp → VK → Prop := fun x xs H Q => ∃ F s ds, Same F H ∧ x = .str (mkS s) ∧ DBs K F H xs ds ∧ OutP K F H (prD p (.str s :: ds)) Q
theorem DBs.one {K : PySem.W.Frag} {F H : Hp} {vs : List V} {d : D} (h : DBs K F H vs [d]) : ∃ v, vs = [v] ∧ DB K F H v d := by
  cases h with
  | cons a hs => cases hs; exact ⟨_, rfl, a⟩
theorem DBs.two {K : PySem.W.Frag} {F H : Hp} {vs : List V} {d e : D} (h : DBs K F H vs [d, e]) : ∃ v w, vs = [v, w] ∧ DB K F H v d ∧ DB K F H w e := by
  cases h with
  | cons a hs =>
    obtain ⟨w, rfl, b⟩ := hs.one
    exact ⟨_, _, rfl, a, b⟩
theorem mlen (s : List Nat) : (mkS s).length = s.length := slen s
theorem join_eq (s : List Nat) (ys : List (List Nat)) : Txt.join (mkS s) (ys.map mkS) = mkS (TL.joinL s ys) := by
  rw [TL.join_eq]
  refine TL.ext_tl ?_
  rw [TL.tl_join]
  show TL.joinL s ((ys.map mkS).map TL.tl) = TL.joinL s ys
  rw [List.map_map]
  have e : (TL.tl ∘ mkS) = id := funext fun x => rfl
  rw [e, List.map_id]
theorem pr_join : MtR X "str.join" (rPM X.K .join) := by
  intro pins st σ H x xs a us Q I rx rs hyp
  obtain ⟨F, s, ds, sb, rfl, hs, h⟩ := hyp
  match ds, hs, h with
  | [.lst ys], hs, h =>
    obtain ⟨v, rfl, hv⟩ := hs.one
    obtain ⟨p, vs, rfl, q, t⟩ := hv.list sb
    obtain ⟨zs, e, h⟩ := OutP.ofO h
    obtain ⟨hz, h⟩ := OutP.guard h
    rw [strs_of e t] at q
    refine mt_join pins st σ H _ _ a us Q I rx rs ⟨_, p, zs.map mkS, rfl, rfl, .inl (.inl q), ?_, ?_⟩
    · have hz := sz_ok hz
      rw [List.map_map, List.length_map, mlen]
      have e2 : (fun x => Str.length x) ∘ mkS = List.length := funext fun x => slen x
      rw [show ((·.length) ∘ mkS) = List.length from e2]
      exact hz
    · rw [join_eq]
      exact h.here sb (.str _)
  | [], _, h => exact (show False from h).elim
  | [.non], _, h => exact (show False from h).elim
  | [.bl _], _, h => exact (show False from h).elim
  | [.int _], _, h => exact (show False from h).elim
  | [.str _], _, h => exact (show False from h).elim
  | [.tup _], _, h => exact (show False from h).elim
  | [.scr _], _, h => exact (show False from h).elim
  | d :: _ :: _, _, h => cases d <;> exact (show False from h).elim

theorem tl_mk (s : List Nat) : TL.tl (mkS s) = s := rfl
theorem map_mk {xs : List Str} {ys : List (List Nat)} (h : xs.map TL.tl = ys) : xs = ys.map mkS := by
  subst h
  rw [List.map_map]
  have : ∀ xs : List Str, xs = xs.map (mkS ∘ TL.tl) := fun xs => by
    induction xs with
    | nil => rfl
    | cons x xs ih => rw [List.map_cons, ← ih]; rfl
  exact this xs
theorem new_strs {K : PySem.W.Frag} {F H : Hp} {Q : VK} {ys : List (List Nat)} (sb : Same F H) (h : OutP K F H (.ok (.lst (ys.map D.str))) Q) : rNewStrs (ys.map mkS) H Q := fun p hp => h _ _ _ (Step.new sb hp) (dv_lst_new (sb.free hp) (strs_dv ys))
theorem pr_split0 : MtR X "str.split" (rPM X.K .split0) := by
  intro pins st σ H x xs a us Q I rx rs hyp
  obtain ⟨F, s, ds, sb, rfl, hs, h⟩ := hyp
  cases ds with
  | cons d ds => cases d <;> cases ds <;> exact (show False from h).elim
  | nil =>
    cases hs
    obtain ⟨hz, h⟩ := OutP.guard h
    have hz : s.length + 2 ≤ 16777216 := of_decide_eq_true hz
    have e := map_mk (TL.words_tl (mkS s))
    rw [tl_mk] at e
    refine mt_words pins st σ H _ _ a us Q I rx rs ⟨_, rfl, rfl, by rw [mlen]; exact hz, ?_⟩
    rw [e]
    exact new_strs sb h
theorem pr_split1 : MtR X "str.split" (rPM X.K .split1) := by
  intro pins st σ H x xs a us Q I rx rs hyp
  obtain ⟨F, s, ds, sb, rfl, hs, h⟩ := hyp
  match ds, hs, h with
  | [.str [c]], hs, h =>
    obtain ⟨v, rfl, hv⟩ := hs.one
    rw [hv.str] at rs
    obtain ⟨hz, h⟩ := OutP.guard h
    simp only [Bool.and_eq_true, decide_eq_true_eq] at hz
    have k : ¬ Builtin.Str.strKind (mkS s) < Builtin.Str.strKind (mkS [c]) := TL.kind_ok (y := mkS [c]) (by
      show (#[c].all (· < 256)) = true
      simp [hz.2])
    have e := map_mk (TL.split_spl (mkS s) (mkS [c]) (by rw [tl_mk]; simp) k)
    rw [tl_mk, tl_mk] at e
    refine mt_split pins st σ H _ _ a us Q I rx rs ⟨_, _, rfl, rfl, rfl, by rw [mlen]; exact hz.1, ?_⟩
    show rNewStrs (Txt.split (mkS s) (mkS [c])) H Q
    rw [e]
    exact new_strs sb h
  | [], _, h => exact (show False from h).elim
  | [.non], _, h => exact (show False from h).elim
  | [.bl _], _, h => exact (show False from h).elim
  | [.int _], _, h => exact (show False from h).elim
  | [.str []], _, h => exact (show False from h).elim
  | [.str (_ :: _ :: _)], _, h => exact (show False from h).elim
  | [.tup _], _, h => exact (show False from h).elim
  | [.lst _], _, h => exact (show False from h).elim
  | [.scr _], _, h => exact (show False from h).elim
  | .non :: _ :: _, _, h => exact (show False from h).elim
  | .bl _ :: _ :: _, _, h => exact (show False from h).elim
  | .int _ :: _ :: _, _, h => exact (show False from h).elim
  | .str [] :: _ :: _, _, h => exact (show False from h).elim
  | .str [_] :: _ :: _, _, h => exact (show False from h).elim
  | .str (_ :: _ :: _) :: _ :: _, _, h => exact (show False from h).elim
  | .tup _ :: _ :: _, _, h => exact (show False from h).elim
  | .lst _ :: _ :: _, _, h => exact (show False from h).elim
  | .scr _ :: _ :: _, _, h => exact (show False from h).elim
theorem low_one : ∀ c, c < 128 → Unicode.lowerOf c = [lowC c] := by
  have : ∀ c : Fin 128, Unicode.lowerOf c.val = [lowC c.val] := by decide +kernel
  exact fun c h => this ⟨c, h⟩
theorem lower_eq (s : List Nat) (h : ascii s = true) : Txt.lower (mkS s) = mkS (s.map lowC) := by
  have hs : ∀ c ∈ s, c < 128 := fun c hc => of_decide_eq_true (List.all_eq_true.mp h c hc)
  have key : (mkS s).cps.mapIdx (fun i _ => (Unicode.lowerAt (mkS s).cps i).toArray) = (s.map fun c => #[lowC c]).toArray := by
    apply Array.ext
    · simp [mkS]
    · intro i h1 h2
      have hi : i < s.length := by simpa [mkS] using h1
      rw [Array.getElem_mapIdx]
      have : (mkS s).cps[i]? = some s[i] := by simp [mkS, hi]
      have e : Unicode.lowerAt (mkS s).cps i = [lowC s[i]] := by
        unfold Unicode.lowerAt
        rw [this]
        have hc := hs s[i] (List.getElem_mem hi)
        show (if (s[i] == 0x3A3 && Unicode.endsWord (mkS s).cps i) = true then [0x3C2] else Unicode.lowerOf s[i]) = _
        have ne : (s[i] == 0x3A3) = false := by rw [beq_eq_false_iff_ne]; omega
        rw [ne, Bool.false_and, if_neg (by decide)]
        exact low_one _ hc
      rw [e]
      simp
  show (⟨((mkS s).cps.mapIdx (fun i _ => (Unicode.lowerAt (mkS s).cps i).toArray)).flatten⟩ : Str) = ⟨(s.map lowC).toArray⟩
  rw [key]
  congr 1
  apply Array.ext'
  rw [Array.toList_flatten]
  show ((s.map fun c => #[lowC c]).map Array.toList).flatten = s.map lowC
  rw [List.map_map]
  clear key hs h
  induction s with
  | nil => rfl
  | cons c s ih =>
    rw [List.map_cons, List.flatten_cons, ih]
    rfl
theorem pr_lower : MtR X "str.lower" (rPM X.K .lower) := by
  intro pins st σ H x xs a us Q I rx rs hyp
  obtain ⟨F, s, ds, sb, rfl, hs, h⟩ := hyp
  cases ds with
  | cons d ds => cases d <;> cases ds <;> exact (show False from h).elim
  | nil =>
    cases hs
    obtain ⟨hz, h⟩ := OutP.guard h
    simp only [Bool.and_eq_true, decide_eq_true_eq] at hz
    refine mt_lower pins st σ H _ _ a us Q I rx rs ⟨_, rfl, rfl, by rw [mlen]; exact hz.1, ?_⟩
    rw [lower_eq s hz.2]
    exact h.here sb (.str _)

/-! ### isinstance -/
def tyName : D → String
  | .non => "NoneType" | .bl _ => "bool" | .int _ => "int" | .str _ => "str" | .tup _ => "tuple" | .lst _ => "list" | .scr _ => "list" | .dct _ => "dict"
theorem ty_of {K : PySem.W.Frag} {F H : Hp} {v : V} {d : D} (hd : ∀ xs, d ≠ .scr xs) (hd2 : ∀ kvs, d ≠ .dct kvs) (s : Same F H) (h : DB K F H v d) : TyX K H v (.type (tyName d)) := by
  cases d with
  | non => rw [h.non]; exact .base .non
  | bl b => rw [h.bl]; exact .base (.bl b)
  | int i => rw [h.int]; exact .base (.int i)
  | str t => rw [h.str]; exact .base (.str _)
  | tup ds =>
    obtain ⟨a, vs, rfl, q, _, _⟩ := h.tuple s
    rcases q with (q | ⟨o, q⟩) | ⟨o, its, n, q1, q2, _⟩
    · exact .base (.tup q)
    · exact .fTuple q
    · exact .kTuple q1 q2
  | lst ds =>
    obtain ⟨a, vs, rfl, q, _⟩ := h.list s
    rcases q with q | ⟨o, q⟩
    · exact .base (.lst q)
    · exact .base (.frz q)
  | scr xs => exact absurd rfl (hd xs)
  | dct xs => exact absurd rfl (hd2 xs)
def tyFlag (d : D) : String → Bool
  | "bool" => (match d with | .bl _ => true | _ => false)
  | "int" => (match d with | .bl _ | .int _ => true | _ => false)
  | "str" => (match d with | .str _ => true | _ => false)
  | "tuple" => (match d with | .tup _ => true | _ => false)
  | "list" => (match d with | .lst _ | .scr _ => true | _ => false)
  | _ => false
end
end MT
namespace MT
open PySem L2
section
variable {X : Cx}
theorem up_one : ∀ c, c < 128 → Unicode.upperOf c = [upC c] := by
  have : ∀ c : Fin 128, Unicode.upperOf c.val = [upC c.val] := by decide +kernel
  exact fun c h => this ⟨c, h⟩
theorem flat_ones (f : Nat → Nat) : ∀ s : List Nat, ((s.map fun c => #[f c]).map Array.toList).flatten = s.map f
  | [] => rfl
  | c :: s => by
    rw [List.map_cons, List.map_cons, List.flatten_cons, flat_ones f s]
    rfl
theorem upper_eq (s : List Nat) (h : ascii s = true) : Txt.upper (mkS s) = mkS (s.map upC) := by
  have hs : ∀ c ∈ s, c < 128 := fun c hc => of_decide_eq_true (List.all_eq_true.mp h c hc)
  have key : (mkS s).cps.mapIdx (fun _ c => (Unicode.upperOf c).toArray) = (s.map fun c => #[upC c]).toArray := by
    apply Array.ext
    · simp [mkS]
    · intro i h1 h2
      have hi : i < s.length := by simpa [mkS] using h1
      rw [Array.getElem_mapIdx]
      have e : (mkS s).cps[i]'(by simpa [mkS] using hi) = s[i] := by simp [mkS]
      rw [e, up_one _ (hs _ (List.getElem_mem hi))]
      simp
  show (⟨((mkS s).cps.mapIdx (fun _ c => (Unicode.upperOf c).toArray)).flatten⟩ : Str) = ⟨(s.map upC).toArray⟩
  rw [key]
  congr 1
  apply Array.ext'
  rw [Array.toList_flatten]
  exact flat_ones upC s
theorem pr_upper : MtR X "str.upper" (rPM X.K .upper) := by
  intro pins st σ H x xs a us Q I rx rs hyp
  obtain ⟨F, s, ds, sb, rfl, hs, h⟩ := hyp
  cases ds with
  | cons d ds => cases d <;> cases ds <;> exact (show False from h).elim
  | nil =>
    cases hs
    obtain ⟨hz, h⟩ := OutP.guard h
    simp only [Bool.and_eq_true, decide_eq_true_eq] at hz
    refine mt_upper pins st σ H _ _ a us Q I rx rs ⟨_, rfl, rfl, by rw [mlen]; exact hz.1, ?_⟩
    rw [upper_eq s hz.2]
    exact h.here sb (.str _)
/-- one text handed in -/
theorem one_str {K : PySem.W.Frag} {F H : Hp} {p : Pr} {s : List Nat} {ds : List D} {Q : VK} {xs : List V} (hs : DBs K F H xs ds) (h : OutP K F H (prD p (.str s :: ds)) Q) (hn : ∀ ds, (∀ t, ds ≠ [D.str t]) → prD p (.str s :: ds) = .no) : ∃ t, ds = [.str t] ∧ xs = [.str (mkS t)] := by
  by_cases q : ∃ t, ds = [.str t]
  · obtain ⟨t, rfl⟩ := q
    obtain ⟨v, rfl, hv⟩ := hs.one
    rw [hv.str]
    exact ⟨t, rfl, rfl⟩
  · rw [hn ds fun t e => q ⟨t, e⟩] at h
    exact (show False from h).elim
theorem pre_is : ∀ (t s : List Nat), TL.pre t s = t.isPrefixOf s
  | [], s => by unfold TL.pre; simp
  | c :: t, [] => rfl
  | c :: t, d :: s => by
    have ih := pre_is t s
    unfold TL.pre at ih ⊢
    rw [List.length_cons, List.take_succ_cons]
    show (d == c && s.take t.length == t) = (c == d && t.isPrefixOf s)
    rw [ih]
    congr 1
    by_cases e : d = c
    · subst e; rfl
    · rw [beq_eq_false_iff_ne.mpr e, beq_eq_false_iff_ne.mpr (Ne.symm e)]
theorem starts_eq (s t : List Nat) : Txt.startswith (mkS s) (mkS t) = t.isPrefixOf s := by
  rw [← pre_is]
  show (decide (0 + (mkS t).length ≤ (mkS s).length) && Builtin.Str.subAt (mkS s) (mkS t) 0) = _
  rw [StrLaws.subAt_eq, mlen, mlen]
  show (decide (0 + t.length ≤ s.length) && (s.drop 0).take t.length == t) = (s.take t.length == t)
  rw [List.drop_zero]
  by_cases h : t.length ≤ s.length
  · rw [decide_eq_true (by omega)]; rfl
  · have : (s.take t.length == t) = false := by
      rw [beq_eq_false_iff_ne]
      intro e
      have := congrArg List.length e
      rw [List.length_take] at this
      omega
    rw [this, Bool.and_false]
theorem pr_starts : MtR X "str.startswith" (rPM X.K .starts) := by
  intro pins st σ H x xs a us Q I rx rs hyp
  obtain ⟨F, s, ds, sb, rfl, hs, h⟩ := hyp
  obtain ⟨t, rfl, rfl⟩ := one_str hs h fun ds hd => by
    cases ds with
    | nil => rfl
    | cons d ds => cases d <;> cases ds <;> first | rfl | exact absurd rfl (hd _)
  obtain ⟨hz, h⟩ := OutP.guard h
  refine mt_startswith pins st σ H _ _ a us Q I rx rs ⟨_, _, rfl, rfl, ?_⟩
  rw [starts_eq]
  exact h.here sb (.bl _)
theorem pr_partition : MtR X "str.partition" (rPM X.K .partition) := by
  intro pins st σ H x xs a us Q I rx rs hyp
  obtain ⟨F, s, ds, sb, rfl, hs, h⟩ := hyp
  obtain ⟨t, rfl, rfl⟩ := one_str hs h fun ds hd => by
    cases ds with
    | nil => rfl
    | cons d ds => cases d <;> cases ds <;> first | rfl | exact absurd rfl (hd _) | (rename_i t _ _; cases t with | nil => rfl | cons _ t => cases t <;> rfl)
  match t, rs, hs, h with
  | [c], rs, hs, h =>
    obtain ⟨hz, h⟩ := OutP.guard h
    have hz := sz_ok hz
    refine mt_partition pins st σ H _ _ a us Q I rx rs ⟨_, _, rfl, rfl, rfl, by rw [mlen]; exact hz, ?_⟩
    rw [TL.partition_par (mkS s) (mkS [c]) (by rw [tl_mk]; simp), tl_mk, tl_mk]
    intro p hp
    cases q : TL.par [c] [] s with
    | none =>
      rw [q] at h
      exact h _ _ _ (Step.new sb hp) (dv_tup_new (sb.free hp) (.cons (.str s) (.cons (.str []) (.cons (.str []) .nil))))
    | some ab =>
      obtain ⟨u, v⟩ := ab
      rw [q] at h
      exact h _ _ _ (Step.new sb hp) (dv_tup_new (sb.free hp) (.cons (.str u) (.cons (.str [c]) (.cons (.str v) .nil))))
  | [], _, _, h => exact (show False from h).elim
  | _ :: _ :: _, _, _, h => exact (show False from h).elim
theorem findC_at (c : Nat) : ∀ (s : List Nat) (k : Nat), (findC c k s = none ∧ ∀ j : Nat, s[j]? ≠ some c) ∨ ∃ j : Nat, findC c k s = some (k + j) ∧ s[j]? = some c ∧ ∀ i : Nat, i < j → s[i]? ≠ some c
  | [], k => .inl ⟨rfl, fun j => by simp⟩
  | x :: s, k => by
    by_cases e : x = c
    · refine .inr ⟨0, ?_, by rw [e]; rfl, fun i hi => absurd hi (by omega)⟩
      show (if x = c then some k else findC c (k + 1) s) = _
      rw [if_pos e]; rfl
    · have u : findC c k (x :: s) = findC c (k + 1) s := if_neg e
      rcases findC_at c s (k + 1) with ⟨h1, h2⟩ | ⟨j, h1, h2, h3⟩
      · refine .inl ⟨u.trans h1, fun j => ?_⟩
        cases j with
        | zero => intro q; exact e (Option.some.inj q)
        | succ j => exact h2 j
      · refine .inr ⟨j + 1, u.trans (h1.trans (by congr 1; omega)), h2, fun i hi => ?_⟩
        cases i with
        | zero => intro q; exact e (Option.some.inj q)
        | succ i => exact h3 i (by omega)
theorem at_one (s : List Nat) (c i : Nat) : StrLaws.At (mkS s) (mkS [c]) (mkS s).length i ↔ s[i]? = some c := StrLaws.subAt_one (mkS s) c i
theorem find_eq (s : List Nat) (c i : Nat) : Txt.find3 (mkS s) (mkS [c]) (i : Int) = (match findC c i (s.drop i) with
    | some k => (k : Int)
    | none => -1) := by
  have hf : PySem.fromIndex (mkS s).length (i : Int) = i := by
    show (max 0 (if (i : Int) < 0 then (i : Int) + _ else (i : Int))).toNat = i
    rw [if_neg (by omega)]
    omega
  unfold Txt.find3
  rw [hf]
  rcases StrLaws.occ_head_from (mkS s) (mkS [c]) i 1 (Nat.le_refl 1) with ⟨h0, hn⟩ | ⟨k, r, h0, hlo, hk, hn⟩
  · rw [h0]
    rcases findC_at c (s.drop i) i with ⟨h1, _⟩ | ⟨j, h1, h2, _⟩
    · rw [h1]
    · rw [List.getElem?_drop] at h2
      exact absurd ((at_one s c (i + j)).mpr h2) (hn (i + j) (by omega))
  · rw [h0]
    have hk := (at_one s c k).mp hk
    rcases findC_at c (s.drop i) i with ⟨_, h2⟩ | ⟨j, h1, h2, h3⟩
    · have := h2 (k - i)
      rw [List.getElem?_drop, show i + (k - i) = k by omega] at this
      exact absurd hk this
    · rw [h1]
      rw [List.getElem?_drop] at h2
      have e : k = i + j := by
        rcases Nat.lt_trichotomy k (i + j) with q | q | q
        · have := h3 (k - i) (by omega)
          rw [List.getElem?_drop, show i + (k - i) = k by omega] at this
          exact absurd hk this
        · exact q
        · exact absurd ((at_one s c (i + j)).mpr h2) (hn (i + j) (by omega) q)
      rw [e]
theorem pr_find2 : MtR X "str.find" (rPM X.K .find2) := by
  intro pins st σ H x xs a us Q I rx rs hyp
  obtain ⟨F, s, ds, sb, rfl, hs, h⟩ := hyp
  by_cases q : ∃ c i, ds = [.str [c], .int i]
  · obtain ⟨c, i, rfl⟩ := q
    obtain ⟨v, w, rfl, hv, hw⟩ := hs.two
    rw [hv.str, hw.int] at rs
    obtain ⟨hz, h⟩ := OutP.guard h
    simp only [Bool.and_eq_true, decide_eq_true_eq] at hz
    refine mt_find3 pins st σ H _ _ a us Q I rx rs ⟨_, _, i, rfl, rfl, ?_⟩
    have e := find_eq s c i.toNat
    rw [Int.toNat_of_nonneg hz.2.1] at e
    show Q (.int (Txt.find3 (mkS s) (mkS [c]) i)) H
    rw [e]
    cases g : findC c i.toNat (s.drop i.toNat) with
    | none => rw [g] at h; exact h.here sb (.int _)
    | some k => rw [g] at h; exact h.here sb (.int _)
  · refine (show False from ?_).elim
    have : prD .find2 (.str s :: ds) = .no := by
      unfold prD
      split <;> first
        | rfl
        | (rename_i e; cases e; done)
        | (rename_i e1 e2; cases e2; exact absurd ⟨_, _, rfl⟩ q)
        | contradiction
    rw [this] at h
    exact h
theorem pr_sindex : MtR X "str.index" (rPM X.K .sindex) := by
  intro pins st σ H x xs a us Q I rx rs hyp
  obtain ⟨F, s, ds, sb, rfl, hs, h⟩ := hyp
  obtain ⟨t, rfl, rfl⟩ := one_str hs h fun ds hd => by
    cases ds with
    | nil => rfl
    | cons d ds => cases d <;> cases ds <;> first | rfl | exact absurd rfl (hd _) | (rename_i t _ _; cases t with | nil => rfl | cons _ t => cases t <;> rfl)
  match t, rs, hs, h with
  | [c], rs, hs, h =>
    obtain ⟨hz, h⟩ := OutP.guard h
    obtain ⟨k, e, h⟩ := OutP.ofO h
    rcases findC_at c s 0 with ⟨h1, _⟩ | ⟨j, h1, h2, h3⟩
    · rw [h1] at e; cases e
    · rw [h1] at e
      have e : 0 + j = k := Option.some.inj e
      obtain rfl : j = k := by omega
      rcases StrLaws.occ_head (mkS s) (mkS [c]) 1 (Nat.le_refl 1) with ⟨_, hn⟩ | ⟨i, r, h0, hi, hn⟩
      · exact absurd ((at_one s c j).mpr h2) (hn j)
      · have hi := (at_one s c i).mp hi
        obtain rfl : i = j := by
          rcases Nat.lt_trichotomy i j with q | q | q
          · exact absurd hi (h3 i q)
          · exact q
          · exact absurd ((at_one s c j).mpr h2) (hn j q)
        refine mt_sindex pins st σ H _ _ a us Q I rx rs ⟨_, _, i, r, rfl, rfl, h0, ?_⟩
        exact h.here sb (.int _)
  | [], _, _, h => exact (show False from h).elim
  | _ :: _ :: _, _, _, h => exact (show False from h).elim
theorem strip_eq (c : Nat) (s : List Nat) : Txt.stripChars (mkS s) (mkS [c]) = mkS (stripC c s) := by
  have g : (mkS [c]).cps.contains = fun x => x == c := by
    funext x
    show ([c].toArray.contains x) = _
    simp
    rfl
  show Txt.stripBy (mkS [c]).cps.contains true true (mkS s) = _
  rw [PySem.W.stripBy_eq, g]
  have e : ∀ (lo hi : Nat), Builtin.Str.strSub (mkS s) lo hi = mkS ((s.drop lo).take (hi - lo)) := fun lo hi => by
    show (⟨s.toArray.extract lo hi⟩ : Str) = ⟨((s.drop lo).take (hi - lo)).toArray⟩
    rw [List.extract_toArray, List.extract_eq_drop_take]
  show Builtin.Str.strSub (mkS s) (s.takeWhile fun x => x == c).length ((mkS s).length - ((s.drop (s.takeWhile fun x => x == c).length).reverse.takeWhile fun x => x == c).length) = _
  rw [e, mlen]
  have d : s.drop (s.takeWhile fun x => x == c).length = s.dropWhile fun x => x == c := by
    have := List.takeWhile_append_dropWhile (p := fun x => x == c) (l := s)
    exact (congrArg (List.drop (s.takeWhile fun x => x == c).length) this).symm.trans List.drop_left
  have l : (s.takeWhile fun x => x == c).length + (s.dropWhile fun x => x == c).length = s.length := by
    rw [← List.length_append, List.takeWhile_append_dropWhile]
  rw [d]
  congr 1
  unfold stripC
  generalize hd : (s.dropWhile fun x => x == c) = dd at l
  have r := List.takeWhile_append_dropWhile (p := fun x => x == c) (l := dd.reverse)
  have r2 : (dd.reverse.takeWhile fun x => x == c).length + (dd.reverse.dropWhile fun x => x == c).length = dd.length := by
    rw [← List.length_append, r, List.length_reverse]
  have r3 : dd = (dd.reverse.dropWhile fun x => x == c).reverse ++ (dd.reverse.takeWhile fun x => x == c).reverse := by
    rw [← List.reverse_append, r, List.reverse_reverse]
  have n : s.length - (dd.reverse.takeWhile fun x => x == c).length - (s.takeWhile fun x => x == c).length = ((dd.reverse.dropWhile fun x => x == c).reverse).length := by
    rw [List.length_reverse]; omega
  rw [n]
  conv => lhs; rhs; rw [r3]
  exact List.take_left
theorem pr_strip1 : MtR X "str.strip" (rPM X.K .strip1) := by
  intro pins st σ H x xs a us Q I rx rs hyp
  obtain ⟨F, s, ds, sb, rfl, hs, h⟩ := hyp
  obtain ⟨t, rfl, rfl⟩ := one_str hs h fun ds hd => by
    cases ds with
    | nil => rfl
    | cons d ds => cases d <;> cases ds <;> first | rfl | exact absurd rfl (hd _) | (rename_i t _ _; cases t with | nil => rfl | cons _ t => cases t <;> rfl)
  match t, rs, hs, h with
  | [c], rs, hs, h =>
    obtain ⟨hz, h⟩ := OutP.guard h
    refine mt_stripChars pins st σ H _ _ a us Q I rx rs ⟨_, _, rfl, rfl, by rw [mlen]; exact sz_ok hz, ?_⟩
    rw [strip_eq]
    exact h.here sb (.str _)
  | [], _, _, h => exact (show False from h).elim
  | _ :: _ :: _, _, _, h => exact (show False from h).elim
end
end MT
/-! ### a tuple turned about -/
namespace MT
open PySem L2 PyProof.Rows HT
section
variable {prog : Program} {w : World} {A : Around} {E : Value → Shared → Prop} {s : Shared}
theorem rev_places (n : Nat) : Builtin.Slice.slicePlaces ((n : Int) - 1) (-1) (-1) = n := by
  unfold Builtin.Slice.slicePlaces
  rw [if_neg (by decide)]
  split
  · rw [show (- -1 : Int) = 1 by decide, Int.ediv_one]; omega
  · omega
theorem rev_adj (n : Nat) : Builtin.Slice.sliceAdjust none none (-1) (n : Int) = ((n : Int) - 1, -1) := by
  unfold Builtin.Slice.sliceAdjust
  rfl
theorem rev_sl {sl : Addr} {vs : Value} {n : Nat} {Q : Int × Int × Nat → Shared → Prop} (hs : s.heap.IsSliceOf sl .none .none vs) (ps : IsPart vs (some (-1)))
    (h : Q ((n : Int) - 1, -1, n) s) : wpAny (model prog w) A (Builtin.Slice.sliceApplied (.ref sl) (pure (n : Int))) Q E s := by
  obtain ⟨os, g1, _, g2⟩ := id hs
  unfold Builtin.Slice.sliceApplied Builtin.Slice.sliceFields
  refine wpAny_bind (wpAny_bind (wpAny_field g1 g2 (x := .none) rfl (wpAny_bind (wpAny_field g1 g2 (x := .none) rfl (wpAny_bind (wpAny_field g1 g2 (x := vs) rfl (wpAny_pure ?_)))))))
  refine wpAny_bind (slicePart_ ps ?_)
  show wpAny _ _ (if ((-1 : Int) == 0) = true then _ else _) _ _ s
  rw [if_neg (by decide)]
  refine wpAny_bind (slicePart_ .none (wpAny_bind (slicePart_ .none (wpAny_bind (wpAny_pure ?_)))))
  show wpAny _ _ (match Builtin.Slice.sliceAdjust none none (-1) (n : Int) with | (lo, hi) => pure (lo, (-1 : Int), Builtin.Slice.slicePlaces lo hi (-1))) _ _ s
  rw [rev_adj]
  show wpAny _ _ (pure ((n : Int) - 1, (-1 : Int), Builtin.Slice.slicePlaces ((n : Int) - 1) (-1) (-1))) _ _ s
  rw [rev_places]
  exact wpAny_pure h
theorem fm_congr {α β : Type} {f g : α → Option β} : ∀ xs : List α, (∀ x ∈ xs, f x = g x) → xs.filterMap f = xs.filterMap g
  | [], _ => rfl
  | x :: xs, h => by rw [List.filterMap_cons, List.filterMap_cons, h x List.mem_cons_self, fm_congr xs fun y hy => h y (List.mem_cons_of_mem _ hy)]
theorem rev_pick (xs : Array Value) : ((List.range xs.size).filterMap fun (m : Nat) => xs[((xs.size : Int) - 1 + (m : Int) * -1).toNat]?).toArray = xs.toList.reverse.toArray := by
  have e : ((List.range xs.size).filterMap fun (m : Nat) => xs[((xs.size : Int) - 1 + (m : Int) * -1).toNat]?) = ((List.range xs.size).map fun k => xs.size - 1 - k).filterMap (xs[·]?) := by
    rw [List.filterMap_map]
    exact fm_congr _ fun m hm => by
      have := List.mem_range.mp hm
      show _ = xs[xs.size - 1 - m]?
      congr 1
      omega
  rw [e, PySem.W.krv_range, List.filterMap_reverse, PySem.W.krv_all]
theorem getItem_rev {t sl : Addr} {items : Array Value} {vs : Value} {Q : Value → Shared → Prop} (ht : IsTup s.heap t items) (hs : s.heap.IsSliceOf sl .none .none vs) (ps : IsPart vs (some (-1)))
    (h : Q (.ref s.heap.objs.size) { s with heap := s.heap.push { cls := .type "tuple", data := .seq items.toList.reverse.toArray } })
    (hz : items.size ≤ sizeLine) : wpAny (model prog w) A (getItem (.ref t) (.ref sl)) Q E s := by
  have htake : sizeOk (.seq items.toList.reverse.toArray) := by
    show items.toList.reverse.toArray.size ≤ sizeLine
    rw [List.size_toArray, List.length_reverse, Array.length_toList]; exact hz
  obtain ⟨os, g1, g2, _⟩ := id hs
  have gT : s.TypeIs (.ref sl) "slice" := ⟨os, g1, g2⟩
  unfold getItem
  try with_reducible refine wpAny_holding ?_
  first | refine wpAny_bind (wpAny_pure ?_) | skip
  refine wpAny_bind (wpAny_sequenceKey ht.typeIs (by decide) ?_)
  refine wpAny_bind (wpAny_callSpecial?_slot (name := Str.ofString "__getitem__") ht.typeIs slot_tuple_getitem
    (wpAny_call_entry slot_tuple_getitem ht.typeIs entry_tuple_getitem ?_ (args_tuple_getitem _ _)))
  show wpAny _ _ (Builtin.Tuple.tupleItemsOf (.ref t) >>= _) _ _ s
  refine wpAny_bind (tupleItemsOf_ ht (wpAny_bind (wpAny_typeOf gT ?_)))
  rw [if_pos (by decide)]
  refine wpAny_bind (rev_sl hs ps ?_)
  have hno : ¬ ((((items.size : Int) - 1) == 0 && (-1 : Int) == 1 && items.size == items.size) = true) := by
    intro q
    rw [Bool.and_eq_true, Bool.and_eq_true] at q
    exact absurd q.1.2 (by decide)
  show wpAny _ _ (if (((items.size : Int) - 1) == 0 && (-1 : Int) == 1 && items.size == items.size) = true then _ else _) _ _ s
  rw [if_neg hno, rev_pick]
  first
    | exact wpAny_bind (m := Builtin.Tuple.tupleExact _) (wpAny_newObj_type (wpAny_pure ⟨_, rfl, wpAny_pure h⟩) htake)
    | exact wpAny_bind (m := Builtin.Tuple.tupleExact _) (wpAny_newObj_type (wpAny_bind (wpAny_pure (wpAny_pure ⟨_, rfl, wpAny_pure h⟩))) htake)
    | exact wpAny_bind (wpAny_bind (m := Builtin.Tuple.tupleExact _) (wpAny_newObj_type (wpAny_pure (wpAny_pure ⟨_, rfl, wpAny_pure h⟩)) htake))
    | exact wpAny_bind (wpAny_bind (m := Builtin.Tuple.tupleExact _) (wpAny_newObj_type (wpAny_pure ⟨_, rfl, wpAny_pure h⟩) htake))
end
section
variable {X : Cx}
def tRevT (K : PySem.W.Frag) (te : TE) : TE := fun σ H Q => te σ H fun x H1 => ∃ a xs, x = .ref a ∧ SqT K H1 a xs ∧ ∀ p, H1 p = none → Q (.ref p) (upd H1 p (.tup xs.reverse))
theorem pe_revT {e : Expr} {te : TE} {k : Nat} {p1 p2 p3 pos : Pos} (he : PE X e te) : PE X (.Subscript e (.Slice none none (some (.UnaryOp .USub (.Constant (.int 1) k p1) p2)) p3) pos) (tRevT X.K te) := by
  refine ⟨fun pins s σ H Q I h => Subscript_ (thn (he.run pins s σ H _ I h) fun v s1 ⟨x, H1, I1, r1, a, xs, ex, hx, q⟩ => ?_)⟩
  subst ex
  cases r1
  have st : PO X (some (.UnaryOp .USub (.Constant (.int 1) k p1) p2)) (tPart (tUn (rU fun i => .int (-i)) (tC (.int 1)))) := po_some (pe_un un_neg pe_int)
  refine wpAny_Slice ?_
  rw [evalPart_none]
  refine wpAny_pure (wpAny_pure ?_)
  refine thn (st.run pins s1 σ H1 (fun o H4 => o = some (-1) ∧ H4 = H1) I1 ⟨1, rfl, -1, rfl, rfl, rfl⟩) fun vs s4 ⟨o, H4, I4, ps, eo, e4⟩ => ?_
  subst eo e4
  have I5 : L2.Inv X pins σ H4 { s4 with heap := s4.heap.push { cls := .type "slice", data := .fields #[.none, .none, vs] } } := I4.kept (t' := s4.toks) fun b ob q => Heap.get?_push_of_some _ q
  obtain ⟨its, r, ht, hz⟩ := I5.tuple hx
  have hlen : its.toArray.size = xs.length := by rw [List.size_toArray]; exact r.length.symm
  show wpAny (model X.prog X.w) X.A (subscriptTail e (.Slice none none (some (.UnaryOp .USub (.Constant (.int 1) k p1) p2)) p3) (.ref a) (.ref s4.heap.objs.size)) (EP X pins σ Q) X.xe { s4 with heap := s4.heap.push { cls := .type "slice", data := .fields #[.none, .none, vs] } }
  refine tail_any (ops := [.ref a, .ref s4.heap.objs.size]) ht.typeIs slot_tuple_getitem.lookup ?_ (by with_unfolding_all rfl)
  refine getItem_rev ht (Heap.IsSliceOf.new _ _ _ vs) ps ?_ (by rw [hlen]; exact hz)
  refine ⟨.ref _, _, I5.laid (t' := s4.toks) (o := .tup xs.reverse) (fun b ob q => Heap.get?_push_of_some _ q) (Nat.le_refl _) ?_, rfl, q _ (I5.hok.fresh (Nat.le_refl _))⟩
  exact ⟨by rw [List.length_reverse]; exact hz, _, r.reverse, IsTup.new _ _⟩
end
end MT
/-! ### how many unlike texts a tuple holds -/
namespace MT
open PySem PySem.Spec PyProof.Rows L2
def upS (xs : List Str) (i : Nat) : Str → Bool := fun y => (xs.take i).any (· == y)
theorem upS_step {xs : List Str} (nd : xs.Nodup) {i : Nat} (hi : i < xs.length) : upS xs i (xs.getD i Str.empty) = false ∧ ∀ y, (upS xs i y || decide (y = xs.getD i Str.empty)) = upS xs (i + 1) y := by
  have e : xs.getD i Str.empty = xs[i] := by rw [List.getD_eq_getElem?_getD, List.getElem?_eq_getElem hi]; rfl
  have t : xs.take (i + 1) = xs.take i ++ [xs[i]] := (List.take_append_getElem hi).symm
  refine ⟨?_, fun y => ?_⟩
  · rw [e]
    refine Bool.eq_false_iff.mpr fun c => ?_
    obtain ⟨z, hz, ez⟩ := List.any_eq_true.mp c
    have ez : z = xs[i] := eq_of_beq ez
    subst ez
    have n2 : (xs.take (i + 1)).Nodup := (List.take_sublist _ _).nodup nd
    rw [t] at n2
    have := (List.nodup_append.mp n2).2.2 _ hz _ List.mem_cons_self
    exact this rfl
  · rw [e]
    unfold upS
    rw [t, List.any_append]
    congr 1
    by_cases q : y = xs[i]
    · subst q; simp
    · have : (xs[i] == y) = false := beq_eq_false_iff_ne.mpr fun z => q z.symm
      simp [q, this]
section
variable {prog : Program} {w : World} {B : Around} {R : Result → Shared → Prop} {J : Addr} {fp wr : List Addr} {G : Array GenState → Array GenState → Prop} {n : Nat} {P : Nat → Value → Prop} {At' : Nat → Shared → Prop}
theorem loopN (W : WalksS prog w B.in1 J fp wr G n P At') (a : Addr) (nf : a ∉ fp) (xs : List Str) (hn : xs.length = n) (nd : xs.Nodup) (hb : n + 1 < scanBound)
    (val : ∀ i v, P i v → ∃ t, v = .str (xs.getD i Str.empty) t) :
    ∀ (k i : Nat) (s : Shared), n - i = k → i ≤ n → At' i s → s.heap.SetOf (PySem.strKind prog w) a (upS xs i) i →
      (∀ s', Moved (a :: wr) G s s' → s'.heap.SetOf (PySem.strKind prog w) a (upS xs n) n → R (.ok (.ret .none)) s') →
      codeAny (model prog w) B (.builtin "set.update.loop" ⟨[.ref a, .ref J], []⟩) R s := by
  have nw : a ∉ wr := fun h => nf (W.sub _ h)
  have sub : ∀ b ∈ wr, b ∈ a :: wr := fun b hb => List.mem_cons_of_mem _ hb
  have keep : ∀ {s s' : Shared} {f : Str → Bool} {m : Nat}, Moved wr G s s' → s.heap.SetOf (PySem.strKind prog w) a f m → s'.heap.SetOf (PySem.strKind prog w) a f m := fun hm ⟨o, es, ep, t, ho, rest⟩ => ⟨o, es, ep, t, hm.heap a _ nw ho, rest⟩
  intro k
  induction k with
  | zero =>
    intro i s hk hi st hS fin
    have e : i = n := by omega
    subst e
    refine codeAny_builtin F.entry_set_update_loop ?_
    rw [Around.under_plainId F.plain_set_update_loop _]
    show wpAny _ B.in1 (pyNext (.ref J) >>= _) _ _ s
    refine wpAny_bind (W.done s _ _ st fun s' hm => ?_)
    show wpAny _ B.in1 (ret Value.none) _ _ s'
    exact wpAny_pure (fin s' (hm.mono sub) (keep hm hS))
  | succ k ih =>
    intro i s hk hi st hS fin
    have lt : i < n := by omega
    refine codeAny_builtin F.entry_set_update_loop ?_
    rw [Around.under_plainId F.plain_set_update_loop _]
    show wpAny _ B.in1 (pyNext (.ref J) >>= _) _ _ s
    refine wpAny_bind (W.item i s _ _ lt st fun v s' hP st' hm => ?_)
    obtain ⟨t, rfl⟩ := val i v hP
    have hS' := keep hm hS
    show wpAny _ B.in1 (holding [Value.str (xs.getD i Str.empty) t] (setAdd a (.str (xs.getD i Str.empty) t)) >>= _) _ _ s'
    refine wpAny_bind (wpAny_holding ?_)
    unfold setAdd
    refine wpAny_holding (wpAny_bind ((PySem.strKind prog w).pyHash (k := xs.getD i Str.empty) (strKind_is _ _ _ _) ?_))
    refine wpAny_setAddHashed_of (knd := PySem.strKind prog w) (s := { s' with toks := s'.toks + 1 }) (strKind_is _ _ _ _) rfl hS' (by omega) fun h' sb hS2 => ?_
    obtain ⟨u1, u2⟩ := upS_step nd (by omega : i < xs.length)
    have hSi : h'.SetOf (PySem.strKind prog w) a (upS xs (i + 1)) (i + 1) := SetOf_congr hS2 u2 (by rw [u1]; rfl)
    refine wpAny_pure ⟨plainId_quiet F.plain_set_update_loop _, ih (i + 1) _ (by omega) lt (W.frame _ s' _ _ st' (Nat.le_succ _) fun b hb o e => ?_) hSi fun s'' hm'' hS'' => ?_⟩
    · rw [sb.2 b (fun h : b = a => nf (by rw [← h]; exact hb))]; exact e
    · refine fin s'' (Moved.trans W.gtrans ((hm.mono sub).then_heap (Nat.le_succ _) fun b o hb e => ?_) hm'') hS''
      rw [sb.2 b (fun h : b = a => hb (by rw [h]; exact List.mem_cons_self))]; exact e
end
section
variable {prog : Program} {w : World} {B : Around} {E : Value → Shared → Prop} {s : Shared}
abbrev newSet (led : Bool) : Obj := { cls := .type "set", dict := none, data := .set #[] 0 (.fresh 0 0 led) }
theorem set_tup {l : Addr} {its : Array Value} {xs : List Str} {Q : Value → Shared → Prop}
    (hh : B.handled = none) (hl : s.heap.IsTuple l its) (hi : StrsAre its.toList xs) (nd : xs.Nodup) (hb : xs.length + 1 < scanBound)
    (h : ∀ (h' : Heap) (tk : Nat), h'.SetOf (PySem.strKind prog w) s.heap.objs.size (upS xs its.size) its.size →
      (∀ b o, b < s.heap.objs.size → s.heap.get? b = some o → h'.get? b = some o) → Q (.ref s.heap.objs.size) { s with heap := h', toks := tk }) :
    wpAny (model prog w) B (call (.type "set") [.ref l]) Q E s := by
  obtain ⟨c, tl, hmro⟩ := PySem.F.called_set.mro
  have c1 := PySem.F.called_set.made
  have c2 := PySem.F.called_set.sub
  refine wpAny_call (codeAny_of_tree (show wpAny _ _ (callAny (.type "set") _) _ _ _ from ?_))
  refine wpAny_pure ⟨Code.quiet_builtin _ (by decide +kernel), (codeAny_builtin PySem.F.entry_type_call ?_ : _)⟩
  rw [Around.under_plain (weight_type_call_type ("set") [.ref l] []) rfl]
  have c3 := PySem.F.called_set.notType
  have c4 := PySem.F.called_set.canCreate
  have c5 := PySem.F.typeCall_set_1 (.ref l)
  repeat (any_goals (first | assumption | (wp_step)))

  refine codeAny_mono (code_set_new_1 (.ref l) (E := E) (Q₁ := fun obj s₁ => ∃ led : Bool, obj = .ref s.heap.objs.size ∧ s₁ = { s with heap := s.heap.push (newSet led) }) fun led => ⟨led, rfl, rfl⟩) fun r s₁ hr => ?_
  cases r with
  | error e => exact hr
  | ok fl =>
    cases fl with
    | ret obj =>
      obtain ⟨led, rfl, rfl⟩ := hr
      have gS : (s.heap.push (newSet led)).get? s.heap.objs.size = some (newSet led) := Heap.get?_push_size _ rfl
      have gT : Shared.TypeIs { s with heap := s.heap.push (newSet led) } (.ref s.heap.objs.size) "set" := ⟨_, gS, rfl⟩
      have c6 := PySem.F.called_set.init.lookup
      have c7 := PySem.F.called_set.init.bind (.ref s.heap.objs.size)
      repeat (any_goals (first | assumption | (wp_step)))

      refine codeAny_mono (codeAny_call_builtin (R := wants (fun r s₂ => r = .none ∧ ∃ h' tk, s₂ = { s with heap := h', toks := tk } ∧ h'.SetOf (PySem.strKind prog w) s.heap.objs.size (upS xs its.size) its.size ∧
          (∀ b o, b < s.heap.objs.size → s.heap.get? b = some o → h'.get? b = some o)) E) PySem.F.called_set.init.plain PySem.F.entry_set_init (check_set_init_1 gT ?_)) fun r₂ s₂ hr₂ => ?_
      · obtain ⟨⟨ocls, odict, odata, oslots⟩, hol, hcl, nl, hdl⟩ := hl
        simp only at hcl hdl
        subst hcl hdl
        have hol' : (s.heap.push (newSet led)).get? l = some { cls := .type "tuple", dict := odict, data := .seq its nl, slots := oslots } := Heap.get?_push_of_some _ hol
        have c8 := PySem.F.sub_tuple_set
        have c9 := PySem.F.sub_tuple_frozenset
        have ne : (Value.type "tuple" == Value.type "dict") = false := by decide
        have hl1 : (s.heap.push (newSet led)).IsTuple l its := ⟨_, hol', rfl, nl, rfl⟩
        unfold Builtin.«set.__init__» noKeywords Builtin.Frozenset.updateFrom
        generalize hPI : pyIter = PI
        wp_walk
        subst hPI

        refine wpAny_pyIter_tuple hl1 (wpAny_bind (wpAny_runValue ?_))
        have lS : l < s.heap.objs.size := Heap.lt_size hol
        have hh3 : B.in1.in1.in1.handled = none := by simp [hh]
        have neI : l ≠ (s.heap.push (newSet led)).objs.size := by rw [Heap.size_push]; exact Nat.ne_of_lt (Nat.lt_succ_of_lt lS)
        have nf : s.heap.objs.size ∉ [(s.heap.push (newSet led)).objs.size, l] := by
          rw [Heap.size_push]; simp only [List.mem_cons, List.mem_singleton, List.not_mem_nil, or_false, not_or]; exact ⟨Nat.ne_of_lt (Nat.lt_succ_self _), Nat.ne_of_gt lS⟩
        have sz' : xs.length = its.size := by rw [← StrsAre.len_eq hi, Array.length_toList]
        have val : ∀ (i : Nat) (v : Value), its[i]? = some v → ∃ t, v = .str (xs.getD i Str.empty) t := fun i v hv => SS.strs_at hi i v (by rw [Array.getElem?_toList]; exact hv)
        refine loopN ((Walks.tuple hh3 _ l neI its).toS) s.heap.objs.size nf xs sz' nd (by omega) val (its.size - 0) 0 _ (by omega) (Nat.zero_le _) ⟨⟨_, Heap.get?_push_size _ rfl, rfl, rfl⟩, (hl1.push _)⟩ ?z0 ?zR
        case z0 =>
          have g : ((s.heap.push (newSet led)).push { cls := .type "tuple_iterator", data := .fields #[.ref l, .int 0 0] }).get? s.heap.objs.size = some (newSet led) := Heap.get?_push_of_some _ gS
          exact SetOf_congr ((setObjOf_fresh (knd := PySem.strKind prog w) led).setOf g (by unfold scanBound; omega)) (fun _ => rfl) rfl
        case zR =>
          intro s' hm hS'
          obtain ⟨h', g', d', tk', os'⟩ := s'
          have eg : g' = s.gens := hm.gens
          have ed : d' = s.drawn := hm.drawn
          have eo : os' = s.os := hm.os
          subst eg ed eo
          show wpAny _ _ _ _ _ _
          refine wpAny_pure (show wpAny _ _ (ret Value.none) _ _ _ from wpAny_pure ⟨rfl, h', tk', rfl, hS', fun b o hb e => ?_⟩)
          have b1 : b ≠ s.heap.objs.size := Nat.ne_of_lt hb
          have b2 : b ≠ (s.heap.push (newSet led)).objs.size := by rw [Heap.size_push]; exact Nat.ne_of_lt (Nat.lt_succ_of_lt hb)
          exact hm.heap b o (by simp only [List.mem_cons, List.mem_singleton, List.not_mem_nil, or_false, not_or]; exact ⟨b1, b2⟩) (Heap.get?_push_of_some _ (Heap.get?_push_of_some _ e))
      · cases r₂ with
        | error e => exact hr₂
        | ok fl₂ =>
          cases fl₂ with
          | ret r =>
            obtain ⟨rfl, h', tk, rfl, hS', hk'⟩ := hr₂
            repeat (any_goals (first | assumption | (wp_step)))
            exact h _ _ hS' hk'
          | _ => exact hr₂.elim
    | _ => exact hr.elim
end
section
variable {X : Cx}
/-- len(set(xs)), xs a tuple of unlike texts -/
def tLenN (K : PySem.W.Frag) (ta : TE) : TE := fun σ H Q => ta σ H fun x H1 => ∃ l, ∃ xs : List Str, x = .ref l ∧ SqT K H1 l (xs.map V.str) ∧ xs.Nodup ∧ xs.length < 64 ∧ Q (.int xs.length) H1
theorem pe_lenN {a : Expr} {ta : TE} {p p2 q pos : Pos} (hc : X.calm = true) (hg : Gl X "len") (hm : X.mg "len" = none) (hg2 : Gl X "set") (hm2 : X.mg "set" = none) (ha : PE X a ta)
    (na : starEach [a] X.env = (false, eval a X.env) :: starEach [] X.env) : PE X (.Call (.Name "len" p) [.Call (.Name "set" p2) [a] [] q] [] pos) (tLenN X.K ta) := by
  refine ⟨fun pins s σ H Q I h => Call_ (ld_blt I hg hm boot_len ?_)⟩
  refine callWith_builtin1 (args_cons ?_ rfl) rfl rfl
  refine Call_ (ld_blt I hg2 hm2 boot_set ?_)
  refine callWith_type1 (args_cons (thn (ha.run pins s σ H _ I h) fun v s1 ⟨x, H1, I1, r1, l, xs, ex, hq, nd, h1, q1⟩ => args_nil ?_) na) na rfl
  subst ex
  cases r1
  obtain ⟨its, r, pl, hz⟩ := I1.tuple hq
  have hl : its.toArray.size = xs.length := by rw [List.size_toArray, ← r.length, List.length_map]
  refine set_tup (I1.ok.hd hc) pl (by simpa using strsAre_of r) nd (by unfold scanBound; omega) fun h' tk hS hk => args_nil ?_
  rw [hl] at hS
  obtain ⟨o, es, ep, t, ho, hex, hd, _, _, _, hf, hn⟩ := hS
  have I2 : L2.Inv X pins σ H1 { s1 with heap := h', toks := tk } := I1.kept fun b o e => hk b o (Heap.lt_size e) e
  exact call_len_set ho hex hd hf (by rw [hn] <;> omega) ⟨.int xs.length, H1, I2.tok _, ⟨_, by rw [hn]⟩, q1⟩
end
end MT
/-! ### an exception leaves a comprehension -/
namespace MT
open PySem PySem.Spec PyProof.Rows L2
/-- the context of a block that lets exceptions out -/
abbrev blkx (X : Cx) (s : Shared) (H : Hp) (scope : Scope) (ce : PySem.Env) (fp : List Addr) : Cx := { X.blk s H scope ce fp with xe := notedBy (model X.prog X.w) X.A ce (CompFails (model X.prog X.w) X.A X.xe ce) }
section
variable {X : Cx} {pins : List (Addr × Obj)} {σ : L2.St} {H H' : Hp} {s s' : Shared} {B : Heap} {W : WX}
theorem funFrames_on {B h h' : Heap} : ∀ {l : List PySem.Env}, h.FunFrames B l → (∀ b ∈ frs l, h'.get? b = h.get? b) → h'.FunFrames B l
  | [], _, _ => trivial
  | env :: l, ⟨hk, ⟨L, o, hf, hb, ho, hd⟩, hr⟩, hn => ⟨hk, ⟨L, o, hf, hb, (hn L (List.mem_filterMap.mpr ⟨env, List.mem_cons_self, hf⟩)).trans ho, hd⟩, funFrames_on hr fun b hb => by
      obtain ⟨e, he, q⟩ := List.mem_filterMap.mp hb
      exact hn b (List.mem_filterMap.mpr ⟨e, List.mem_cons_of_mem _ he, q⟩)⟩
/-- noted already -/
theorem xe_held {a : Addr} {cls : Value} {d : Option Addr} (I : L2.Inv X pins σ H s) (ub : UB (frs X.stack) H H' s.heap B s'.heap) (hd : HandSPX.HeldZ B X.stack a (Zc cls d) X.env.locals s'.heap) (hok : HOk X.prog X.w H' B) (na : H' a = none) (os : s'.os = s.os) (ag : AllBare s'.gens) (w : W cls d σ H') : XE X W (.ref a) s' := by
  obtain ⟨G, g1, g2⟩ := restrict s'.heap fun b => (B.get? b).isSome || decide (b ∈ frs X.stack)
  have st : B.StaysIn s'.heap := hd.1
  have gB : ∀ b o, B.get? b = some o → G.get? b = some o := fun b o e => (g1 b (by simp [e])).trans (st b o e)
  have gF : ∀ b, b ∈ frs X.stack → G.get? b = s'.heap.get? b := fun b hb => g1 b (by simp [hb])
  have og : ∀ b o, G.get? b = some o → s'.heap.get? b = some o ∧ ((B.get? b).isSome = true ∨ b ∈ frs X.stack) := fun b o e => by
    cases q : ((B.get? b).isSome || decide (b ∈ frs X.stack)) with
    | false => rw [g2 b q] at e; cases e
    | true => rw [g1 b q] at e; exact ⟨e, by simpa [Bool.or_eq_true] using q⟩
  refine ⟨a, B, { s with heap := G, gens := s'.gens, drawn := s'.drawn, toks := s'.toks }, pins, σ, H', cls, d, rfl, ?_, fun b o e hb => ?_, Heap.UpToSlots.of_keeps fun b o e => (og b o e).1, .inr (.inr hd), na, os, ag, w⟩
  · refine I.call (ch := []) ⟨fun b o e n hb _ => gB b o (ub.keep b o e n hb), fun b o e n hb _ => ?_, fun b o e n _ => ub.free b o e n, fun b o e _ => ?_, ub.tups, ub.frzs, ub.tbls⟩ (hok.kept gB) ag (fun _ z => nomatch z)
    · obtain ⟨sl, q⟩ := ub.slot b o e hb
      exact ⟨sl, (gF b hb).trans q⟩
    · by_cases hb : b ∈ frs X.stack
      · obtain ⟨sl, q⟩ := ub.slot b o e hb
        exact ⟨_, (gF b hb).trans q⟩
      · obtain ⟨o', q⟩ := ub.there b o e hb
        exact ⟨o', gB b o' q⟩
  · obtain ⟨e', h | h⟩ := og b o e
    · obtain ⟨o', q⟩ := Option.isSome_iff_exists.mp h
      have z := st b o' q
      rw [e'] at z; cases z
      exact q
    · exact absurd h hb
/-- a call in the block let an exception out -/
theorem blk_pass {H3 : Hp} {s3 : Shared} (tk : Takes X W) (hs : X.stack = X.env :: X.outer) (hf : X.env.frame = some X.env.locals) (I3 : L2.Inv X pins σ H3 s3) {fp : List Addr} (f3 : ∀ b ∈ fp, FpOk X pins H3 b ∧ b < s3.heap.objs.size) {scope : Scope} {cl : List (Str × Addr)} (σ' : L2.St) :
    PassesAt (CX X.prog X.w) (blkx X s3 H3 scope (compEnvC scope cl s3.heap.objs.size X.env) fp) σ' (fun cls d H => W cls d σ H) := by
  intro pins' H' s' e s'' I' c
  obtain ⟨a, B, H'', cls, d, rfl, fl, hok, ub, na, os, ag, hE⟩ := c
  have fl : HandSPX.FlyingZ B X.stack a (Zc cls d) s''.heap := fl
  have ub : UB (frs X.stack) H' H'' s'.heap B s''.heap := ub
  have I7 : L2.Inv X pins σ H' s' := I3.call' (ch := fp) I'.os I'.base I'.hok I'.bare fun b hb => ⟨(f3 b hb).1.2.2.2.1, (f3 b hb).1.2.1, (f3 b hb).1.2.2.2.2.1, (f3 b hb).1.2.2.2.2.2⟩
  have nC : H' s3.heap.objs.size = none := I'.free
  obtain ⟨m, hn, _⟩ := I'.loc
  have hn : s'.heap.Ns s3.heap.objs.size m := hn
  obtain ⟨f0, f1, f2, f4, f5, f6⟩ := I3.fpOk (Nat.le_refl s3.heap.objs.size) nC
  generalize hC : s3.heap.objs.size = C at *
  have nF : C ∉ frs X.stack := fun hm => (List.mem_cons.mp (I7.stkSub C hm)).elim f1 f2
  obtain ⟨oC, es, ep, hoC, rC⟩ := hn
  have bC : B.get? C = some oC := ub.keep C oC hoC nC nF
  have nC2 : H'' C = none := ub.free C oC hoC nC
  have hfr : X.A.frames = some (X.env :: X.outer) := by rw [I7.ok.frames, hs]
  show wpAny (model X.prog X.w) X.A (noteFrame (.ref a) X.env) _ _ s''
  refine HandSPX.looks_onZ Zc.steady hfr hf (hs ▸ fl) fun h3 held up => ?_
  rw [← hs] at held
  obtain ⟨st3, hen, fr3, oe, vs, Tb, oT, ts, he, hz, hd, h1, hnT, hTe, hT, hdT, h3f⟩ := held
  refine ⟨m, ⟨oC, es, ep, st3 C oC bC, rC⟩, fun h' m' hn' sb => ?_⟩
  have aC : a ≠ C := fun z => by rw [z, bC] at hen; cases hen
  have tC : Tb ≠ C := fun z => by rw [z, bC] at hnT; cases hnT
  have e' : ∀ b, b ≠ C → h'.get? b = h3.get? b := fun b hb => sb.2 b hb
  obtain ⟨B2, g1, g2⟩ := restrict B fun b => decide (b ≠ C)
  have b2 : ∀ b o, B2.get? b = some o → b ≠ C ∧ B.get? b = some o := fun b o q => by
    by_cases z : b = C
    · rw [g2 b (by simp [z])] at q; cases q
    · exact ⟨z, by rw [← g1 b (by simp [z])]; exact q⟩
  have to2 : ∀ b o, b ≠ C → B.get? b = some o → B2.get? b = some o := fun b o z q => (g1 b (by simp [z])).trans q
  have none2 : ∀ b, B.get? b = none → B2.get? b = none := fun b q => by
    cases r : B2.get? b with
    | none => rfl
    | some o => rw [(b2 b o r).2] at q; cases q
  have held2 : HandSPX.HeldZ B2 X.stack a (Zc cls d) X.env.locals h' := by
    refine ⟨fun b o q => by rw [e' b (b2 b o q).1]; exact st3 b o (b2 b o q).2, none2 a hen, ?_, oe, vs, Tb, oT, ts, by rw [e' a aC]; exact he, hz, hd, h1, none2 Tb hnT, hTe, by rw [e' Tb tC]; exact hT, hdT, h3f⟩
    have fr4 : h3.FunFrames B2 X.stack := funFrames_none fr3 fun b hb => none2 b (fr3.mem hb).1
    exact funFrames_on fr4 fun b hb => e' b fun z => nF (z ▸ hb)
  unfold PySem.passOn
  refine wpAny_bind (wpAny_field (by rw [e' a aC]; exact he) hd h1 ?_)
  rw [if_neg (by simp)]
  have cf : (compEnvC scope cl C X.env).frame = some X.env.locals := hf
  rw [cf]
  refine wpAny_bind (HandSPX.setFlight_onZ (L := X.env.locals) held2 fun h'' held'' up'' => ?_)
  refine wpAny_throw (tk _ _ ?_)
  obtain ⟨G, k1, k2⟩ := restrict s'.heap fun b => decide (b ≠ C)
  have kG : ∀ b o, G.get? b = some o → b ≠ C ∧ s'.heap.get? b = some o := fun b o q => by
    by_cases z : b = C
    · rw [k2 b (by simp [z])] at q; cases q
    · exact ⟨z, by rw [← k1 b (by simp [z])]; exact q⟩
  have I8 : L2.Inv X pins σ H' { s' with heap := G, toks := s'.toks } := I7.turned (it := C) (fun b o hb q => (k1 b (by simp [hb])).trans q) f0 f1 f4 f5 f6
  refine xe_held (H' := H'') (B := B2) I8 ⟨fun b o q n hb => ?_, fun b o q hb => ?_, fun b o q n => ?_, fun b o q hb => ?_, ub.tups, ub.frzs, ub.tbls⟩ held'' (fun b o q => ?_) na os ag hE
  · exact to2 b o (kG b o q).1 (ub.keep b o (kG b o q).2 n hb)
  · obtain ⟨sl, r⟩ := ub.slot b o (kG b o q).2 hb
    obtain ⟨_, o2, r2, nd⟩ := fl.2.2.1.mem hb
    rw [r] at r2
    cases r2
    obtain ⟨sl3, r3⟩ := up b _ r nd
    obtain ⟨sl4, r4⟩ := up'' b _ ((e' b (kG b o q).1).trans r3) nd
    exact ⟨sl4, r4⟩
  · exact ub.free b o (kG b o q).2 n
  · obtain ⟨o', r⟩ := ub.there b o (kG b o q).2 hb
    exact ⟨o', to2 b o' (kG b o q).1 r⟩
  · refine (hok b o q).stay (fun c u hc r => to2 c u (fun z => ?_) r) (fun _ r => r) fun _ _ r => r
    rcases hc with hc | hc
    · rw [← hc, z, nC2] at q; cases q
    · rw [z, nC2] at hc; cases hc
theorem inv_xe {E : Value → Shared → Prop} (I : L2.Inv X pins σ H s) : L2.Inv { X with xe := E } pins σ H s := by
  obtain ⟨⟨o1, o2, o3, o4, o5, o6, o7, o8, o9, o10, o11, o12, o13, o14, o15, o16, o17, o18⟩, i2, i3, i4, i5, i6, i7, i8, i9, i10, i11⟩ := I
  exact ⟨⟨o1, o2, o3, o4, o5, o6, o7, o8, o9, o10, o11, o12, o13, o14, o15, o16, o17, o18⟩, i2, i3, i4, i5, i6, i7, i8, i9, i10, i11⟩
/-- [elt for tg in iter if ..]: exceptions pass -/
theorem pe_lcx {elt tg iter : Expr} {ifs : List Expr} {scope : Scope} {own : List (Str × Nat)} {pos : Pos} {wi : TI} {g : TG} {tt : L2.St → TT} {te : L2.St → TE} (hc : X.calm = true) (hN : X.N.Nodup) (hi : PI X tg iter wi) (ok : BlkOk X.N X.env.scope scope own)
    (hg : ∀ (s : Shared) (H : Hp) (Ca : Addr) (cl : List (Str × Addr)) (fp : List Addr), PG (blkx X s H scope (compEnvC scope cl Ca X.env) fp) tg g)
    (ht : ∀ (pins : List (Addr × Obj)) (σ : L2.St) (s : Shared) (H : Hp) (cl : List (Str × Addr)) (fp : List Addr), L2.Inv X pins σ H s → (∀ b ∈ fp, FpOk X pins H b ∧ b < s.heap.objs.size) → PTs (blkx X s H scope (compEnvC scope cl s.heap.objs.size X.env) fp) ifs (tt σ))
    (he : ∀ (pins : List (Addr × Obj)) (σ : L2.St) (s : Shared) (H : Hp) (cl : List (Str × Addr)) (fp : List Addr), L2.Inv X pins σ H s → (∀ b ∈ fp, FpOk X pins H b ∧ b < s.heap.objs.size) → PE (blkx X s H scope (compEnvC scope cl s.heap.objs.size X.env) fp) elt (te σ))
    (hs : ∀ x, foldedSetIterable iter X.env x = pure x) : PE X (.ListComp elt [⟨tg, iter, ifs, 0⟩] scope pos) (fun σ H Q => tLc wi g (tt σ) (te σ) (own.map (·.2)) σ H Q) := by
  refine ⟨fun pins s σ H Q I h => ?_⟩
  rw [eval_ListComp]
  have hfree : ∀ y ∈ scope.names, y.2 = .free → ∃ c, X.env.cells.lookup y.1 = some c := fun y hy e => (ok.free y hy e).elim (fun k => I.ok.has _ (.inl k)) fun k => I.ok.has _ (.inr k)
  refine comprehension_at (use := none) rfl hs (closure_ok hfree) ok.kind (fun y hy e => by rw [ok.uniq y hy, e]) (thn (hi.run pins s σ H _ I h) fun xv s1 hx => thn hx fun itv s2 ⟨it, fp, tn, J, H2, e, I2, T, st2, f2, q⟩ => ?_)
  subst e
  refine wpAny_newObj_type (newEnv_comp ?_) (by show 0 ≤ sizeLine; decide)
  generalize hD : s2.heap.objs.size = D
  have hDn : H2 D = none := I2.hok.fresh (Nat.le_of_eq hD)
  obtain ⟨W, ⟨m0, w0⟩, turn⟩ := q D hDn
  generalize hs3 : ({ s2 with heap := s2.heap.push { cls := .type "list", data := .seq ([] : List Value).toArray } } : Shared) = s3
  have I3 : L2.Inv X pins σ (upd H2 D (.lst [])) s3 := by
    rw [← hs3]
    refine I2.laid (t' := s2.toks) (fun b o e => Heap.get?_push_of_some _ e) (Nat.le_of_eq hD) ⟨Nat.zero_le _, [], 0, .nil, ?_⟩
    rw [← hD]
    exact Heap.get?_push_size _ rfl
  have h3 : s3.heap = s2.heap.push { cls := .type "list", data := .seq ([] : List Value).toArray } := by rw [← hs3]
  have szf : ∀ b ∈ fp, b < s2.heap.objs.size := fun b hb => (T.obj _ _ st2 b hb).elim fun o e => Heap.lt_size e.1
  have f3 : ∀ b ∈ fp, FpOk X pins (upd H2 D (.lst [])) b ∧ b < s3.heap.objs.size := fun b hb => by
    have hlt := szf b hb
    refine ⟨⟨?_, (f2 b hb).2⟩, by rw [h3, Heap.size_push]; exact Nat.lt_succ_of_lt hlt⟩
    rw [upd_ne (by rw [← hD]; exact Nat.ne_of_lt hlt)]
    exact (f2 b hb).1
  have st3 : tn 0 s3.heap := T.keep _ _ _ st2 fun b _ o e => by rw [h3]; exact Heap.get?_push_of_some _ e
  generalize hcl : cellsFrom (s3.heap.objs.size + 1) scope.names (cloFrom X.env.cells scope.names []) = clo
  have I4 : L2.Inv (blkx X s3 (upd H2 D (.lst [])) scope (compEnvC scope clo s3.heap.objs.size X.env) fp) [] (wipe σ (own.map (·.2))) (upd H2 D (.lst [])) { s3 with heap := pushCells (s3.heap.push { cls := .type "dict", data := .dict #[] }) scope.names } := by
    have := block_start I3 ok hN f3
    rw [hcl] at this
    exact inv_xe this
  have pg := hg s3 (upd H2 D (.lst [])) s3.heap.objs.size clo fp
  have pt := ht pins σ s3 (upd H2 D (.lst [])) clo fp I3 f3
  have pe := he pins σ s3 (upd H2 D (.lst [])) clo fp I3 f3
  show codeAny _ _ (.compStart (.ListComp elt [⟨tg, iter, ifs, 0⟩] scope pos) 0 (.ref it) (.ref D) (compEnvC scope clo s3.heap.objs.size X.env)) (compEnds (model X.prog X.w) X.A X.xe none _ (.ref D) (compEnvC scope clo s3.heap.objs.size X.env)) { s3 with heap := pushCells (s3.heap.push { cls := .type "dict", data := .dict #[] }) scope.names }
  have nfp : ∀ b ∈ fp, (upd H2 D (.lst [])) b = none := fun b hb => (f3 b hb).1.1
  have cL : (compEnvC scope clo s3.heap.objs.size X.env).locals = s3.heap.objs.size := rfl
  generalize hce : compEnvC scope clo s3.heap.objs.size X.env = ce at I4 pg pt pe cL ⊢
  generalize hH3 : upd H2 D (.lst []) = H3 at I3 I4 pg pt pe w0 nfp f3
  generalize hs4 : ({ s3 with heap := pushCells (s3.heap.push { cls := .type "dict", data := .dict #[] }) scope.names } : Shared) = s4 at I4 ⊢
  have st4 : tn 0 s4.heap := T.keep _ _ _ st3 fun b _ o e => by rw [← hs4]; exact pushCells_keeps _ _ _ _ (Heap.get?_push_of_some _ e)
  have stat : ∀ {σ' : L2.St} {H' : Hp} {s' : Shared}, L2.Inv (blkx X s3 H3 scope ce fp) [] σ' H' s' → (∀ b ∈ fp, H' b = none) → ∀ b ∈ fp, FpOk (blkx X s3 H3 scope ce fp) [] H' b := fun {σ' H' s'} I' hn b hb =>
    ⟨hn b hb, (I'.ok.exf b hb).1, I'.ok.exfs b hb, .inl hb, fun x c e => (I'.ok.exf b hb).2 x c e, fun p hp => absurd (show p ∈ ([] : List (Addr × Obj)) ++ [] from hp) (by simp)⟩
  have loop : codeAny (model X.prog X.w) X.A (.compLoop (.ListComp elt [⟨tg, iter, ifs, 0⟩] scope pos) 0 (.ref it) (.ref D) ce) (compEnds (model X.prog X.w) X.A X.xe none (EP X pins σ Q) (.ref D) ce) s4 := by
    refine compLoop_any (fun n s' => ∃ i H', L2.Inv (blkx X s3 H3 scope ce fp) [] (wipe σ (own.map (·.2))) H' s' ∧ tn i s'.heap ∧ (∀ b ∈ fp, H' b = none) ∧ W i n H') ?_ m0 ⟨0, H3, I4, st4, nfp, w0⟩
    rintro n s5 ⟨i, H5, I5, st5, n5, w5⟩
    rcases turn i n H5 w5 with ⟨stop, qq⟩ | ⟨go, Nx, hNx, step⟩
    · have td := T.done (blkx X s3 H3 scope ce fp) rfl rfl rfl hc i [] s5 _ H5 (fun _ _ => False) I5 (stat I5 n5) st5 stop
      refine thnF td fun r s6 ⟨hr, I6⟩ => ?_
      subst hr
      have I7 : L2.Inv X pins σ H5 s6 := I3.call' (ch := fp) I6.os I6.base I6.hok I6.bare fun b hb => ⟨(f3 b hb).1.2.2.2.1, (f3 b hb).1.2.1, (f3 b hb).1.2.2.2.2.1, (f3 b hb).1.2.2.2.2.2⟩
      have nC : H5 s3.heap.objs.size = none := by rw [← cL]; exact I6.free
      obtain ⟨m, hn, _⟩ := I6.loc
      obtain ⟨k0, k1, k2, k3, k4, k5⟩ := I3.fpOk (Nat.le_refl _) nC
      refine ⟨m, hn, fun h'' sb => ⟨.ref D, H5, I7.turned (it := s3.heap.objs.size) (t' := s6.toks) (fun b o hb e => (sb.2 b (by rw [cL]; exact hb)).trans e) k0 k1 k3 k4 k5, rfl, qq⟩⟩
    · have ti := T.item (blkx X s3 H3 scope ce fp) rfl rfl rfl hc i [] s5 _ H5 (fun _ _ => False) I5 (stat I5 n5) st5 go
      refine thnF ti fun r s6 ⟨u, hr, h6⟩ => ?_
      subst hr
      refine thnF h6 fun _ s7 ⟨x, H7, I7, r7, y7, st7, n7⟩ => ?_
      have I7' := I7.pinned (stat I7 n7) (T.obj _ _ st7)
      refine thn (pg.run _ s7 _ H7 x u _ I7' r7 (step x H7 y7)) fun _ s8 ⟨σ8, H8, I8, hw8, q8⟩ => ?_
      refine thn (pt.run _ s8 σ8 H8 _ I8 q8) fun b s9 ⟨H9, I9, q9⟩ => ?_
      have fin : ∀ {s' : Shared} {H' : Hp}, L2.Inv (blkx X s3 H3 scope ce fp) ([] ++ pinsAt fp s7.heap) σ8 H' s' → Nx H' → ∃ m, m < n ∧ ∃ i H', L2.Inv (blkx X s3 H3 scope ce fp) [] (wipe σ (own.map (·.2))) H' s' ∧ tn i s'.heap ∧ (∀ b ∈ fp, H' b = none) ∧ W i m H' := fun {s' H'} I' nx => by
        obtain ⟨m', hm, w'⟩ := hNx H' nx
        have pin' : ∀ b ∈ fp, ∀ o, s7.heap.get? b = some o → s'.heap.get? b = some o ∧ H' b = none := fun b hb o e =>
          let z := I'.pin (b, o) (List.mem_append_right _ (List.mem_append_right _ (mem_pinsAt hb e)))
          ⟨z.1, z.2.1⟩
        have hl : (wipe σ (own.map (·.2))).length = σ8.length := by rw [← hw8, wipe_length]
        refine ⟨m', hm, i + 1, H', (I'.unpinned (pins := [])).weak hl (fun j v e => ?_), T.keep _ _ _ st7 fun b hb o e => (pin' b hb o e).1, fun b hb => ?_, w'⟩
        · rw [← hw8] at e
          exact (wipe_some e).1
        · obtain ⟨o, e, _⟩ := T.obj _ _ st7 b hb
          exact (pin' b hb o e).2
      cases b with
      | false =>
        simp only [Bool.false_eq_true, if_false] at q9 ⊢
        exact fin I9 q9
      | true =>
        simp only [if_true] at q9 ⊢
        refine thn (pe.run _ s9 σ8 H9 _ I9 q9) fun z s10 ⟨yv, H10, I10, r10, acc, hD10, hz10, nx⟩ => ?_
        exact app_ok (X := blkx X s3 H3 scope ce fp) I10 hD10 hz10 r10 fun s11 I11 => fin I11 nx
  exact codeAny_compStart_list loop (T.self X.A 0 _ _ _ st4 loop)
end
end MT
namespace MT
open PySem L2

/-! ### the text and the IR: a look that can be reckoned -/
/-- the one class of exceptions that may be raised, the class that is caught, and what isinstance tells -/
structure XInfo where
  on : Bool := false
  cls : Str := ""
  ctch : Str := ""
  asks : List (Str × Bool) := []
  /-- tables of the top: texts by texts -/
  tabs : List (Str × List (List Nat × List Nat)) := []
structure SC where
  N : List Str
  sc : Scope
  fns : List (Str × Nat)
  gcs : List (Str × D)
  free : List Str
  /-- within a comprehension -/
  blk : Bool := false
  xi : XInfo := {}
def vis (sc : Scope) (x : Str) : Bool := match sc.names.lookup x with
  | some .local | some .cell | some .free => true
  | _ => false
def lcl (sc : Scope) (x : Str) : Bool := match sc.names.lookup x with
  | some .local | some .cell => true
  | _ => false
def glb (sc : Scope) (x : Str) : Bool := match sc.names.lookup x with
  | some .globalImplicit => true
  | _ => false
def plainNm (x : Str) : Bool := !(x == ("__debug__" : Str)) && !(x == ("__classdict__" : Str)) && !(x == ("__name__" : Str))
def isSetX : Expr → Bool
  | .Set .. => true
  | _ => false
def isStarX : Expr → Bool
  | .Starred .. => true
  | _ => false
def isSliceX : Expr → Bool
  | .Slice .. => true
  | _ => false
def isCall0X : Expr → Bool
  | .Call (.Name _ _) [] [] _ => true
  | _ => false
def isCompX : Expr → Bool
  | .ListComp .. | .SetComp .. | .DictComp .. => true
  | _ => false
def isTupX : Expr → Bool
  | .Tuple .. => true
  | _ => false
/-- its test is its value's truth -/
def plainTestX : Expr → Bool
  | .UnaryOp .Not _ _ | .BoolOp .. | .IfExp .. | .Compare .. => false
  | _ => true
def bltn (C : SC) (x : Str) : Bool := C.free.contains x && glb C.sc x && plainNm x
/-- a constant -/
def chkC (C : SC) : D → Expr → Bool
  | .non, .Constant .none _ _ => true
  | .bl b, .Constant (.bool c) _ _ => b == c
  | .int i, .Constant (.int j) _ _ => i == j
  | .str s, .Constant (.str x) _ _ => x.cps.toList == s
  | .str s, .Name x _ => glb C.sc x && plainNm x && (match C.gcs.lookup x with | some (.str t) => t == s | _ => false)
  | _, _ => false
/-- built-in functions of one or two arguments -/
def prFn : Pr → Option (Str × Value)
  | .len => some ("len", .builtin "len")
  | .tuple => some ("tuple", .type "tuple")
  | .list => some ("list", .type "list")
  | .str => some ("str", .type "str")
  | .int => some ("int", .type "int")
  | .all => some ("all", .builtin "all")
  | .any => some ("any", .builtin "any")
  | .sum => some ("sum", .builtin "sum")
  | .abs => some ("abs", .builtin "abs")
  | .min2 => some ("min", .builtin "min")
  | .max2 => some ("max", .builtin "max")
  | _ => none
def prMt : Pr → Option (Str × String)
  | .join => some ("join", "str.join")
  | .lower => some ("lower", "str.lower")
  | .split0 => some ("split", "str.split")
  | .split1 => some ("split", "str.split")
  | .upper => some ("upper", "str.upper")
  | .partition => some ("partition", "str.partition")
  | .find2 => some ("find", "str.find")
  | .sindex => some ("index", "str.index")
  | .starts => some ("startswith", "str.startswith")
  | .strip1 => some ("strip", "str.strip")
  | _ => none
def prKw : Pr → Option (Str × String)
  | .minD => some ("min", "min")
  | .maxD => some ("max", "max")
  | _ => none
/-- the classes that isinstance is asked about -/
def isTn : Expr → Option String
  | .Name x _ => if x == ("bool" : Str) then some "bool" else if x == ("int" : Str) then some "int" else if x == ("str" : Str) then some "str" else if x == ("tuple" : Str) then some "tuple" else if x == ("list" : Str) then some "list" else none
  | _ => none
def nameX : Expr → Str
  | .Name x _ => x
  | _ => ""
def tyFl (n : String) : Bool × Bool × Bool × Bool × Bool := (n == "bool", n == "int", n == "str", n == "tuple", n == "list")
def chkTy (C : SC) (p : Pr) (t : Expr) : Bool := match p with
  | .isT b i s tu l => (match t with
    | .Tuple [x, y] _ _ => (match isTn x, isTn y with
      | some m, some n => bltn C (nameX x) && bltn C (nameX y) && m == "int" && n == "str" && !b && i && s && !tu && !l
      | _, _ => false)
    | t => (match isTn t with
      | some n => bltn C (nameX t) && decide ((b, i, s, tu, l) = tyFl n)
      | none => false))
  | _ => false
mutual
def chkTg (C : SC) : Tg → Expr → Bool
  | .nm i, .Name x _ => decide (C.N[i]? = some x) && (if C.blk = true then decide (C.sc.names.lookup x = some .local) else lcl C.sc x)
  | .tp ts, .Tuple es _ _ => chkTgs C ts es
  | _, _ => false
def chkTgs (C : SC) : List Tg → List Expr → Bool
  | [], [] => true
  | t :: ts, e :: es => !isStarX e && chkTg C t e && chkTgs C ts es
  | _, _ => false
end
/-- no conditional expression stands where a test is asked -/
def noIfe : E → Bool
  | .and a b => noIfe a && noIfe b
  | .or a b => noIfe a && noIfe b
  | .not a => noIfe a
  | .ife _ _ _ => false
  | _ => true
def ownOf (C : SC) (t : Tg) : List (Str × Nat) := t.slots.map fun i => (C.N.getD i "", i)
mutual
def chkE (C : SC) : E → Expr → Bool
  | .c d, x => chkC C d x
  | .v i, x => (match x with
    | .Name y _ => decide (C.N[i]? = some y) && vis C.sc y && plainNm y
    | _ => false)
  | .bin o a b, x => (match x with
    | .BinOp l op r _ => decide (op = opOf o) && chkE C a l && chkE C b r
    | _ => false)
  | .cmp o a b, x => (match x with
    | .Compare l [op] [r] _ => decide (op = cmpOf o) && !isSetX r && chkE C a l && chkE C b r
    | _ => false)
  | .chain o o' a b c, x => (match x with
    | .Compare l [op, op'] [m, r] _ => decide (op = cmpOf o) && decide (op' = cmpOf o') && !isSetX r && chkE C a l && chkE C b m && chkE C c r
    | _ => false)
  | .and a b, x => (match x with
    | .BoolOp .And [l, r] _ => chkE C a l && chkE C b r
    | .BoolOp .And (l :: m :: r) p => chkE C a l && chkE C b (.BoolOp .And (m :: r) p)
    | _ => false)
  | .or a b, x => (match x with
    | .BoolOp .Or [l, r] _ => chkE C a l && chkE C b r
    | .BoolOp .Or (l :: m :: r) p => chkE C a l && chkE C b (.BoolOp .Or (m :: r) p)
    | _ => false)
  | .not a, x => (match x with
    | .UnaryOp .Not l _ => chkE C a l
    | _ => false)
  | .neg a, x => (match x with
    | .UnaryOp .USub l _ => chkE C a l
    | _ => false)
  | .ife t a b, x => (match x with
    | .IfExp c l r _ => noIfe t && chkE C t c && chkE C a l && chkE C b r
    | _ => false)
  | .tup es, x => (match x with
    | .Tuple xs _ _ => chkEs C es xs && decide (xs.length ≤ 1000)
    | _ => false)
  | .lst es, x => (match x with
    | .List xs _ => chkEs C es xs && decide (xs.length ≤ 1000)
    | _ => false)
  | .idx a i, x => (match x with
    | .Subscript l r _ => !isSliceX r && chkE C a l && chkE C i r
    | _ => false)
  | .slLo a lo, x => (match x with
    | .Subscript l (.Slice (some y) none none _) _ => chkE C a l && chkE C lo y
    | _ => false)
  | .slHi a hi, x => (match x with
    | .Subscript l (.Slice none (some y) none _) _ => chkE C a l && chkE C hi y
    | _ => false)
  | .slLH a lo hi, x => (match x with
    | .Subscript l (.Slice (some y) (some z) none _) _ => chkE C a l && chkE C lo y && chkE C hi z
    | _ => false)
  | .rev a, x => (match x with
    | .Subscript l (.Slice none none (some (.UnaryOp .USub (.Constant (.int n) _ _) _)) _) _ => decide (n = 1) && chkE C a l
    | _ => false)
  | .call f es, x => (match x with
    | .Call (.Name n _) xs [] _ => glb C.sc n && plainNm n && decide (C.fns.lookup n = some f) && chkEs C es xs
    | _ => false)
  | .pr p es, x => (match x with
    | .Call (.Name n _) xs [] _ => (match prFn p with
      | some (m, _) => decide (n = m) && bltn C n && !es.isEmpty && chkEs C es xs
      | none => (match p, es, xs with
        | .isT b i s t l, [e], [y, ty] => decide (n = "isinstance") && bltn C n && !isStarX y && chkE C e y && chkTy C (.isT b i s t l) ty
        | .lenset, [e], [.Call (.Name m _) [y] [] _] => decide (n = "len") && bltn C n && decide (m = "set") && bltn C m && !isStarX y && chkE C e y
        | _, _, _ => false))
    | .Call (.Name n _) [y] [⟨some k, z, _⟩] _ => (match prKw p, es with
      | some (m, _), [e, f] => decide (n = m) && bltn C n && decide (k = "default") && !isStarX y && chkE C e y && chkE C f z
      | _, _ => false)
    | _ => false)
  | .me p e es, x => (match x with
    | .Call (.Attribute o nm ap) xs [] cp => (match prMt p with
      | some (m, _) => decide (nm = m) && !isCall0X o && (ap.endLine == cp.line) && decide (xs.length < 25) && chkE C e o && chkEs C es xs
      | none => false)
    | _ => false)
  | .lc t k es cond el, x => (match x with
    | .ListComp y [⟨tg, it, ifs, a⟩] scope _ => decide (a = 0) && chkTg { C with sc := relS scope C.sc, blk := true } t tg && blkC C.N C.sc scope (ownOf C t) && decide (t.slots.Nodup) && !isSetX it
        && (match k, es, it with
          | .seq, [e], z => chkE C e z
          | .rng1, [e], .Call (.Name n _) [z] [] _ => decide (n = "range") && bltn C n && !isStarX z && chkE C e z
          | .rng2, [e, f], .Call (.Name n _) [z, z2] [] _ => decide (n = "range") && bltn C n && !isStarX z && !isStarX z2 && chkE C e z && chkE C f z2
          | .enum, [e], .Call (.Name n _) [z] [] _ => isTupX tg && decide (n = "enumerate") && bltn C n && !isStarX z && chkE C e z
          | .rrng1, [e], .Call (.Name r _) [.Call (.Name n _) [z] [] _] [] _ => decide (r = "reversed") && bltn C r && decide (n = "range") && bltn C n && !isStarX z && chkE C e z
          | .zip, [e, f], .Call (.Name n _) [z, z2] [] _ => isTupX tg && decide (n = "zip") && bltn C n && !isStarX z && !isStarX z2 && chkE C e z && chkE C f z2
          | _, _, _ => false)
        && (match cond, ifs with
          | [], [] => true
          | [c], [z] => noIfe c && chkE { C with sc := relS scope C.sc, blk := true } c z
          | _, _ => false)
        && chkE { C with sc := relS scope C.sc, blk := true } el y
    | _ => false)
  | .lcx t k es cond el, x => (match x with
    | .ListComp y [⟨tg, it, ifs, a⟩] scope _ => !C.blk && decide (a = 0) && chkTg { C with sc := relS scope C.sc, blk := true } t tg && blkC C.N C.sc scope (ownOf C t) && decide (t.slots.Nodup) && !isSetX it
        && (match k, es, it with
          | .seq, [e], z => chkE C e z
          | .rng1, [e], .Call (.Name n _) [z] [] _ => decide (n = "range") && bltn C n && !isStarX z && chkE C e z
          | .rng2, [e, f], .Call (.Name n _) [z, z2] [] _ => decide (n = "range") && bltn C n && !isStarX z && !isStarX z2 && chkE C e z && chkE C f z2
          | .enum, [e], .Call (.Name n _) [z] [] _ => isTupX tg && decide (n = "enumerate") && bltn C n && !isStarX z && chkE C e z
          | .rrng1, [e], .Call (.Name r _) [.Call (.Name n _) [z] [] _] [] _ => decide (r = "reversed") && bltn C r && decide (n = "range") && bltn C n && !isStarX z && chkE C e z
          | .zip, [e, f], .Call (.Name n _) [z, z2] [] _ => isTupX tg && decide (n = "zip") && bltn C n && !isStarX z && !isStarX z2 && chkE C e z && chkE C f z2
          | _, _, _ => false)
        && (match cond, ifs with
          | [], [] => true
          | [c], [z] => noIfe c && chkE { C with sc := relS scope C.sc, blk := true } c z
          | _, _ => false)
        && chkE { C with sc := relS scope C.sc, blk := true } el y
    | _ => false)
  | .gd kvs k, x => (match x with
    | .Subscript (.Name n _) r _ => glb C.sc n && plainNm n && decide (C.xi.tabs.lookup n = some kvs) && !isSliceX r && chkE C k r
    | _ => false)
  | .dgt i es, x => (match x with
    | .Subscript (.Name y _) (.Tuple xs _ _) _ => decide (C.N[i]? = some y) && vis C.sc y && plainNm y && chkEs C es xs && decide (xs.length = 2)
    | _ => false)
def chkEs (C : SC) : List E → List Expr → Bool
  | [], [] => true
  | e :: es, x :: xs => !isStarX x && chkE C e x && chkEs C es xs
  | _, _ => false
end

/-- the look at an iterable -/
def chkI (C : SC) (tg : Expr) (ik : IK) (es : List E) (it : Expr) : Bool := match ik, es, it with
  | .seq, [e], z => chkE C e z
  | .rng1, [e], .Call (.Name n _) [z] [] _ => decide (n = "range") && bltn C n && !isStarX z && chkE C e z
  | .rng2, [e, f], .Call (.Name n _) [z, z2] [] _ => decide (n = "range") && bltn C n && !isStarX z && !isStarX z2 && chkE C e z && chkE C f z2
  | .enum, [e], .Call (.Name n _) [z] [] _ => isTupX tg && decide (n = "enumerate") && bltn C n && !isStarX z && chkE C e z
  | .rrng1, [e], .Call (.Name r _) [.Call (.Name n _) [z] [] _] [] _ => decide (r = "reversed") && bltn C r && decide (n = "range") && bltn C n && !isStarX z && chkE C e z
  | .zip, [e, f], .Call (.Name n _) [z, z2] [] _ => isTupX tg && decide (n = "zip") && bltn C n && !isStarX z && !isStarX z2 && chkE C e z && chkE C f z2
  | _, _, _ => false
theorem chkI_eq (C : SC) (tg : Expr) (ik : IK) (es : List E) (it : Expr) : (match ik, es, it with
          | .seq, [e], z => chkE C e z
          | .rng1, [e], .Call (.Name n _) [z] [] _ => decide (n = "range") && bltn C n && !isStarX z && chkE C e z
          | .rng2, [e, f], .Call (.Name n _) [z, z2] [] _ => decide (n = "range") && bltn C n && !isStarX z && !isStarX z2 && chkE C e z && chkE C f z2
          | .enum, [e], .Call (.Name n _) [z] [] _ => isTupX tg && decide (n = "enumerate") && bltn C n && !isStarX z && chkE C e z
          | .rrng1, [e], .Call (.Name r _) [.Call (.Name n _) [z] [] _] [] _ => decide (r = "reversed") && bltn C r && decide (n = "range") && bltn C n && !isStarX z && chkE C e z
          | .zip, [e, f], .Call (.Name n _) [z, z2] [] _ => isTupX tg && decide (n = "zip") && bltn C n && !isStarX z && !isStarX z2 && chkE C e z && chkE C f z2
          | _, _, _ => false) = chkI C tg ik es it := rfl
/-- the look at a comprehension's tests -/
def chkCond (C : SC) (cond : List E) (ifs : List Expr) : Bool := match cond, ifs with
  | [], [] => true
  | [c], [z] => noIfe c && chkE C c z
  | _, _ => false
theorem chkCond_eq (C : SC) (cond : List E) (ifs : List Expr) : (match cond, ifs with
          | [], [] => true
          | [c], [z] => noIfe c && chkE C c z
          | _, _ => false) = chkCond C cond ifs := rfl

/-- v.replace(..).replace(..) of written texts -/
def rplC (C : SC) (i : Nat) : List (List Nat × List Nat) → Expr → Bool
  | [], x => (match x with
    | .Name y _ => decide (C.N[i]? = some y) && vis C.sc y && plainNm y
    | _ => false)
  | (y, z) :: r, x => (match x with
    | .Call (.Attribute o nm ap) [.Constant (.str a) _ _, .Constant (.str b) _ _] [] cp => decide (nm = "replace") && decide (a.cps.toList = y) && decide (b.cps.toList = z) && !(a == b) && decide (1 ≤ a.length) && (ap.endLine == cp.line) && !isCall0X o && rplC C i r o
    | _ => false)
def rplB (C : SC) (ss : List S) (xs : List Stmt) : Bool := match ss, xs with
  | [.rpl i cts], [.Return (some e) _] => !cts.isEmpty && rplC C i cts e
  | _, _ => false
/-! ### statements -/
def isDocX : Stmt → Bool
  | .Expr (.Constant (.str _) _ _) _ => true
  | _ => false
def isLcx : E → Bool
  | .lcx .. => true
  | _ => false
def isLstE : E → Bool
  | .lst _ => true
  | .bin .add _ _ => true
  | _ => false
/-- does the store of a comprehension come before its frame's end? -/
def swB (sc scope : Scope) (y : Str) (py pos : Pos) : Bool := (if sc.kind.isAnnotationScope then ScopeKind.function else sc.kind) == .function && sc.names.lookup y == some .local && py.line == pos.line && !(scope.names.any fun (n, k) => n == y && (k == .local || k == .cell))
def nmOk (C : SC) (i : Nat) (x : Str) : Bool := decide (C.N[i]? = some x) && lcl C.sc x
/-- plain locals on one line, stored from the right -/
def parC (C : SC) : List Nat → List Expr → List Expr → Bool
  | [i, j], [.Name x px, .Name y py], [a, b] => nmOk C i x && nmOk C j y && decide (C.sc.names.lookup x = some .local) && decide (C.sc.names.lookup y = some .local) && decide (i ≠ j) && (px.line == py.line) && !(x == y) && !([a, b].all (foldedForSure 8)) && !([a, b].all (constantsAlone 8))
  | [i, j, l], [.Name x px, .Name y py, .Name z pz], [a, b, c] => nmOk C i x && nmOk C j y && nmOk C l z && decide (C.sc.names.lookup x = some .local) && decide (C.sc.names.lookup y = some .local) && decide (C.sc.names.lookup z = some .local) && decide (i ≠ j) && decide (i ≠ l) && decide (j ≠ l)
      && (px.line == py.line) && (px.line == pz.line) && !(x == y) && !(x == z) && !(y == z) && !([a, b, c].all (foldedForSure 8)) && !([a, b, c].all (constantsAlone 8))
  | _, _, _ => false
/-- two names, one of which is no plain local: their stores are not swapped -/
def cellT (sc : Scope) : List Expr → Bool
  | [.Name x _, .Name y _] => !decide (sc.names.lookup x = some .local) || !decide (sc.names.lookup y = some .local)
  | _ => false
def tgtC (sc : Scope) (ts : List Expr) (e : Expr) : Bool := match e with
  | .Tuple vs _ _ => vs.all (foldedForSure 8) || cellT sc ts
  | e => !isCompX e
/-- isinstance(e, X), or a text -/
def chkXI (C : SC) (n : Str) : XI → Expr → Bool
  | .c s, .Constant (.str x) _ _ => x.cps.toList == s
  | .b v, .Call (.Name f _) [.Name y _, .Name z _] [] _ => decide (f = "isinstance") && bltn C f && decide (y = n) && plainNm y && (glb C.sc z && plainNm z && decide ((z, v) ∈ C.xi.asks))
  | _, _ => false
def chkXIs (C : SC) (n : Str) : List XI → List Expr → Bool
  | [], [] => true
  | i :: is, e :: es => chkXI C n i e && chkXIs C n is es
  | _, _ => false
def XS.nj (i : Nat) : XS → Bool
  | .asg j _ => decide (i ≠ j)
  | .ret _ _ => true
def chkXS (C : SC) (i : Nat) (n : Str) : XS → Stmt → Bool
  | .asg j its, .Assign [.Name y _] (.Tuple es _ _) _ => nmOk C j y && chkXIs C n its es && decide (es.length ≤ 1000)
  | .ret u v, .Return (some (.BoolOp .And [a, b] _)) _ => chkXI C n (.b u) a && chkXI C n (.b v) b
  | _, _ => false
def grpC (C : SC) (i r v : Nat) : List Stmt → Bool
  | [.Assign [.Name y _] (.List [.List [] _] _) _, .For tg it [.If c [.Expr (.Call (.Attribute (.Name y2 p2) n1 a1) [.List [] _] [] c1) _] [.Expr (.Call (.Attribute (.Subscript (.Name y3 p3) ix _) n2 a2) [.Name w p4] [] c2) _] _] [] _, .Return (some (.Name y4 p5)) _] =>
      nmOk C i y && chkTg C (.nm v) tg && chkE C (.v r) it && !isSetX it && chkE C (.cmp .eq (.v v) (.c (.str []))) c && chkE C (.v i) (.Name y2 p2) && chkE C (.v i) (.Name y3 p3) && chkE C (.v i) (.Name y4 p5) && chkE C (.v v) (.Name w p4)
        && chkE C (.neg (.c (.int 1))) ix && !isSliceX ix && decide (n1 = "append") && decide (n2 = "append") && (a1.endLine == c1.line) && (a2.endLine == c2.line) && decide (i ≠ v) && decide (i ≠ r) && decide (r ≠ v)
  | _ => false
/-- y.append((w, y.pop()[1] + x)) -/
def apopC (C : SC) (i w x : Nat) : Expr → Bool
  | .Call (.Attribute (.Name y p) nm ap) [.Tuple [.Name w' wp, .BinOp (.Subscript (.Call (.Attribute (.Name y2 p2) nm2 ap2) [] [] cp2) ix _) op (.Name x' xp) _] _ _] [] cp =>
      decide (nm = "append") && decide (nm2 = "pop") && (ap.endLine == cp.line) && (ap2.endLine == cp2.line) && decide (op = opOf .add) && !isSliceX ix && chkE C (.v i) (.Name y p) && chkE C (.v i) (.Name y2 p2) && chkE C (.v w) (.Name w' wp) && chkE C (.v x) (.Name x' xp) && chkE C (.c (.int 1)) ix
  | _ => false
mutual
def chkS (C : SC) : S → Stmt → Bool
  | .asg i fr e, x => (match x with
    | .Assign [.Name y _] z _ => nmOk C i y && chkE C e z && (!fr || isLstE e) && !isLcx e
    | _ => false)
  | .tgt t e, x => (match x with
    | .Assign [.Tuple es k p] z _ => chkTg C t (.Tuple es k p) && chkE C e z && tgtC C.sc es z
    | _ => false)
  | .par is es, x => (match x with
    | .Assign [.Tuple ts _ _] (.Tuple zs _ _) _ => (C.sc.kind == .function) && parC C is ts zs && chkEs C es zs
    | _ => false)
  | .app i e, x => (match x with
    | .Expr (.Call (.Attribute (.Name y p) nm ap) [z] [] cp) _ => decide (nm = "append") && (ap.endLine == cp.line) && chkE C (.v i) (.Name y p) && chkEs C [e] [z]
    | _ => false)
  | .ext i e, x => (match x with
    | .Expr (.Call (.Attribute (.Name y p) nm ap) [z] [] cp) _ => decide (nm = "extend") && (ap.endLine == cp.line) && chkE C (.v i) (.Name y p) && chkEs C [e] [z]
    | _ => false)
  | .sti i a e, x => (match x with
    | .Assign [.Subscript (.Name y p) ix _] z _ => chkE C (.v i) (.Name y p) && !isSliceX ix && !isCompX z && chkE C a ix && chkE C e z
    | _ => false)
  | .ret e, x => (match x with
    | .Return (some z) _ => chkE C e z
    | _ => false)
  | .iff c a b, x => (match x with
    | .If z p q _ => noIfe c && chkE C c z && chkSs C a p && chkSs C b q
    | _ => false)
  | .for t ik es body, x => (match x with
    | .For tg it p [] _ => chkTg C t tg && !isSetX it && chkI C tg ik es it && chkSs C body p
    | _ => false)
  | .whl c body, x => (match x with
    | .While z p [] _ => noIfe c && chkE C c z && chkSs C body p
    | _ => false)
  | .raise c, x => (match x with
    | .Raise (some (.Call (.Name y _) [.Constant (.str _) _ _] [] _)) none _ => decide (c = 0) && C.xi.on && decide (C.xi.cls = y) && glb C.sc y && plainNm y
    | _ => false)
  | .exp e, x => (match x with
    | .Expr z _ => !isCompX z && chkE C e z
    | _ => false)
  | .frz _, _ => false
  | .tryN body, x => (match x with
    | .Try p (_ :: _) [] [] _ => chkSs C body p
    | _ => false)
  | .tryX body i m su, x => (match x with
    | .Try p [.ExceptHandler (some (.Name y _)) (some n) [b] _] [] [] _ => C.xi.on && decide (C.xi.ctch = y) && glb C.sc y && plainNm y && decide (C.N[i]? = some n) && decide (C.sc.names.lookup n = some .local) && plainNm n && chkXS C i n su b && chkSs C body p && decide (m = C.N.length) && su.nj i
    | _ => false)
  | .never, _ => true
  | .cont, x => (match x with
    | .Continue _ => true
    | _ => false)
  | .pass, x => (match x with
    | .Pass _ => true
    | _ => false)
  | .grp _ _ _, _ => false
  | .rpl _ _, _ => false
  | .dnew i, x => (match x with
    | .Assign [.Name y _] (.Dict [] [] _) _ => nmOk C i y
    | _ => false)
  | .dput i es e, x => (match x with
    | .Assign [.Subscript (.Name y p) (.Tuple xs _ _) _] z _ => chkE C (.v i) (.Name y p) && chkEs C es xs && decide (xs.length = 2) && !isCompX z && chkE C e z
    | _ => false)
  | .retd i, x => (match x with
    | .Return (some (.Name y p)) _ => chkE C (.v i) (.Name y p)
    | _ => false)
  | .apop i w z, x => (match x with
    | .Expr e _ => apopC C i w z e
    | _ => false)
def chkSs (C : SC) : List S → List Stmt → Bool
  | [], xs => xs.isEmpty
  | .frz _ :: ss, xs => chkSs C ss xs
  | .grp i r v :: ss, xs => ss.isEmpty && grpC C i r v xs
  | s :: ss, xs => (match xs with
    | x :: r => chkS C s x && chkSs C ss r
    | [] => false)
end
/-! ### what the look gives -/
theorem vis_ok {sc : Scope} {x : Str} (h : vis sc x = true) : Vis sc x := by
  unfold vis at h
  unfold Vis
  cases e : sc.names.lookup x with
  | none => rw [e] at h; cases h
  | some k =>
    rw [e] at h
    cases k <;> first
      | (simp; done)
      | cases h
theorem lcl_ok {sc : Scope} {x : Str} (h : lcl sc x = true) : L2.Loc sc x := by
  unfold lcl at h
  unfold L2.Loc
  cases e : sc.names.lookup x with
  | none => rw [e] at h; cases h
  | some k =>
    rw [e] at h
    cases k <;> first
      | (simp; done)
      | cases h
theorem glb_ok {sc : Scope} {x : Str} (h : glb sc x = true) : sc.names.lookup x = some .globalImplicit := by
  unfold glb at h
  cases e : sc.names.lookup x with
  | none => rw [e] at h; cases h
  | some k =>
    rw [e] at h
    cases k <;> first
      | rfl
      | cases h
theorem nm_ok {x : Str} (h : plainNm x = true) : (x == ("__debug__" : Str)) = false ∧ (x == ("__classdict__" : Str)) = false ∧ x ≠ "__name__" := by
  unfold plainNm at h
  simp only [Bool.and_eq_true, Bool.not_eq_true'] at h
  exact ⟨h.1.1, h.1.2, fun e => by rw [e] at h; simp at h⟩
theorem notSet {x : Expr} (h : isSetX x = false) (env : PySem.Env) : ∀ v, foldedSetIterable x env v = pure v := by
  intro v
  cases x <;> first
    | rfl
    | cases h
theorem noMarks {x : Expr} (h : isSetX x = false) (op : CmpOp) : behindInMarks op x = false := by
  cases x <;> first
    | rfl
    | cases h
theorem starCons {x : Expr} (h : isStarX x = false) (xs : List Expr) (env : PySem.Env) : starEach (x :: xs) env = (false, eval x env) :: starEach xs env := by
  cases x <;> first
    | rfl
    | cases h
theorem asgCons {x : Expr} (h : isStarX x = false) (xs : List Expr) (env : PySem.Env) : assignEach (x :: xs) env = (false, assign x env) :: assignEach xs env := by
  cases x <;> first
    | rfl
    | cases h
theorem plainIx {x : Expr} (h : isSliceX x = false) : PlainIx x := by
  intro o i
  cases x <;> first
    | rfl
    | cases h
theorem attrBase {o : Expr} (h : isCall0X o = false) (n : Str) (env : PySem.Env) (w : Sem Value) : attributeBase o n env w = w := by
  unfold attributeBase
  split
  · rename_i id p pos
    cases h
  · rfl
theorem plainTest {x : Expr} (h : plainTestX x = true) (env : PySem.Env) : ∀ w, isTrue x env w = (do let v ← w; standAt x.pos; holding [v] (truthy v)) := by
  intro w
  cases x with
  | UnaryOp op y p => cases op <;> first | rfl | cases h
  | _ => first | rfl | cases h
theorem notSwap {x : Expr} (h : isCompX x = false) (t : Option Expr) (l : Nat) (env : PySem.Env) : swapsWith x t l env = pure false := by
  cases x <;> first
    | rfl
    | cases h
theorem starNone : ∀ {xs : List Expr} (env : PySem.Env) (pos : Pos), (∀ x ∈ xs, isStarX x = false) → (backTo pos (starEach xs env)).any (·.1) = false
  | [], _, _, _ => rfl
  | x :: xs, env, pos, h => by
    rw [starCons (h x List.mem_cons_self)]
    show (false || (backTo pos (starEach xs env)).any (·.1)) = false
    rw [starNone env pos fun y hy => h y (List.mem_cons_of_mem _ hy)]; rfl
theorem chkEs_star {C : SC} : ∀ {es : List E} {xs : List Expr}, chkEs C es xs = true → ∀ x ∈ xs, isStarX x = false
  | _, [], _, x, hx => by cases hx
  | [], _ :: _, h, _, _ => by cases h
  | e :: es, y :: ys, h, x, hx => by
    simp only [chkEs, Bool.and_eq_true, Bool.not_eq_true'] at h
    rcases List.mem_cons.mp hx with rfl | hx
    · exact h.1.1
    · exact chkEs_star h.2 x hx
theorem chkEs_len {C : SC} : ∀ {es : List E} {xs : List Expr}, chkEs C es xs = true → es.length = xs.length
  | [], [], _ => rfl
  | _ :: _, [], h => by cases h
  | [], _ :: _, h => by cases h
  | e :: es, y :: ys, h => by
    simp only [chkEs, Bool.and_eq_true] at h
    simp [chkEs_len h.2]
end MT
namespace MT
open PySem L2

/-! ### no exception comes of an operation -/
theorem bind_ex {α β : Type} {r : R α} {f : α → R β} (h1 : ∀ c, r ≠ .ex c) (h2 : ∀ a c, f a ≠ .ex c) : ∀ c, r.bind f ≠ .ex c := by
  intro c
  cases r with
  | ok a => exact h2 a c
  | ex d => exact absurd rfl (h1 d)
  | no => exact no_ex c
theorem ofO_ex {α : Type} {o : Option α} : ∀ c, ofO o ≠ .ex c := by
  intro c
  cases o with
  | none => exact no_ex c
  | some a => exact ok_ex c
theorem binD_ex (o : BO) (x y : D) : ∀ c, binD o x y ≠ .ex c := by
  intro c
  unfold binD
  split <;> first
    | exact ok_ex c
    | exact no_ex c
    | exact guard_ex ok_ex
theorem inD_ex (x y : D) : ∀ c, inD x y ≠ .ex c := by
  intro c
  unfold inD
  split
  · split <;> first
      | exact ok_ex c
      | exact no_ex c
  · exact guard_ex ok_ex
  · exact guard_ex ok_ex
  · exact no_ex c
theorem isD_ex (x y : D) : ∀ c, isD x y ≠ .ex c := by
  intro c
  unfold isD
  split <;> first
    | exact ok_ex c
    | exact no_ex c
theorem cmpD_ex (o : CO) (x y : D) : ∀ c, cmpD o x y ≠ .ex c := by
  intro c
  unfold cmpD
  split <;> first
    | exact ok_ex c
    | exact no_ex c
    | exact guard_ex ok_ex
    | exact bind_ex (inD_ex _ _) (fun _ => ok_ex) c
    | exact bind_ex (isD_ex _ _) (fun _ => ok_ex) c
theorem idxD_ex (x y : D) : ∀ c, idxD x y ≠ .ex c := by
  intro c
  unfold idxD
  split
  · split <;> first
      | exact ok_ex c
      | exact no_ex c
  · split <;> first
      | exact ok_ex c
      | exact no_ex c
  · refine guard_ex ?_
    intro c
    split <;> first
      | exact ok_ex c
      | exact no_ex c
  · split <;> first
      | exact ok_ex c
      | exact no_ex c
  · exact no_ex c
theorem slD_ex (x : D) (lo hi : Option Int) : ∀ c, slD x lo hi ≠ .ex c := by
  intro c
  unfold slD
  split <;> first
    | exact ok_ex c
    | exact no_ex c
    | exact guard_ex ok_ex
theorem prD_ex (p : Pr) (ds : List D) : ∀ c, prD p ds ≠ .ex c := by
  intro c
  unfold prD
  split <;> first
    | exact ok_ex c
    | exact no_ex c
    | exact guard_ex ok_ex
    | exact bind_ex ofO_ex (fun _ => ok_ex) c
    | exact bind_ex ofO_ex (fun _ => bind_ex ofO_ex (fun _ => ok_ex)) c
    | exact bind_ex ofO_ex (fun _ _ => guard_ex ok_ex) c
    | exact guard_ex (bind_ex ofO_ex (fun _ => ok_ex))
    | (refine guard_ex ?_; intro c; split <;> exact ok_ex c)
theorem intD_ex (x : D) : ∀ c, intD x ≠ .ex c := by
  intro c
  cases x <;> first
    | exact ok_ex c
    | exact no_ex c
theorem intD_ok {x : D} {i : Int} (h : intD x = .ok i) : x = .int i := by
  cases x <;> first
    | (cases h; rfl)
    | cases h

/-! ### where one stands -/
/-- the promise of a def that the evaluator tells -/
def spF (K : PySem.W.Frag) (cl : CL) (xv : Nat → Value) (np : Nat) (f : Nat) : Sp := fun vs H Q E => vs.length = np ∧ ∃ F ds, Same F H ∧ DVs K F vs ds ∧ match cl f ds with
  | .ok d => ∀ F' v H', Step F H F' H' → DV K F' v d → Q v H'
  | .ex c => ∀ F' H', Step F H F' H' → E (xv c) none H'
  | .no => False
/-- a wish about exceptions, by classes' numbers -/
def wx (xv : Nat → Value) (Wn : WN) : WX := fun cls d σ H => ∃ c, cls = xv c ∧ d = none ∧ Wn c σ H
/-- what the head tells of the classes of exceptions -/
def XFacts (xi : XInfo) (K : PySem.W.Frag) (mg : Str → Option Value) (xv : Nat → Value) : Prop := xi.on = true → ∃ A : Addr, xv 0 = .ref A ∧ mg xi.cls = some (.ref A) ∧ PySem.W.excIn K A He.veBase "ValueError.__new__" = true ∧ PySem.W.keepIn K (.ref A) = true ∧
  PySem.W.subIn K (.ref A) (.type "BaseException") = some true ∧ PySem.W.typeIn K (.ref A) = some (.type "type") ∧ ExcC K A ∧ (∃ c, mg xi.ctch = some c ∧ PySem.W.exmOne K (.ref A) c = some true) ∧
  ∀ z v, (z, v) ∈ xi.asks → ∃ (cv : Value) (w : V), PySem.W.kitOne K (.ref A) cv = some v ∧ (∀ u, RelV w u → u = cv) ∧ RelV w cv ∧ (mg z = some cv ∨ (mg z = none ∧ bootBuiltins z = some cv))
/-- what the head tells of the tables of the top -/
def TFacts (xi : XInfo) (K : PySem.W.Frag) (w : World) (mg : Str → Option Value) : Prop := ∀ n kvs, xi.tabs.lookup n = some kvs → ∃ a : Addr, mg n = some (.ref a) ∧ ∀ q ∈ kvs, KDct K w a (mkS q.1) (.str (mkS q.2))
structure Good (C : SC) (cl : CL) (Wn : WN) (k : Nat) (xv : Nat → Value) (X : Cx) : Prop where
  calm : X.calm = true
  N : X.N = C.N
  nd : X.N.Nodup
  sc : X.env.scope = C.sc
  fl : C.blk = false → ∀ x, X.fn x = true
  room : Room k X.A
  fns : ∀ n f, C.fns.lookup n = some f → ∃ (a : Addr) (fd : FuncData) (ps : List Str), X.mg n = some (.ref a) ∧ PySem.W.keepIn X.K (.ref a) = true ∧ Binds X.K fd ps [] ∧ FnOk X.prog X.w X.K X.mg X.base (CX X.prog X.w) k a fd ps (spF X.K cl xv ps.length f) ∧ (∀ ds d, cl f ds = .ok d → ds.length = ps.length) ∧ (∀ ds c, cl f ds = .ex c → ds.length = ps.length)
  free : ∀ n, C.free.contains n = true → X.mg n = none
  gcs : ∀ n s, C.gcs.lookup n = some (.str s) → ∃ t, X.mg n = some (.str (mkS s) t)
  takes : C.blk = false → Takes X (wx xv Wn)
  pa : ∀ σ, PassesAt (CX X.prog X.w) X σ (fun cls d H => wx xv Wn cls d σ H)
  pass : C.blk = false → PassesOwn (model X.prog X.w) X.A X.env X.xe
  xf : XFacts C.xi X.K X.mg xv
  stk : C.blk = false → X.stack = X.env :: X.outer ∧ X.env.frame = some X.env.locals
  td : TFacts C.xi X.K X.w X.mg
section
variable {C : SC} {cl : CL} {Wn : WN} {k : Nat} {xv : Nat → Value} {X : Cx}
theorem Good.gl (g : Good C cl Wn k xv X) {x : Str} (h : glb C.sc x = true) : Gl X x := by
  show X.env.scope.names.lookup x = _
  rw [g.sc]
  exact glb_ok h
theorem Good.units (g : Good C cl Wn k xv X) : X.A.units + 80 < cLine := by have := g.room.un; omega
theorem Good.bl (g : Good C cl Wn k xv X) {x : Str} (h : bltn C x = true) : Gl X x ∧ X.mg x = none ∧ x ≠ "__name__" ∧ (x == ("__debug__" : Str)) = false := by
  unfold bltn at h
  simp only [Bool.and_eq_true] at h
  obtain ⟨n1, _, n3⟩ := nm_ok h.2
  exact ⟨g.gl h.1.2, g.free x h.1.1, n3, n1⟩

def tE (K : PySem.W.Frag) (cl : CL) (Wn : WN) (e : E) : TE := fun σ H Q => ∃ F ρ, Rel K F ρ σ H ∧ Out Wn F H σ (evE cl e ρ) (YV K) Q
def tB (K : PySem.W.Frag) (cl : CL) (Wn : WN) (e : E) : TE := fun σ H Q => ∃ F ρ, Rel K F ρ σ H ∧ Out Wn F H σ (bor ρ e (evE cl e ρ)) (YB K) Q
def tT (K : PySem.W.Frag) (cl : CL) (Wn : WN) (e : E) : TT := fun σ H Q => ∃ F ρ, Rel K F ρ σ H ∧ Out Wn F H σ (evT cl e ρ) (fun _ _ (b c : Bool) => b = c) Q
def tEs (K : PySem.W.Frag) (cl : CL) (Wn : WN) (es : List E) : TA := fun σ H Q => ∃ F ρ, Rel K F ρ σ H ∧ Out Wn F H σ (evEs cl es ρ) (fun F _ vs ds => DVs K F vs ds) Q
def tBs (K : PySem.W.Frag) (cl : CL) (Wn : WN) (es : List E) : TA := fun σ H Q => ∃ F ρ, Rel K F ρ σ H ∧ Out Wn F H σ (evBs cl es ρ) (fun F H vs ds => DBs K F H vs ds) Q

theorem _root_.L2.PE.imp {e : Expr} {t t' : TE} (h : PE X e t) (i : ∀ σ H Q, t' σ H Q → t σ H Q) : PE X e t' := ⟨fun pins s σ H Q I q => h.run pins s σ H Q I (i _ _ _ q)⟩
theorem _root_.L2.PT.imp {e : Expr} {t t' : TT} (h : PT X e t) (i : ∀ σ H Q, t' σ H Q → t σ H Q) : PT X e t' := ⟨fun pins s σ H Q I q => h.run pins s σ H Q I (i _ _ _ q)⟩
theorem _root_.L2.PW.imp {e : Expr} {t t' : TT} (h : PW X e t) (i : ∀ σ H Q, t' σ H Q → t σ H Q) : PW X e t' := ⟨fun w pins s σ H Q I q => h.run w pins s σ H Q I (i _ _ _ q)⟩
theorem _root_.L2.PA.imp {es : List Expr} {t t' : TA} (h : PA X es t) (i : ∀ σ H Q, t' σ H Q → t σ H Q) : PA X es t' := ⟨fun pos pins s σ H Q I q => h.run pos pins s σ H Q I (i _ _ _ q)⟩
theorem _root_.L2.PSs.imp {ss : List Stmt} {t t' : TS} (h : PSs X ss t) (i : ∀ D σ H, t' D σ H → t D σ H) : PSs X ss t' := ⟨fun pins s σ H D I q => h.run pins s σ H D I (i _ _ _ q)⟩
theorem _root_.L2.PS.imp {ss : Stmt} {t t' : TS} (h : PS X ss t) (i : ∀ D σ H, t' D σ H → t D σ H) : PS X ss t' := ⟨fun pins s σ H D I q => h.run pins s σ H D I (i _ _ _ q)⟩

/-- a name -/
theorem s_var {i : Nat} {x : Str} {pos : Pos} (g : Good C cl Wn k xv X) (h : (decide (C.N[i]? = some x) && vis C.sc x && plainNm x) = true) : PE X (.Name x pos) (tVar i) := by
  simp only [Bool.and_eq_true] at h
  obtain ⟨n1, n2, _⟩ := nm_ok h.2
  exact pe_var (by rw [g.N]; exact of_decide_eq_true h.1.1) (by rw [g.sc]; exact vis_ok h.1.2) n1 n2
theorem rd_ok {K : PySem.W.Frag} {F H : Hp} {ρ : MT.Env} {σ : L2.St} {i : Nat} {Q : VK} (r : Rel K F ρ σ H) (h : Out Wn F H σ (rd ρ i) (YV K) Q) : tVar i σ H Q := by
  unfold rd at h
  cases e : ρ[i]? with
  | none => rw [e] at h; exact (show False from h).elim
  | some v =>
    rw [e] at h
    cases v with
    | val d =>
      obtain ⟨v, e1, h1⟩ := r.val i d e
      exact ⟨v, e1, h F H v (Step.refl r.sub) h1⟩
    | un => exact (show False from h).elim
    | own xs => exact (show False from h).elim
    | obj tk o => exact (show False from h).elim
theorem rdB_ok {K : PySem.W.Frag} {F H : Hp} {ρ : MT.Env} {σ : L2.St} {i : Nat} {Q : VK} (r : Rel K F ρ σ H) (h : Out Wn F H σ (rdB ρ i) (YB K) Q) : tVar i σ H Q := by
  unfold rdB at h
  cases e : ρ[i]? with
  | none => rw [e] at h; exact (show False from h).elim
  | some v =>
    rw [e] at h
    cases v with
    | val d =>
      obtain ⟨v, e1, h1⟩ := r.val i d e
      exact ⟨v, e1, h F H v (Step.refl r.sub) (.inl h1)⟩
    | un => exact (show False from h).elim
    | own xs =>
      obtain ⟨a, vs, e1, e2, e3, h1⟩ := r.own i xs e
      exact ⟨.ref a, e1, h F H _ (Step.refl r.sub) (.inr ⟨a, vs, xs, rfl, rfl, e2, h1⟩)⟩
    | obj tk o => exact (show False from h).elim
/-- from a value to what may be lent -/
theorem s_bor {e : E} {x : Expr} (g : Good C cl Wn k xv X) (hc : chkE C e x = true) (h : PE X x (tE X.K cl Wn e)) : PE X x (tB X.K cl Wn e) := by
  by_cases hv : ∃ i, e = .v i
  · obtain ⟨i, rfl⟩ := hv
    cases x with
    | Name y p => exact (s_var g hc).imp fun σ H Q ⟨F, ρ, r, o⟩ => rdB_ok r o
    | _ => cases hc
  · refine h.imp fun σ H Q ⟨F, ρ, r, o⟩ => ⟨F, ρ, r, ?_⟩
    have e1 : bor ρ e (evE cl e ρ) = evE cl e ρ := by
      cases e <;> first
        | rfl
        | exact absurd ⟨_, rfl⟩ hv
    rw [e1] at o
    cases q : evE cl e ρ with
    | ok d => rw [q] at o; exact fun F' H' v s y => o F' H' v s (.inl y)
    | ex c => rw [q] at o; exact o
    | no => rw [q] at o; exact o
/-- from a value that may be lent to its truth -/
theorem s_truth {e : E} {x : Expr} (hp : plainTestX x = true) (he : ∀ ρ, evT cl e ρ = (bor ρ e (evE cl e ρ)).bind truth) (h : PE X x (tB X.K cl Wn e)) : PT X x (tT X.K cl Wn e) := by
  refine (pt_truth h (plainTest hp X.env)).imp fun σ H Q ⟨F, ρ, r, o⟩ => ⟨F, ρ, r, ?_⟩
  rw [he] at o
  refine o.bind fun F1 H1 v d s1 y o1 => ?_
  cases q : truth d with
  | ok b => rw [q] at o1; exact ⟨b, truth_ok s1.s y q, o1 F1 H1 b (Step.refl s1.s) rfl⟩
  | ex c => exact absurd q (truth_ex d c)
  | no => rw [q] at o1; exact (show False from o1).elim
/-- two operands that may be lent -/
theorem out2 {F H : Hp} {σ : L2.St} {ρ : MT.Env} {a b : E} {g2 : D → D → R D} {K : PySem.W.Frag} {Q : VK} (hn : ∀ x y c, g2 x y ≠ .ex c) (r : Rel K F ρ σ H)
    (h : Out Wn F H σ ((bor ρ a (evE cl a ρ)).bind fun x => (bor ρ b (evE cl b ρ)).bind fun y => g2 x y) (YV K) Q) : tOp (rP2 K g2) (tB K cl Wn a) (tB K cl Wn b) σ H Q :=
  ⟨F, ρ, r, h.bind fun F1 H1 v d s1 y1 h1 => ⟨F1, ρ, r.step s1, h1.bind fun F2 H2 w e s2 y2 h2 => ⟨F2, d, e, s2.s, y1.mono s2, y2, h2.prim (hn d e)⟩⟩⟩
/-- a truth that came -/
theorem bl_test {F H : Hp} {σ : L2.St} {K : PySem.W.Frag} {r : R D} {Q : Bool → Hp → Prop} (h : Out Wn F H σ (r.bind truth) (fun _ _ (b c : Bool) => b = c) Q) (hb : ∀ d, r = .ok d → ∃ b, d = .bl b) : Out Wn F H σ r (YV K) fun x H' => ∃ k, x = .bl k ∧ Q k H' := by
  cases r with
  | ok d =>
    obtain ⟨b, rfl⟩ := hb d rfl
    intro F' H' v s y
    cases y
    exact ⟨b, rfl, h F' H' b s rfl⟩
  | ex c => exact h
  | no => exact h
theorem cmp_bl (o : CO) (x y d : D) (h : cmpD o x y = .ok d) : ∃ b, d = .bl b := by
  unfold cmpD at h
  split at h <;> first
    | (cases h; exact ⟨_, rfl⟩)
    | (unfold guardR at h; split at h <;> first | (cases h; exact ⟨_, rfl⟩) | cases h)
    | (cases q : inD x y <;> rw [q] at h <;> first | (cases h; exact ⟨_, rfl⟩) | cases h)
    | (cases q : isD x y <;> rw [q] at h <;> first | (cases h; exact ⟨_, rfl⟩) | cases h)
    | cases h
end
end MT
namespace MT
open PySem L2
section
variable {cl : CL} {k : Nat} {xv : Nat → Value}
/-- what is shown of an expression -/
def IHE (cl : CL) (k : Nat) (xv : Nat → Value) (e : E) : Prop := ∀ (C : SC) (Wn : WN) (X : Cx), Good C cl Wn k xv X → ∀ x, chkE C e x = true →
  PE X x (tE X.K cl Wn e) ∧ (noIfe e = true → PT X x (tT X.K cl Wn e))
theorem IHE.pe {e : E} (h : IHE cl k xv e) {C : SC} {Wn : WN} {X : Cx} (g : Good C cl Wn k xv X) {x : Expr} (hc : chkE C e x = true) : PE X x (tE X.K cl Wn e) := (h C Wn X g x hc).1
theorem IHE.pb {e : E} (h : IHE cl k xv e) {C : SC} {Wn : WN} {X : Cx} (g : Good C cl Wn k xv X) {x : Expr} (hc : chkE C e x = true) : PE X x (tB X.K cl Wn e) := s_bor g hc (h C Wn X g x hc).1
theorem IHE.pt {e : E} (h : IHE cl k xv e) {C : SC} {Wn : WN} {X : Cx} (g : Good C cl Wn k xv X) {x : Expr} (hc : chkE C e x = true) (hn : noIfe e = true) : PT X x (tT X.K cl Wn e) := (h C Wn X g x hc).2 hn
/-- an expression whose test is its value's truth -/
theorem IHE.plain {e : E} (he : ∀ ρ, evT cl e ρ = (bor ρ e (evE cl e ρ)).bind truth) (h : ∀ (C : SC) (Wn : WN) (X : Cx), Good C cl Wn k xv X → ∀ x, chkE C e x = true → plainTestX x = true ∧ PE X x (tE X.K cl Wn e)) : IHE cl k xv e := fun C Wn X g x hc => by
  obtain ⟨hp, h1⟩ := h C Wn X g x hc
  exact ⟨h1, fun _ => s_truth hp he (s_bor g hc h1)⟩
theorem s_c (d : D) : IHE cl k xv (.c d) := by
  refine IHE.plain (fun _ => rfl) fun C Wn X g x hc => ?_
  have hc : chkC C d x = true := hc
  have fin : ∀ {v : V}, PE X x (tC v) → (∀ F, DV X.K F v d) → PE X x (tE X.K cl Wn (.c d)) := fun h y => h.imp fun σ H Q ⟨F, ρ, r, o⟩ => o F H _ (Step.refl r.sub) (y F)
  unfold chkC at hc
  split at hc
  · exact ⟨rfl, fin pe_non fun _ => .non⟩
  · rename_i b c _ _ _
    have e : b = c := by simpa using hc
    subst e
    exact ⟨rfl, fin pe_bl fun _ => .bl _⟩
  · rename_i b c _ _ _
    have e : b = c := by simpa using hc
    subst e
    exact ⟨rfl, fin pe_int fun _ => .int _⟩
  · rename_i s z _ _ _
    have e : z.cps.toList = s := by simpa using hc
    have e2 : z = mkS s := TL.ext_tl e
    subst e2
    exact ⟨rfl, fin pe_str fun _ => .str s⟩
  · rename_i s z _ _
    simp only [Bool.and_eq_true] at hc
    refine ⟨rfl, ?_⟩
    cases q : C.gcs.lookup z with
    | none => rw [q] at hc; exact nomatch hc.2
    | some t =>
      rw [q] at hc
      cases t with
      | str t =>
        have e : t = s := by simpa using hc.2
        subst e
        obtain ⟨tk, hm⟩ := g.gcs z t q
        exact fin (v := .str (mkS t)) (pe_glob (g.gl hc.1.1) hm ⟨tk, rfl⟩ (nm_ok hc.1.2).1) fun _ => .str t
      | _ => exact nomatch hc.2
  · cases hc
theorem s_v (i : Nat) : IHE cl k xv (.v i) := by
  refine IHE.plain (fun _ => rfl) fun C Wn X g x hc => ?_
  cases x with
  | Name y p => exact ⟨rfl, (s_var g hc).imp fun σ H Q ⟨F, ρ, r, o⟩ => rd_ok r o⟩
  | _ => cases hc
theorem s_bin (o : BO) {a b : E} (ha : IHE cl k xv a) (hb : IHE cl k xv b) : IHE cl k xv (.bin o a b) := by
  refine IHE.plain (fun _ => rfl) fun C Wn X g x hc => ?_
  cases x with
  | BinOp l op r p =>
    have hc : (decide (op = opOf o) && chkE C a l && chkE C b r) = true := hc
    simp only [Bool.and_eq_true, decide_eq_true_eq] at hc
    obtain ⟨⟨rfl, h1⟩, h2⟩ := hc
    exact ⟨rfl, (pe_op (op_bin o) (ha.pb g h1) (hb.pb g h2)).imp fun σ H Q ⟨F, ρ, r, o⟩ => out2 (binD_ex _) r o⟩
  | _ => cases hc
theorem s_cmp (o : CO) {a b : E} (ha : IHE cl k xv a) (hb : IHE cl k xv b) : IHE cl k xv (.cmp o a b) := by
  intro C Wn X g x hc
  unfold chkE at hc
  split at hc
  · rename_i l op r p
    simp only [Bool.and_eq_true, decide_eq_true_eq, Bool.not_eq_true'] at hc
    obtain ⟨⟨⟨rfl, h0⟩, h1⟩, h2⟩ := hc
    refine ⟨(pe_cmpR (op_cmp g.units o) (ha.pb g h1) (hb.pb g h2) (noMarks h0 _)).imp fun σ H Q ⟨F, ρ, r, o⟩ => out2 (cmpD_ex _) r o, fun _ => ?_⟩
    refine (pt_cmpR (op_cmp g.units o) (ha.pb g h1) (hb.pb g h2) (noMarks h0 _)).imp fun σ H Q ⟨F, ρ, r, out⟩ => out2 (cmpD_ex o) r ?_
    refine bl_test out fun d e => ?_
    have e : ((bor ρ a (evE cl a ρ)).bind fun x => (bor ρ b (evE cl b ρ)).bind fun y => cmpD o x y) = .ok d := e
    cases q1 : bor ρ a (evE cl a ρ) with
    | ok x =>
      rw [q1] at e
      cases q2 : bor ρ b (evE cl b ρ) with
      | ok y => rw [q2] at e; exact cmp_bl o x y d e
      | ex c => rw [q2] at e; cases e
      | no => rw [q2] at e; cases e
    | ex c => rw [q1] at e; cases e
    | no => rw [q1] at e; cases e
  · cases hc
theorem out_chain {C : SC} {Wn : WN} {K : PySem.W.Frag} {F H : Hp} {ρ : MT.Env} {σ : L2.St} {o o' : CO} {a b c : E} {Q : VK} (r : Rel K F ρ σ H) (h : Out Wn F H σ (evE cl (.chain o o' a b c) ρ) (YV K) Q) :
    tChain (rP2 K (cmpD o)) (rP2 K (cmpD o')) (tE K cl Wn a) (tE K cl Wn b) (tE K cl Wn c) σ H Q := by
  refine ⟨F, ρ, r, Out.bind (f := fun x => (evE cl b ρ).bind fun y => (cmpD o x y).bind (andK ((evE cl c ρ).bind fun z => cmpD o' y z))) h fun F1 H1 v d s1 y1 h1 => ⟨F1, ρ, r.step s1, h1.bind fun F2 H2 w e s2 y2 h2 => ⟨F2, d, e, s2.s, .inl (y1.mono s2.f), .inl y2, ?_⟩⟩⟩
  cases q : cmpD o d e with
  | no => rw [q] at h2; exact (show False from h2).elim
  | ex c => exact absurd q (cmpD_ex _ _ _ c)
  | ok t =>
    rw [q] at h2
    obtain ⟨tb, rfl⟩ := cmp_bl o d e t q
    intro F3 H3 v3 s3 y3
    cases y3
    refine ⟨tb, rfl, ?_⟩
    cases tb with
    | true =>
      refine iteT ⟨F3, ρ, ((r.step s1).step s2).step s3, Out.bind (Out.mono s3 h2) fun F4 H4 z f s4 y4 h4 => ⟨F4, e, f, s4.s, .inl ((y2.mono s3.f).mono s4.f), .inl y4, h4.prim (cmpD_ex _ _ _)⟩⟩
    | false => exact iteF (h2 F3 H3 _ s3 (.bl _))
theorem chain_bl {o o' : CO} {a b c : E} {ρ : MT.Env} {d : D} (e : evE cl (.chain o o' a b c) ρ = .ok d) : ∃ t, d = .bl t := by
  have e : ((evE cl a ρ).bind fun x => (evE cl b ρ).bind fun y => (cmpD o x y).bind (andK ((evE cl c ρ).bind fun z => cmpD o' y z))) = .ok d := e
  cases q1 : evE cl a ρ with
  | ex c => rw [q1] at e; cases e
  | no => rw [q1] at e; cases e
  | ok x =>
    rw [q1] at e
    cases q2 : evE cl b ρ with
    | ex c => rw [q2] at e; cases e
    | no => rw [q2] at e; cases e
    | ok y =>
      rw [q2] at e
      have e : ((cmpD o x y).bind (andK ((evE cl c ρ).bind fun z => cmpD o' y z))) = .ok d := e
      cases q3 : cmpD o x y with
      | ex c => rw [q3] at e; cases e
      | no => rw [q3] at e; cases e
      | ok t =>
        obtain ⟨tb, rfl⟩ := cmp_bl o x y t q3
        rw [q3] at e
        cases tb with
        | false => cases e; exact ⟨_, rfl⟩
        | true =>
          have e : ((evE cl c ρ).bind fun z => cmpD o' y z) = .ok d := e
          cases q4 : evE cl c ρ with
          | ex c => rw [q4] at e; cases e
          | no => rw [q4] at e; cases e
          | ok z => rw [q4] at e; exact cmp_bl o' y z d e
theorem last_ok {op op' : CmpOp} {m r : Expr} (h : isSetX r = false) : lastMarks [op, op'] [m, r] = false := noMarks h op'
theorem s_chain (o o' : CO) {a b c : E} (ha : IHE cl k xv a) (hb : IHE cl k xv b) (hc' : IHE cl k xv c) : IHE cl k xv (.chain o o' a b c) := by
  intro C Wn X g x hc
  unfold chkE at hc
  split at hc
  · rename_i l op op' m r p
    simp only [Bool.and_eq_true, decide_eq_true_eq, Bool.not_eq_true'] at hc
    obtain ⟨⟨⟨⟨⟨rfl, rfl⟩, h0⟩, h1⟩, h2⟩, h3⟩ := hc
    refine ⟨(pe_chain (op_cmp g.units o) (op_cmp g.units o') (ha.pe g h1) (hb.pe g h2) (hc'.pe g h3) (last_ok h0)).imp fun σ H Q ⟨F, ρ, r, out⟩ => out_chain (C := C) r out, fun _ => ?_⟩
    refine (pt_chain (op_cmp g.units o) (op_cmp g.units o') (ha.pe g h1) (hb.pe g h2) (hc'.pe g h3) (last_ok h0)).imp fun σ H Q ⟨F, ρ, r, out⟩ => out_chain (C := C) r ?_
    exact bl_test out fun d e => chain_bl e
  · cases hc

/-! ### and, or, not -/
theorem out_and {Wn : WN} {K : PySem.W.Frag} {F H : Hp} {ρ : MT.Env} {σ : L2.St} {a b : E} {Q : VK} (r : Rel K F ρ σ H) (h : Out Wn F H σ (evE cl (.and a b) ρ) (YV K) Q) : tAndV (tE K cl Wn a) (tE K cl Wn b) σ H Q := by
  refine ⟨F, ρ, r, Out.bind (f := andK (evE cl b ρ)) h fun F1 H1 v d s1 y1 h1 => ?_⟩
  cases d <;> first
    | exact (show False from h1).elim
    | skip
  rename_i t
  cases y1
  refine ⟨t, rfl, ?_⟩
  cases t with
  | true => exact iteT ⟨F1, ρ, r.step s1, h1⟩
  | false => exact iteF (h1 F1 H1 _ (Step.refl s1.s) (.bl _))
theorem out_or {Wn : WN} {K : PySem.W.Frag} {F H : Hp} {ρ : MT.Env} {σ : L2.St} {a b : E} {Q : VK} (r : Rel K F ρ σ H) (h : Out Wn F H σ (evE cl (.or a b) ρ) (YV K) Q) : tOrV (tE K cl Wn a) (tE K cl Wn b) σ H Q := by
  refine ⟨F, ρ, r, Out.bind (f := orK (evE cl b ρ)) h fun F1 H1 v d s1 y1 h1 => ?_⟩
  cases d <;> first
    | exact (show False from h1).elim
    | skip
  rename_i t
  cases y1
  refine ⟨t, rfl, ?_⟩
  cases t with
  | true => exact iteT (h1 F1 H1 _ (Step.refl s1.s) (.bl _))
  | false => exact iteF ⟨F1, ρ, r.step s1, h1⟩
theorem outT_and {Wn : WN} {K : PySem.W.Frag} {F H : Hp} {ρ : MT.Env} {σ : L2.St} {a b : E} {Q : Bool → Hp → Prop} (r : Rel K F ρ σ H) (h : Out Wn F H σ (evT cl (.and a b) ρ) (fun _ _ (b c : Bool) => b = c) Q) : tAnd (tT K cl Wn a) (tT K cl Wn b) σ H Q := by
  refine ⟨F, ρ, r, Out.bind (f := fun x => if x = true then evT cl b ρ else .ok false) h fun F1 H1 v d s1 y1 h1 => ?_⟩
  subst y1
  cases v with
  | true => exact iteT ⟨F1, ρ, r.step s1, h1⟩
  | false => exact iteF (h1 F1 H1 _ (Step.refl s1.s) rfl)
theorem outT_or {Wn : WN} {K : PySem.W.Frag} {F H : Hp} {ρ : MT.Env} {σ : L2.St} {a b : E} {Q : Bool → Hp → Prop} (r : Rel K F ρ σ H) (h : Out Wn F H σ (evT cl (.or a b) ρ) (fun _ _ (b c : Bool) => b = c) Q) : tOr (tT K cl Wn a) (tT K cl Wn b) σ H Q := by
  refine ⟨F, ρ, r, Out.bind (f := fun x => if x = true then .ok true else evT cl b ρ) h fun F1 H1 v d s1 y1 h1 => ?_⟩
  subst y1
  cases v with
  | true => exact iteT (h1 F1 H1 _ (Step.refl s1.s) rfl)
  | false => exact iteF ⟨F1, ρ, r.step s1, h1⟩
/-- a test of and, or, whatever its whole is -/
def IHW (cl : CL) (k : Nat) (xv : Nat → Value) (e : E) : Prop := ∀ (C : SC) (Wn : WN) (X : Cx), Good C cl Wn k xv X → ∀ (op : BoolOp) (l m : Expr) (r : List Expr) (p : Pos), chkE C e (.BoolOp op (l :: m :: r) p) = true → noIfe e = true → PW X (.BoolOp op (l :: m :: r) p) (tT X.K cl Wn e)
theorem s_and {a b : E} (ha : IHE cl k xv a) (hb : IHE cl k xv b) (wb : IHW cl k xv b) : IHE cl k xv (.and a b) ∧ IHW cl k xv (.and a b) := by
  have pw : IHW cl k xv (.and a b) := by
    intro C Wn X g op l m r p hc hn
    have hn : noIfe a = true ∧ noIfe b = true := by simpa [noIfe] using hn
    cases op with
    | Or => cases hc
    | And =>
      cases r with
      | nil =>
        have hc : (chkE C a l && chkE C b m) = true := hc
        simp only [Bool.and_eq_true] at hc
        exact (pw_and (ha.pt g hc.1 hn.1) (pw_and1 (hb.pt g hc.2 hn.2))).imp fun σ H Q ⟨F, ρ, r, o⟩ => outT_and r o
      | cons m2 r =>
        have hc : (chkE C a l && chkE C b (.BoolOp .And (m :: m2 :: r) p)) = true := hc
        simp only [Bool.and_eq_true] at hc
        exact (pw_and (ha.pt g hc.1 hn.1) (wb C Wn X g _ _ _ _ _ hc.2 hn.2)).imp fun σ H Q ⟨F, ρ, r, o⟩ => outT_and r o
  refine ⟨fun C Wn X g x hc => ?_, pw⟩
  have hx : ∃ l m r p, x = .BoolOp .And (l :: m :: r) p := by
    unfold chkE at hc
    split at hc
    · exact ⟨_, _, _, _, rfl⟩
    · exact ⟨_, _, _, _, rfl⟩
    · cases hc
  obtain ⟨l, m, r, p, rfl⟩ := hx
  refine ⟨?_, fun hn => (pw C Wn X g _ _ _ _ _ hc hn).pt⟩
  cases r with
  | nil =>
    have hc : (chkE C a l && chkE C b m) = true := hc
    simp only [Bool.and_eq_true] at hc
    exact (pe_and (ha.pe g hc.1) (pe_one (hb.pe g hc.2))).imp fun σ H Q ⟨F, ρ, r, o⟩ => out_and r o
  | cons m2 r =>
    have hc : (chkE C a l && chkE C b (.BoolOp .And (m :: m2 :: r) p)) = true := hc
    simp only [Bool.and_eq_true] at hc
    exact (pe_and (ha.pe g hc.1) (hb.pe g hc.2)).imp fun σ H Q ⟨F, ρ, r, o⟩ => out_and r o
theorem s_or {a b : E} (ha : IHE cl k xv a) (hb : IHE cl k xv b) (wb : IHW cl k xv b) : IHE cl k xv (.or a b) ∧ IHW cl k xv (.or a b) := by
  have pw : IHW cl k xv (.or a b) := by
    intro C Wn X g op l m r p hc hn
    have hn : noIfe a = true ∧ noIfe b = true := by simpa [noIfe] using hn
    cases op with
    | And => cases hc
    | Or =>
      cases r with
      | nil =>
        have hc : (chkE C a l && chkE C b m) = true := hc
        simp only [Bool.and_eq_true] at hc
        exact (pw_or (ha.pt g hc.1 hn.1) (pw_or1 (hb.pt g hc.2 hn.2))).imp fun σ H Q ⟨F, ρ, r, o⟩ => outT_or r o
      | cons m2 r =>
        have hc : (chkE C a l && chkE C b (.BoolOp .Or (m :: m2 :: r) p)) = true := hc
        simp only [Bool.and_eq_true] at hc
        exact (pw_or (ha.pt g hc.1 hn.1) (wb C Wn X g _ _ _ _ _ hc.2 hn.2)).imp fun σ H Q ⟨F, ρ, r, o⟩ => outT_or r o
  refine ⟨fun C Wn X g x hc => ?_, pw⟩
  have hx : ∃ l m r p, x = .BoolOp .Or (l :: m :: r) p := by
    unfold chkE at hc
    split at hc
    · exact ⟨_, _, _, _, rfl⟩
    · exact ⟨_, _, _, _, rfl⟩
    · cases hc
  obtain ⟨l, m, r, p, rfl⟩ := hx
  refine ⟨?_, fun hn => (pw C Wn X g _ _ _ _ _ hc hn).pt⟩
  cases r with
  | nil =>
    have hc : (chkE C a l && chkE C b m) = true := hc
    simp only [Bool.and_eq_true] at hc
    exact (pe_or (ha.pe g hc.1) (pe_one (hb.pe g hc.2))).imp fun σ H Q ⟨F, ρ, r, o⟩ => out_or r o
  | cons m2 r =>
    have hc : (chkE C a l && chkE C b (.BoolOp .Or (m :: m2 :: r) p)) = true := hc
    simp only [Bool.and_eq_true] at hc
    exact (pe_or (ha.pe g hc.1) (hb.pe g hc.2)).imp fun σ H Q ⟨F, ρ, r, o⟩ => out_or r o
/-- no other expression is looked at as such a test -/
theorem s_noW {e : E} (h : ∀ C op l r p, chkE C e (.BoolOp op (l :: r) p) = false) : IHW cl k xv e := fun C Wn X g op l m r p hc _ => by rw [h] at hc; cases hc
theorem s_not {a : E} (ha : IHE cl k xv a) : IHE cl k xv (.not a) := by
  intro C Wn X g x hc
  unfold chkE at hc
  split at hc
  · rename_i l p
    refine ⟨(pe_notT (ha.pb g hc)).imp fun σ H Q ⟨F, ρ, r, o⟩ => ?_, fun hn => (pt_not (ha.pt g hc hn)).imp fun σ H Q ⟨F, ρ, r, o⟩ => ?_⟩
    · refine ⟨F, ρ, r, Out.bind (f := fun x => (truth x).bind fun b => R.ok (D.bl !b)) o fun F1 H1 v d s1 y1 h1 => ?_⟩
      cases q : truth d with
      | ok b => rw [q] at h1; exact ⟨b, truth_ok s1.s y1 q, h1 F1 H1 _ (Step.refl s1.s) (.bl _)⟩
      | ex c => exact absurd q (truth_ex d c)
      | no => rw [q] at h1; exact (show False from h1).elim
    · refine ⟨F, ρ, r, Out.bind (f := fun x => R.ok !x) o fun F1 H1 v d s1 y1 h1 => ?_⟩
      subst y1
      exact h1 F1 H1 _ (Step.refl s1.s) rfl
  · cases hc
theorem s_neg {a : E} (ha : IHE cl k xv a) : IHE cl k xv (.neg a) := by
  refine IHE.plain (fun _ => rfl) fun C Wn X g x hc => ?_
  unfold chkE at hc
  split at hc
  · rename_i l p
    refine ⟨rfl, (pe_un un_neg (ha.pe g hc)).imp fun σ H Q ⟨F, ρ, r, o⟩ => ⟨F, ρ, r, Out.bind (f := fun x => (intD x).bind fun i => R.ok (D.int (-i))) o fun F1 H1 v d s1 y1 h1 => ?_⟩⟩
    cases d <;> first
      | exact (show False from h1).elim
      | skip
    rename_i i
    cases y1
    exact ⟨i, rfl, h1 F1 H1 _ (Step.refl s1.s) (.int _)⟩
  · cases hc
theorem s_ife {t a b : E} (ht : IHE cl k xv t) (ha : IHE cl k xv a) (hb : IHE cl k xv b) : IHE cl k xv (.ife t a b) := by
  intro C Wn X g x hc
  unfold chkE at hc
  split at hc
  · rename_i c l r p
    simp only [Bool.and_eq_true] at hc
    obtain ⟨⟨⟨h0, h1⟩, h2⟩, h3⟩ := hc
    refine ⟨(pe_ifExp (ht.pt g h1 h0) (ha.pe g h2) (hb.pe g h3)).imp fun σ H Q ⟨F, ρ, r, o⟩ => ⟨F, ρ, r, Out.bind (f := fun c => if c = true then evE cl a ρ else evE cl b ρ) o fun F1 H1 v d s1 y1 h1 => ?_⟩, fun hn => by cases hn⟩
    subst y1
    cases v with
    | true => exact iteT ⟨F1, ρ, r.step s1, h1⟩
    | false => exact iteF ⟨F1, ρ, r.step s1, h1⟩
  · cases hc
end
end MT
namespace MT
open PySem L2
section
variable {cl : CL} {k : Nat} {xv : Nat → Value}
/-! ### lists of expressions -/
def IHS (cl : CL) (k : Nat) (xv : Nat → Value) (es : List E) : Prop := ∀ (C : SC) (Wn : WN) (X : Cx), Good C cl Wn k xv X → ∀ xs, chkEs C es xs = true → PA X xs (tEs X.K cl Wn es) ∧ PA X xs (tBs X.K cl Wn es)
theorem s_nil : IHS cl k xv [] := by
  intro C Wn X g xs hc
  cases xs with
  | nil => exact ⟨pa_nil.imp fun σ H Q ⟨F, ρ, r, o⟩ => o F H _ (Step.refl r.sub) .nil, pa_nil.imp fun σ H Q ⟨F, ρ, r, o⟩ => o F H _ (Step.refl r.sub) .nil⟩
  | cons _ _ => cases hc
theorem s_cons {e : E} {es : List E} (h1 : IHE cl k xv e) (h2 : IHS cl k xv es) : IHS cl k xv (e :: es) := by
  intro C Wn X g xs hc
  cases xs with
  | nil => cases hc
  | cons x xs =>
    have hc : (!isStarX x && chkE C e x && chkEs C es xs) = true := hc
    simp only [Bool.and_eq_true, Bool.not_eq_true'] at hc
    obtain ⟨⟨c0, c1⟩, c2⟩ := hc
    obtain ⟨q1, q2⟩ := h2 C Wn X g xs c2
    refine ⟨(pa_cons (h1.pe g c1) q1 (starCons c0 xs X.env)).imp fun σ H Q ⟨F, ρ, r, o⟩ => ?_, (pa_cons (h1.pb g c1) q2 (starCons c0 xs X.env)).imp fun σ H Q ⟨F, ρ, r, o⟩ => ?_⟩
    · refine ⟨F, ρ, r, Out.bind (f := fun d => (evEs cl es ρ).bind fun ds => R.ok (d :: ds)) o fun F1 H1 v d s1 y1 o1 => ⟨F1, ρ, r.step s1, Out.bind o1 fun F2 H2 vs ds s2 y2 o2 => ?_⟩⟩
      exact o2 F2 H2 _ (Step.refl s2.s) (.cons (y1.mono s2.f) y2)
    · refine ⟨F, ρ, r, Out.bind (f := fun d => (evBs cl es ρ).bind fun ds => R.ok (d :: ds)) o fun F1 H1 v d s1 y1 o1 => ⟨F1, ρ, r.step s1, Out.bind o1 fun F2 H2 vs ds s2 y2 o2 => ?_⟩⟩
      exact o2 F2 H2 _ (Step.refl s2.s) (.cons (y1.mono s2) y2)
theorem evEs_len : ∀ {es : List E} {ρ : MT.Env} {ds : List D}, evEs cl es ρ = .ok ds → ds.length = es.length
  | [], _, _, h => by cases h; rfl
  | e :: es, ρ, ds, h => by
    have h : ((evE cl e ρ).bind fun d => (evEs cl es ρ).bind fun ds => R.ok (d :: ds)) = .ok ds := h
    cases q1 : evE cl e ρ with
    | ex c => rw [q1] at h; cases h
    | no => rw [q1] at h; cases h
    | ok d =>
      rw [q1] at h
      cases q2 : evEs cl es ρ with
      | ex c => rw [q2] at h; cases h
      | no => rw [q2] at h; cases h
      | ok ds' =>
        rw [q2] at h
        cases h
        simp [evEs_len q2]
theorem s_tup {es : List E} (h : IHS cl k xv es) : IHE cl k xv (.tup es) := by
  refine IHE.plain (fun _ => rfl) fun C Wn X g x hc => ?_
  unfold chkE at hc
  split at hc
  · rename_i xs i p
    simp only [Bool.and_eq_true, decide_eq_true_eq] at hc
    have hl := chkEs_len hc.1
    refine ⟨rfl, (pe_tup (h C Wn X g xs hc.1).1).imp fun σ H Q ⟨F, ρ, r, o⟩ => ⟨F, ρ, r, Out.bindE (f := fun ds => R.ok (D.tup ds)) o fun F1 H1 vs ds eq s1 y1 o1 => ?_⟩⟩
    refine ⟨?_, fun p hp => o1 _ _ _ (Step.new s1.s hp) (dv_tup_new (s1.s.free hp) y1)⟩
    rw [y1.length, evEs_len eq, hl]
    exact Nat.le_of_lt (small1000 hc.2)
  · cases hc
theorem s_lst {es : List E} (h : IHS cl k xv es) : IHE cl k xv (.lst es) := by
  refine IHE.plain (fun _ => rfl) fun C Wn X g x hc => ?_
  unfold chkE at hc
  split at hc
  · rename_i xs p
    simp only [Bool.and_eq_true, decide_eq_true_eq] at hc
    have hl := chkEs_len hc.1
    refine ⟨rfl, (pe_lst (h C Wn X g xs hc.1).1).imp fun σ H Q ⟨F, ρ, r, o⟩ => ⟨F, ρ, r, Out.bindE (f := fun ds => R.ok (D.lst ds)) o fun F1 H1 vs ds eq s1 y1 o1 => ?_⟩⟩
    refine ⟨?_, fun p hp => o1 _ _ _ (Step.new s1.s hp) (dv_lst_new (s1.s.free hp) y1)⟩
    rw [y1.length, evEs_len eq, hl]
    exact Nat.le_of_lt (small1000 hc.2)
  · cases hc
theorem s_idx {a i : E} (ha : IHE cl k xv a) (hi : IHE cl k xv i) : IHE cl k xv (.idx a i) := by
  refine IHE.plain (fun _ => rfl) fun C Wn X g x hc => ?_
  unfold chkE at hc
  split at hc
  · rename_i l r p
    simp only [Bool.and_eq_true, Bool.not_eq_true'] at hc
    refine ⟨rfl, (pe_ix ix_D (ha.pb g hc.1.2) (hi.pe g hc.2) (plainIx hc.1.1)).imp fun σ H Q ⟨F, ρ, r, o⟩ => ?_⟩
    exact ⟨F, ρ, r, Out.bind (f := fun x => (evE cl i ρ).bind fun y => idxD x y) o fun F1 H1 v d s1 y1 h1 => ⟨F1, ρ, r.step s1, Out.bind h1 fun F2 H2 w e s2 y2 h2 => ⟨F2, d, e, s2.s, y1.mono s2, .inl y2, h2.prim (idxD_ex d e)⟩⟩⟩
  · cases hc
theorem s_slLo {a l : E} (ha : IHE cl k xv a) (hl : IHE cl k xv l) : IHE cl k xv (.slLo a l) := by
  refine IHE.plain (fun _ => rfl) fun C Wn X g x hc => ?_
  unfold chkE at hc
  split at hc
  · simp only [Bool.and_eq_true] at hc
    refine ⟨rfl, (pe_slice sl_D (ha.pb g hc.1) (po_some (hl.pe g hc.2)) po_none).imp fun σ H Q ⟨F, ρ, r, o⟩ => ?_⟩
    refine ⟨F, ρ, r, Out.bind (f := fun x => (evE cl l ρ).bind fun y => (intD y).bind fun i => slD x (some i) none) o fun F1 H1 v d s1 y1 h1 => ⟨F1, ρ, r.step s1, Out.bind h1 fun F2 H2 w e s2 y2 h2 => ?_⟩⟩
    cases e <;> first
      | exact (show False from h2).elim
      | skip
    rename_i i
    cases y2
    exact ⟨i, rfl, F2, d, s2.s, y1.mono s2, h2.prim (slD_ex d _ _)⟩
  · cases hc
theorem s_slHi {a l : E} (ha : IHE cl k xv a) (hl : IHE cl k xv l) : IHE cl k xv (.slHi a l) := by
  refine IHE.plain (fun _ => rfl) fun C Wn X g x hc => ?_
  unfold chkE at hc
  split at hc
  · simp only [Bool.and_eq_true] at hc
    refine ⟨rfl, (pe_slice sl_D (ha.pb g hc.1) po_none (po_some (hl.pe g hc.2))).imp fun σ H Q ⟨F, ρ, r, o⟩ => ?_⟩
    refine ⟨F, ρ, r, Out.bind (f := fun x => (evE cl l ρ).bind fun y => (intD y).bind fun i => slD x none (some i)) o fun F1 H1 v d s1 y1 h1 => ⟨F1, ρ, r.step s1, Out.bind h1 fun F2 H2 w e s2 y2 h2 => ?_⟩⟩
    cases e <;> first
      | exact (show False from h2).elim
      | skip
    rename_i i
    cases y2
    exact ⟨i, rfl, F2, d, s2.s, y1.mono s2, h2.prim (slD_ex d _ _)⟩
  · cases hc
theorem s_slLH {a l h : E} (ha : IHE cl k xv a) (hl : IHE cl k xv l) (hh : IHE cl k xv h) : IHE cl k xv (.slLH a l h) := by
  refine IHE.plain (fun _ => rfl) fun C Wn X g x hc => ?_
  unfold chkE at hc
  split at hc
  · simp only [Bool.and_eq_true] at hc
    refine ⟨rfl, (pe_slice sl_D (ha.pb g hc.1.1) (po_some (hl.pe g hc.1.2)) (po_some (hh.pe g hc.2))).imp fun σ H Q ⟨F, ρ, r, o⟩ => ?_⟩
    refine ⟨F, ρ, r, Out.bind (f := fun x => (evE cl l ρ).bind fun y => (intD y).bind fun i => (evE cl h ρ).bind fun z => (intD z).bind fun j => slD x (some i) (some j)) o fun F1 H1 v d s1 y1 h1 => ⟨F1, ρ, r.step s1, Out.bind h1 fun F2 H2 w e s2 y2 h2 => ?_⟩⟩
    cases e <;> first
      | exact (show False from h2).elim
      | skip
    rename_i i
    cases y2
    refine ⟨i, rfl, F2, ρ, (r.step s1).step s2, Out.bind (r := evE cl h ρ) h2 fun F3 H3 w e s3 y3 h3 => ?_⟩
    cases e <;> first
      | exact (show False from h3).elim
      | skip
    rename_i j
    cases y3
    exact ⟨j, rfl, F3, d, s3.s, (y1.mono s2).mono s3, h3.prim (slD_ex d _ _)⟩
  · cases hc

theorem s_rev {a : E} (ha : IHE cl k xv a) : IHE cl k xv (.rev a) := by
  refine IHE.plain (fun _ => rfl) fun C Wn X g x hc => ?_
  unfold chkE at hc
  split at hc
  · simp only [Bool.and_eq_true, decide_eq_true_eq] at hc
    obtain ⟨hn, hc⟩ := hc
    subst hn
    refine ⟨rfl, (pe_revT (ha.pe g hc)).imp fun σ H Q ⟨F, ρ, r, o⟩ => ⟨F, ρ, r, Out.bind (f := fun x => revD x) o fun F1 H1 v d s1 y1 h1 => ?_⟩⟩
    cases d <;> first
      | exact (show False from h1).elim
      | skip
    rename_i ds
    have y2 : DB X.K F1 H1 v (.tup ds) := .inl y1
    obtain ⟨p, vs, rfl, q, qF, t⟩ := y2.tuple s1.s
    exact ⟨p, vs, rfl, q, fun p hp => h1 _ _ _ (Step.new s1.s hp) (dv_tup_new (s1.s.free hp) t.reverse)⟩
  · cases hc

/-! ### calls -/
/-- a def of the table is called -/
theorem run_f {C : SC} {Wn : WN} {X : Cx} (g : Good C cl Wn k xv X) {n : Str} {f : Nat} {a : Addr} {fd : FuncData} {ps : List Str} (bd : Binds X.K fd ps []) (ok : FnOk X.prog X.w X.K X.mg X.base (CX X.prog X.w) k a fd ps (spF X.K cl xv ps.length f))
    (l1 : ∀ ds d, cl f ds = .ok d → ds.length = ps.length) (l2 : ∀ ds c, cl f ds = .ex c → ds.length = ps.length) {pins : List (Addr × Obj)} {s : Shared} {σ : L2.St} {F H : Hp} {us : List Value} {vs : List V} {ds : List D} {Q : VK}
    (I : L2.Inv X pins σ H s) (rv : Vals vs us) (sb : Same F H) (y : DVs X.K F vs ds) (o : Out Wn F H σ (cl f ds) (YV X.K) Q) : wpAny (model X.prog X.w) X.A (call (.ref a) us) (EP X pins σ Q) X.xe s := by
  have hl : ds.length = ps.length := by
    cases q : cl f ds with
    | ok d => exact l1 ds d q
    | ex c => exact l2 ds c q
    | no => rw [q] at o; exact (show False from o).elim
  have hl2 : us.length = ps.length := by rw [← rv.length, y.length, hl]
  have sp : spF X.K cl xv ps.length f vs H Q (fun cls d H' => wx xv Wn cls d σ H') := by
    refine ⟨by rw [y.length, hl], F, ds, sb, y, ?_⟩
    cases q : cl f ds with
    | ok d => rw [q] at o; exact fun F' v H' s2 y2 => o F' H' v s2 y2
    | ex c => rw [q] at o; exact fun F' H' s2 => ⟨c, rfl, rfl, o F' H' s2⟩
    | no => rw [q] at o; exact o
  have bd2 := bd s us I.kIn (by rw [List.append_nil]; exact hl2)
  rw [List.append_nil] at bd2
  refine wpAny_call (codeAny_mono (ok.run X.A X.stack s H ⟨us, []⟩ us vs Q _ g.room I.env0 bd2 rv sp) fun r s' hq => ?_)
  cases r with
  | error e => exact g.pa σ pins H s e s' I hq
  | ok fl =>
    cases fl with
    | ret u => exact I.after hq
    | next => exact False.elim hq
    | brk => exact False.elim hq
    | cont => exact False.elim hq
theorem s_call (f : Nat) {es : List E} (h : IHS cl k xv es) : IHE cl k xv (.call f es) := by
  refine IHE.plain (fun _ => rfl) fun C Wn X g x hc => ?_
  unfold chkE at hc
  split at hc
  · rename_i n p xs pos
    simp only [Bool.and_eq_true, decide_eq_true_eq] at hc
    obtain ⟨⟨⟨c1, c2⟩, c3⟩, c4⟩ := hc
    obtain ⟨a, fd, ps, m1, kp, bd, ok, l1, l2⟩ := g.fns n f c3
    obtain ⟨q1, _⟩ := h C Wn X g xs c4
    refine ⟨rfl, ⟨fun pins s σ H Q I t => ?_⟩⟩
    obtain ⟨F, ρ, r, o⟩ := t
    refine wpAny_Call_Name_kw (ld_glob I (g.gl c1) m1 ?_ (nm_ok c2).1)
    have o : Out Wn F H σ ((evEs cl es ρ).bind fun ds => cl f ds) (YV X.K) Q := o
    cases xs with
    | nil =>
      cases es with
      | cons _ _ => cases c4
      | nil => exact PySem.W.callWith_K0 I.kIn kp (run_f g (n := n) bd ok l1 l2 (us := []) (vs := []) I .nil r.sub .nil o)
    | cons x xs =>
      have st := chkEs_star c4
      have he := starCons (st x List.mem_cons_self) xs X.env
      have hp := starNone (xs := xs) X.env pos fun y hy => st y (List.mem_cons_of_mem _ hy)
      have tq : tEs X.K cl Wn es σ H (fun vs H1 => ∃ F1 ds, Same F1 H1 ∧ DVs X.K F1 vs ds ∧ Out Wn F1 H1 σ (cl f ds) (YV X.K) Q) := ⟨F, ρ, r, Out.bind o fun F1 H1 vs ds s1 y1 o1 => ⟨F1, ds, s1.s, y1, o1⟩⟩
      refine PySem.W.callWith_K (h₀ := X.base) I.ok.mod.kin kp (thn (q1.run pos pins s σ H _ I tq) fun us s1 ⟨vs, H1, I1, rv, F1, ds, sb, y1, o1⟩ => ⟨I1.kIn, ?_⟩) he hp
      exact run_f g (n := n) bd ok l1 l2 I1 rv sb y1 o1
  · cases hc

/-! ### built-ins -/
theorem pr_fn {C : SC} {Wn : WN} {X : Cx} (g : Good C cl Wn k xv X) {p : Pr} {m : Str} {f : Value} (h : prFn p = some (m, f)) : CallR X f (rPN X.K (prD p)) ∧ bootBuiltins m = some f ∧ ((∃ id, f = .builtin id) ∨ ∃ T, f = .type T) := by
  cases p <;> first
    | (cases h; done)
    | skip
  all_goals (cases h)
  · exact ⟨pr_len, by decide +kernel, .inl ⟨_, rfl⟩⟩
  · exact ⟨pr_tuple, by decide +kernel, .inr ⟨_, rfl⟩⟩
  · exact ⟨pr_list, by decide +kernel, .inr ⟨_, rfl⟩⟩
  · exact ⟨pr_str, by decide +kernel, .inr ⟨_, rfl⟩⟩
  · exact ⟨pr_int, by decide +kernel, .inr ⟨_, rfl⟩⟩
  · exact ⟨pr_all g.calm, by decide +kernel, .inl ⟨_, rfl⟩⟩
  · exact ⟨pr_any g.calm, by decide +kernel, .inl ⟨_, rfl⟩⟩
  · exact ⟨pr_sum g.calm, by decide +kernel, .inl ⟨_, rfl⟩⟩
  · exact ⟨pr_abs, by decide +kernel, .inl ⟨_, rfl⟩⟩
  · exact ⟨pr_min2 g.calm, by decide +kernel, .inl ⟨_, rfl⟩⟩
  · exact ⟨pr_max2 g.calm, by decide +kernel, .inl ⟨_, rfl⟩⟩
theorem pr_mt {C : SC} {Wn : WN} {X : Cx} (g : Good C cl Wn k xv X) {p : Pr} {m : Str} {id : String} (h : prMt p = some (m, id)) : MtR X id (rPM X.K p) ∧ Slot "str" m id ∧ typeOf (.builtin id) = pure (.type "method_descriptor") := by
  cases p <;> first
    | (cases h; done)
    | skip
  all_goals (cases h)
  · exact ⟨pr_join, PySem.F.slot_str_join, PySem.F.type_str_join⟩
  · exact ⟨pr_lower, PySem.F.slot_str_lower, PySem.F.type_str_lower⟩
  · exact ⟨pr_upper, PySem.F.slot_str_upper, PySem.F.type_str_upper⟩
  · exact ⟨pr_split0, PySem.F.slot_str_split, PySem.F.type_str_split⟩
  · exact ⟨pr_split1, PySem.F.slot_str_split, PySem.F.type_str_split⟩
  · exact ⟨pr_partition, PySem.F.slot_str_partition, PySem.F.type_str_partition⟩
  · exact ⟨pr_find2, PySem.F.slot_str_find, PySem.F.type_str_find⟩
  · exact ⟨pr_sindex, PySem.F.slot_str_index, PySem.F.type_str_index⟩
  · exact ⟨pr_starts, PySem.F.slot_str_startswith, PySem.F.type_str_startswith⟩
  · exact ⟨pr_strip1, PySem.F.slot_str_strip, PySem.F.type_str_strip⟩
theorem bs_prim {Wn : WN} {K : PySem.W.Frag} {F H : Hp} {σ : L2.St} {ρ : MT.Env} {es : List E} {p : Pr} {Q : VK} (r : Rel K F ρ σ H) (o : Out Wn F H σ ((evBs cl es ρ).bind fun ds => prD p ds) (YV K) Q) : tCB (rPN K (prD p)) (tBs K cl Wn es) σ H Q :=
  ⟨F, ρ, r, Out.bind o fun F1 H1 vs ds s1 y1 o1 => ⟨F1, ds, s1.s, y1, o1.prim (prD_ex p ds)⟩⟩
theorem few_ok {xs : List Expr} (env : PySem.Env) (cp : Pos) (h : ∀ x ∈ xs, isStarX x = false) (hl : xs.length < 25) : ((backTo cp (starEach xs env)).all (fun x => !x.1) && (backToKw cp (keywordEach [] env)).all (fun x => x.1.isSome)
      && decide (xs.length + ([] : List Keyword).length + (if ([] : List Keyword).isEmpty then 0 else 1) < 30)) = true := by
  have e1 : (backTo cp (starEach xs env)).all (fun x => !x.1) = true := by
    have := starNone (xs := xs) env cp h
    rw [List.all_eq_not_any_not]
    simpa using this
  rw [e1]
  show (true && true && decide (xs.length + 0 + 0 < 30)) = true
  rw [decide_eq_true (by omega)]
  rfl
/-! ### isinstance -/
theorem kit_D (d : D) {T : String} (h : T = "bool" ∨ T = "int" ∨ T = "str" ∨ T = "tuple" ∨ T = "list") : kitB (tyName d) T = some (tyFlag d T) := by
  rcases h with rfl | rfl | rfl | rfl | rfl <;> cases d <;> (simp only [tyName, tyFlag]; decide +kernel)
theorem isTn_ok {t : Expr} {T : String} (h : isTn t = some T) : (∃ p, t = .Name (Str.ofString T) p) ∧ (T = "bool" ∨ T = "int" ∨ T = "str" ∨ T = "tuple" ∨ T = "list") ∧ bootBuiltins (Str.ofString T) = some (.type T) := by
  unfold isTn at h
  split at h
  · rename_i x p
    split at h
    · rename_i e; cases h; exact ⟨⟨p, by rw [eq_of_beq e]⟩, by simp, by decide +kernel⟩
    · split at h
      · rename_i e; cases h; exact ⟨⟨p, by rw [eq_of_beq e]⟩, by simp, by decide +kernel⟩
      · split at h
        · rename_i e; cases h; exact ⟨⟨p, by rw [eq_of_beq e]⟩, by simp, by decide +kernel⟩
        · split at h
          · rename_i e; cases h; exact ⟨⟨p, by rw [eq_of_beq e]⟩, by simp, by decide +kernel⟩
          · split at h
            · rename_i e; cases h; exact ⟨⟨p, by rw [eq_of_beq e]⟩, by simp, by decide +kernel⟩
            · cases h
  · cases h
theorem tyFl_ok {b i s t l : Bool} {T : String} (hT : T = "bool" ∨ T = "int" ∨ T = "str" ∨ T = "tuple" ∨ T = "list") (h : (b, i, s, t, l) = tyFl T) (d : D) : isTyD b i s t l d = tyFlag d T := by
  rcases hT with rfl | rfl | rfl | rfl | rfl <;> cases h <;> cases d <;> rfl
theorem s_isT {b i s t l : Bool} {e : E} (he : IHE cl k xv e) {C : SC} {Wn : WN} {X : Cx} (g : Good C cl Wn k xv X) {y ty : Expr} {pn pos : Pos} (hb : bltn C "isinstance" = true) (hy : isStarX y = false) (hc : chkE C e y = true) (ht : chkTy C (.isT b i s t l) ty = true) :
    PE X (.Call (.Name "isinstance" pn) [y, ty] [] pos) (tE X.K cl Wn (.pr (.isT b i s t l) [e])) := by
  obtain ⟨b1, b2, b3, b4⟩ := g.bl hb
  have boot : bootBuiltins "isinstance" = some (.builtin "isinstance") := by decide +kernel
  have star2 : isStarX ty = false := by
    cases ty <;> first
      | rfl
      | cases ht
  have key : ∀ {σ : L2.St} {H : Hp} {Q : VK}, tE X.K cl Wn (.pr (.isT b i s t l) [e]) σ H Q → tB X.K cl Wn e σ H fun x H1 => ∃ F d, Same F H1 ∧ DB X.K F H1 x d ∧ ((∀ xs, d ≠ .scr xs) ∧ ∀ kvs, d ≠ .dct kvs) ∧ OutP X.K F H1 (.ok (.bl (isTyD b i s t l d))) Q := fun {σ H Q} ⟨F, ρ, r, o⟩ => by
    refine ⟨F, ρ, r, Out.bind (f := fun d => ((R.ok []).bind fun ds => R.ok (d :: ds)).bind fun ds => prD (.isT b i s t l) ds) (Q := Q) (Z := YV X.K) ?_ fun F1 H1 v d s1 y1 o1 => ⟨F1, d, s1.s, y1, ⟨fun xs e => by subst e; exact o1, fun xs e => by subst e; exact o1⟩, (by cases d <;> first | exact o1 | exact (show False from o1).elim)⟩⟩
    have o : Out Wn F H σ (((bor ρ e (evE cl e ρ)).bind fun d => (R.ok []).bind fun ds => R.ok (d :: ds)).bind fun ds => prD (.isT b i s t l) ds) (YV X.K) Q := o
    cases q : bor ρ e (evE cl e ρ) with
    | ok d => rw [q] at o; exact o
    | ex c => rw [q] at o; exact o
    | no => rw [q] at o; exact o
  by_cases htup : ∃ t1 t2 kk pp, ty = .Tuple [t1, t2] kk pp
  · obtain ⟨t1, t2, kk, pp, rfl⟩ := htup
    unfold chkTy at ht
    simp only at ht
    cases q1 : isTn t1 with
    | none => rw [q1] at ht; cases ht
    | some m =>
      cases q2 : isTn t2 with
      | none => rw [q1, q2] at ht; cases ht
      | some n =>
        rw [q1, q2] at ht
        simp only [Bool.and_eq_true, beq_iff_eq, Bool.not_eq_true'] at ht
        obtain ⟨⟨⟨⟨⟨⟨⟨⟨c1, c2⟩, rfl⟩, rfl⟩, rfl⟩, rfl⟩, rfl⟩, rfl⟩, rfl⟩ := ht
        obtain ⟨⟨p1, rfl⟩, _, bo1⟩ := isTn_ok q1
        obtain ⟨⟨p2, rfl⟩, _, bo2⟩ := isTn_ok q2
        obtain ⟨d1, d2, d3, d4⟩ := g.bl (x := "int") c1
        obtain ⟨e1, e2, e3, e4⟩ := g.bl (x := "str") c2
        have hA := pa_cons (he.pb g hc) (pa_cons (pe_tup (x1 := kk) (pos := pp) (pa_cons (pe_bltn (v := .ty "int") (pos := p1) d1 d2 bo1 rfl d3 d4) (pa_cons (pe_bltn (v := .ty "str") (pos := p2) e1 e2 bo2 rfl e3 e4) pa_nil))) pa_nil) (starCons hy _ X.env)
        refine (pe_callB (pos := pos) (p := pn) call_isiT b1 b2 boot hA b3 b4 (starCons hy _ X.env) (starNone X.env pos (by intro z hz; simp at hz; subst hz; rfl))).imp fun σ H Q t => ?_
        refine (?_ : tB X.K cl Wn e σ H _)
        obtain ⟨F, ρ, r, o⟩ := key t
        refine ⟨F, ρ, r, ?_⟩
        cases q : bor ρ e (evE cl e ρ) with
        | no => rw [q] at o; exact o
        | ex c => rw [q] at o; exact o
        | ok d =>
          rw [q] at o
          intro F1 H1 v s1 y1
          obtain ⟨F2, d2, sb, db, nd, o2⟩ := o F1 H1 v s1 y1
          refine ⟨by show 2 ≤ sizeLine; decide, fun tp htp => ?_⟩
          have db' := db.mono (Step.new (o := .tup [V.ty "int", V.ty "str"]) sb htp)
          have sb' : Same (upd F2 tp (.tup [V.ty "int", V.ty "str"])) (upd H1 tp (.tup [V.ty "int", V.ty "str"])) := same_upd2 sb
          refine ⟨v, tp, [.ty "int", .ty "str"], .type (tyName d2), [.type "int", .type "str"], isTyD false true true false false d2, rfl, upd_same, .cons (.ty _) (.cons (.ty _) .nil), ty_of nd.1 nd.2 sb' db', ?_, ?_⟩
          · have k1 := kit_ty (K := X.K) (kit_D d2 (T := "int") (by simp))
            have k2 := kit_ty (K := X.K) (kit_D d2 (T := "str") (by simp))
            refine kitAny_cons (b := tyFlag d2 "int") k1 (fun h1 => kitAny_cons (b := tyFlag d2 "str") k2 (fun h2 => ?_) (fun h2 => ?_)) (fun h1 => ?_)
            · cases d2 <;> first | (cases h1; done) | (cases h2; done) | rfl
            · cases d2 <;> first | (cases h1; done) | (cases h2; done) | rfl
            · cases d2 <;> first | (cases h1; done) | rfl
          · exact o2 _ _ _ (Step.new sb htp) (.bl _)
  · have ht : (match isTn ty with
      | some n => bltn C (nameX ty) && decide ((b, i, s, t, l) = tyFl n)
      | none => false) = true := by
      unfold chkTy at ht
      simp only at ht
      split at ht
      · exact absurd ⟨_, _, _, _, rfl⟩ htup
      · exact ht
    cases q1 : isTn ty with
    | none => rw [q1] at ht; cases ht
    | some T =>
      rw [q1] at ht
      simp only [Bool.and_eq_true, decide_eq_true_eq] at ht
      obtain ⟨⟨p1, rfl⟩, hT, bo1⟩ := isTn_ok q1
      obtain ⟨d1, d2, d3, d4⟩ := g.bl (x := Str.ofString T) ht.1
      have hA := pa_cons (he.pb g hc) (pa_cons (pe_bltn (v := .ty T) (pos := p1) d1 d2 bo1 rfl d3 d4) pa_nil) (starCons hy _ X.env)
      refine (pe_callB (pos := pos) (p := pn) call_isi b1 b2 boot hA b3 b4 (starCons hy _ X.env) (starNone X.env pos (by intro z hz; simp at hz; subst hz; rfl))).imp fun σ H Q t' => ?_
      refine (?_ : tB X.K cl Wn e σ H _)
      obtain ⟨F, ρ, r, o⟩ := key t'
      refine ⟨F, ρ, r, ?_⟩
      cases q : bor ρ e (evE cl e ρ) with
      | no => rw [q] at o; exact o
      | ex c => rw [q] at o; exact o
      | ok d =>
        rw [q] at o
        intro F1 H1 v s1 y1
        obtain ⟨F2, d2, sb, db, nd, o2⟩ := o F1 H1 v s1 y1
        refine ⟨v, .ty T, .type (tyName d2), .type T, tyFlag d2 T, rfl, .ty _, ty_of nd.1 nd.2 sb db, kit_ty (kit_D d2 hT), ?_⟩
        rw [← tyFl_ok hT ht.2 d2]
        exact o2.here sb (.bl _)
theorem nodupS_ok : ∀ {ys : List (List Nat)}, nodupS ys = true → (ys.map mkS).Nodup
  | [], _ => List.nodup_nil
  | y :: ys, h => by
    have h : (!ys.contains y && nodupS ys) = true := h
    simp only [Bool.and_eq_true, Bool.not_eq_true'] at h
    refine List.nodup_cons.mpr ⟨fun m => ?_, nodupS_ok h.2⟩
    obtain ⟨z, hz, e⟩ := List.mem_map.mp m
    have e : (⟨z.toArray⟩ : Str) = ⟨y.toArray⟩ := e
    have : z = y := by simpa using e
    subst this
    rw [List.contains_iff_mem.mpr hz] at h
    exact nomatch h.1
theorem s_lenset {e : E} (he : IHE cl k xv e) {C : SC} {Wn : WN} {X : Cx} (g : Good C cl Wn k xv X) {y : Expr} {pn pm qm pos : Pos} (hb : bltn C "len" = true) (hb2 : bltn C "set" = true) (hy : isStarX y = false) (hc : chkE C e y = true) :
    PE X (.Call (.Name "len" pn) [.Call (.Name "set" pm) [y] [] qm] [] pos) (tE X.K cl Wn (.pr .lenset [e])) := by
  obtain ⟨b1, b2, b3, b4⟩ := g.bl hb
  obtain ⟨d1, d2, d3, d4⟩ := g.bl hb2
  refine (pe_lenN (p := pn) (p2 := pm) (q := qm) (pos := pos) g.calm b1 b2 d1 d2 (he.pb g hc) (starCons hy [] X.env)).imp fun σ H Q ⟨F, ρ, r, o⟩ => ?_
  refine ⟨F, ρ, r, Out.bind (f := fun d => ((R.ok []).bind fun ds => R.ok (d :: ds)).bind fun ds => prD .lenset ds) (Q := Q) (Z := YV X.K) ?_ fun F1 H1 v d s1 y1 o1 => ?_⟩
  · have o : Out Wn F H σ (((bor ρ e (evE cl e ρ)).bind fun d => (R.ok []).bind fun ds => R.ok (d :: ds)).bind fun ds => prD .lenset ds) (YV X.K) Q := o
    cases q : bor ρ e (evE cl e ρ) with
    | ok d => rw [q] at o; exact o
    | ex c => rw [q] at o; exact o
    | no => rw [q] at o; exact o
  · cases d <;> first
      | exact (show False from o1).elim
      | skip
    rename_i ds
    have o1 : Out Wn F1 H1 σ (prD .lenset [.tup ds]) (YV X.K) Q := o1
    have o2 := o1.prim (prD_ex .lenset [.tup ds])
    obtain ⟨ys, ey, o2⟩ := OutP.ofO o2
    obtain ⟨hz, o2⟩ := OutP.guard o2
    simp only [Bool.and_eq_true, decide_eq_true_eq] at hz
    obtain ⟨p, vs, rfl, q, qF, t⟩ := y1.tuple s1.s
    rw [strs_of ey t] at q
    refine ⟨p, ys.map mkS, rfl, q, nodupS_ok hz.1, by rw [List.length_map]; exact hz.2, ?_⟩
    rw [List.length_map]
    exact o2.here s1.s (.int _)
theorem s_pr (p : Pr) {es : List E} (h : IHS cl k xv es) (hh : ∀ e ∈ es, IHE cl k xv e) : IHE cl k xv (.pr p es) := by
  refine IHE.plain (fun _ => rfl) fun C Wn X g x hc => ?_
  unfold chkE at hc
  split at hc
  · rename_i n pn xs pos
    refine ⟨rfl, ?_⟩
    split at hc
    · rename_i m f q
      simp only [Bool.and_eq_true, decide_eq_true_eq] at hc
      obtain ⟨⟨⟨rfl, c1⟩, c2⟩, c3⟩ := hc
      obtain ⟨hf, bo, kd⟩ := pr_fn g q
      obtain ⟨b1, b2, b3, b4⟩ := g.bl c1
      cases xs with
      | nil =>
        cases es with
        | nil => cases c2
        | cons _ _ => cases c3
      | cons x xs =>
        have st := chkEs_star c3
        have he := starCons (st x List.mem_cons_self) xs X.env
        have hp := starNone (xs := xs) X.env pos fun y hy => st y (List.mem_cons_of_mem _ hy)
        rcases kd with ⟨id, rfl⟩ | ⟨T, rfl⟩
        · exact (pe_callB hf b1 b2 bo (h C Wn X g _ c3).2 b3 b4 he hp).imp fun σ H Q ⟨F, ρ, r, o⟩ => bs_prim r o
        · exact (pe_callTy hf b1 b2 bo (h C Wn X g _ c3).2 b3 b4 he hp).imp fun σ H Q ⟨F, ρ, r, o⟩ => bs_prim r o
    · split at hc
      · rename_i b i s t l e y ty q
        simp only [Bool.and_eq_true, decide_eq_true_eq, Bool.not_eq_true'] at hc
        obtain ⟨⟨⟨⟨rfl, c1⟩, c2⟩, c3⟩, c4⟩ := hc
        exact s_isT (hh e List.mem_cons_self) g c1 c2 c3 c4
      · simp only [Bool.and_eq_true, decide_eq_true_eq, Bool.not_eq_true'] at hc
        obtain ⟨⟨⟨⟨⟨rfl, c1⟩, rfl⟩, c2⟩, c3⟩, c4⟩ := hc
        exact s_lenset (hh _ List.mem_cons_self) g c1 c2 c3 c4
      · cases hc
  · rename_i n pn y kw z kp pos
    refine ⟨rfl, ?_⟩
    split at hc
    · rename_i m id e f q
      simp only [Bool.and_eq_true, decide_eq_true_eq, Bool.not_eq_true'] at hc
      obtain ⟨⟨⟨⟨⟨rfl, c1⟩, rfl⟩, c2⟩, c3⟩, c4⟩ := hc
      obtain ⟨b1, b2, b3, b4⟩ := g.bl c1
      have hE := (hh e List.mem_cons_self).pb g c3
      have hF := (hh f (by simp)).pb g c4
      have rule : ∃ id, CallRK X (.builtin id) [Str.ofString "default"] (rPK X.K p) ∧ bootBuiltins n = some (.builtin id) := by
        cases p <;> first
          | (cases q; done)
          | skip
        all_goals (cases q)
        · exact ⟨_, pr_minD g.calm g.units, by decide +kernel⟩
        · exact ⟨_, pr_maxD g.calm g.units, by decide +kernel⟩
      obtain ⟨id, hr, bo⟩ := rule
      have e1 : starEach [y] X.env = (false, eval y X.env) :: starEach [] X.env := starCons c2 [] X.env
      refine (pe_callBK (p := pn) (pos := pos) hr b1 b2 bo (pa_cons hE pa_nil e1) (pk_cons (nm := some (Str.ofString "default")) (kpos := kp) hF pk_nil) b3 b4 (by rw [e1]; rfl) (by rw [e1]; rfl) rfl rfl rfl).imp fun σ H Q ⟨F, ρ, r, o⟩ => ?_
      have o : Out Wn F H σ (((bor ρ e (evE cl e ρ)).bind fun d => ((bor ρ f (evE cl f ρ)).bind fun d => (R.ok []).bind fun ds => R.ok (d :: ds)).bind fun ds => R.ok (d :: ds)).bind fun ds => prD p ds) (YV X.K) Q := o
      have o2 : Out Wn F H σ ((bor ρ e (evE cl e ρ)).bind fun d => (bor ρ f (evE cl f ρ)).bind fun d2 => prD p [d, d2]) (YV X.K) Q := by
        cases q1 : bor ρ e (evE cl e ρ) with
        | no => rw [q1] at o; exact o
        | ex c => rw [q1] at o; exact o
        | ok d =>
          rw [q1] at o
          cases q2 : bor ρ f (evE cl f ρ) with
          | no => simp only [q2] at o; exact o
          | ex c => simp only [q2] at o; exact o
          | ok ds => simp only [q2] at o; exact o
      refine ⟨F, ρ, r, Out.bind o2 fun F1 H1 v d s1 y1 o1 => ⟨F1, ρ, r.step s1, Out.bind o1 fun F2 H2 w d2 s2 y2 o3 => ⟨F2, [d], [d2], s2.s, .cons (y1.mono s2) .nil, .cons y2 .nil, rfl, o3.prim (prD_ex p _)⟩⟩⟩
    · cases hc
  · cases hc
theorem s_me (p : Pr) {e : E} {es : List E} (he : IHE cl k xv e) (hs : IHS cl k xv es) : IHE cl k xv (.me p e es) := by
  refine IHE.plain (fun _ => rfl) fun C Wn X g x hc => ?_
  unfold chkE at hc
  split at hc
  · rename_i o nm ap xs cp
    refine ⟨rfl, ?_⟩
    split at hc
    · rename_i m id q
      simp only [Bool.and_eq_true, decide_eq_true_eq, Bool.not_eq_true'] at hc
      obtain ⟨⟨⟨⟨⟨rfl, c1⟩, c2⟩, c3⟩, c4⟩, c5⟩ := hc
      obtain ⟨hm, slot, ty⟩ := pr_mt g q
      have st := chkEs_star c5
      have ho := he.pb g c4
      have ht := (hs C Wn X g xs c5).2
      have fin : ∀ {σ : L2.St} {H : Hp} {Q : VK}, tE X.K cl Wn (.me p e es) σ H Q → tB X.K cl Wn e σ H fun x H1 => tyV X.K "str" x H1 ∧ tBs X.K cl Wn es σ H1 fun ws H2 => rPM X.K p x ws H2 Q := fun {σ H Q} ⟨F, ρ, r, o⟩ => by
        refine ⟨F, ρ, r, Out.bind (f := fun x => strK ((evBs cl es ρ).bind fun ds => prD p (x :: ds)) x) o fun F1 H1 v d s1 y1 o1 => ?_⟩
        cases d <;> first
          | exact (show False from o1).elim
          | skip
        rename_i t
        rw [y1.str]
        exact ⟨rfl, F1, ρ, r.step s1, Out.bind (r := evBs cl es ρ) o1 fun F2 H2 ws ds s2 y2 o3 => ⟨F2, t, ds, s2.s, rfl, y2, o3.prim (prD_ex p _)⟩⟩
      cases xs with
      | nil =>
        have e0 : es = [] := List.eq_nil_of_length_eq_zero (chkEs_len c5)
        subst e0
        refine (pe_bm0 PySem.F.plainAttrs_str slot ty hm ho (attrBase c1 _ _ _) c2).imp fun σ H Q t => ?_
        obtain ⟨F, ρ, r, o⟩ := fin t
        refine ⟨F, ρ, r, ?_⟩
        cases q : bor ρ e (evE cl e ρ) with
        | no => rw [q] at o; exact o
        | ex c => rw [q] at o; exact o
        | ok d =>
          rw [q] at o
          intro F1 H1 v s1 y1
          obtain ⟨h1, F2, ρ2, r2, o2⟩ := o F1 H1 v s1 y1
          exact ⟨h1, o2 F2 H1 [] (Step.refl r2.sub) .nil⟩
      | cons x xs =>
        exact (pe_bm PySem.F.plainAttrs_str slot ty hm ho ht (attrBase c1 _ _ _) (few_ok X.env cp st c3) c2 (starCons (st x List.mem_cons_self) xs X.env) (starNone X.env cp fun y hy => st y (List.mem_cons_of_mem _ hy))).imp fun σ H Q t => fin t
    · cases hc
  · cases hc
/-! ### one's own dict, by pairs of numbers -/
theorem getDT_val (kvs : List (List Int × Int)) (k : List Int) : valV (dKV kvs) (k.map Sum.inl : List L2.Key) = (getDT kvs k).map V.int := by
  induction kvs with
  | nil => rfl
  | cons p r ih =>
    have inj : (p.1.map Sum.inl : List L2.Key) = k.map Sum.inl ↔ p.1 = k := ⟨fun h => List.map_inj_right (fun _ _ h => Sum.inl.inj h) |>.mp h, fun h => by rw [h]⟩
    show valV ((p.1.map Sum.inl, V.int p.2) :: dKV r) _ = _
    by_cases h : p.1 = k
    · rw [valV_pos (inj.mpr h)]
      unfold getDT
      rw [List.find?_cons_of_pos (by simpa using h)]
      rfl
    · rw [valV_neg (fun e => h (inj.mp e)), ih]
      unfold getDT
      rw [List.find?_cons_of_neg (by simpa using h)]
theorem putDT_put (kvs : List (List Int × Int)) (k : List Int) (n : Int) : putK (dKV kvs) (k.map Sum.inl : List L2.Key) (V.int n) = dKV (putDT kvs k n) := by
  have inj : ∀ p : List Int, (p.map Sum.inl : List L2.Key) = k.map Sum.inl ↔ p = k := fun p => ⟨fun h => List.map_inj_right (fun _ _ h => Sum.inl.inj h) |>.mp h, fun h => by rw [h]⟩
  have an : ((dKV kvs).any fun kv => decide (kv.1 = (k.map Sum.inl : List L2.Key))) = kvs.any fun kv => decide (kv.1 = k) := by
    unfold dKV
    rw [List.any_map]
    congr 1
    funext p
    show decide (p.1.map Sum.inl = k.map Sum.inl) = decide (p.1 = k)
    rw [decide_eq_decide]
    exact inj p.1
  unfold putK putDT
  rw [an]
  by_cases h : (kvs.any fun kv => decide (kv.1 = k)) = true
  · rw [if_pos h, if_pos h]
    unfold dKV
    rw [List.map_map, List.map_map]
    congr 1
    funext p
    show (if (p.1.map Sum.inl : List L2.Key) = k.map Sum.inl then (p.1.map Sum.inl, V.int n) else (p.1.map Sum.inl, V.int p.2)) = _
    by_cases e : p.1 = k
    · rw [if_pos ((inj p.1).mpr e)]
      show _ = ((if p.1 = k then (p.1, n) else p).1.map Sum.inl, V.int (if p.1 = k then (p.1, n) else p).2)
      rw [if_pos e]
    · rw [if_neg (fun q => e ((inj p.1).mp q))]
      show _ = ((if p.1 = k then (p.1, n) else p).1.map Sum.inl, V.int (if p.1 = k then (p.1, n) else p).2)
      rw [if_neg e]
  · rw [if_neg h, if_neg h]
    unfold dKV
    rw [List.map_append]
    rfl
theorem keyD_vs {K : PySem.W.Frag} {F : Hp} {ds : List D} {vs : List V} {key : List Int} (h : keyD (.tup ds) = some key) (y : DVs K F vs ds) : vs = (key.map Sum.inl : List L2.Key).map kV := by
  unfold keyD at h
  split at h
  · rename_i i j e
    cases e
    cases h
    cases y with
    | cons a y =>
      cases y with
      | cons b y =>
        cases y
        rw [a.iInv, b.iInv]
        rfl
  · cases h
/-- the dict that a slot tells -/
theorem rdKB_rd {K : PySem.W.Frag} {F H : Hp} {ρ : MT.Env} {σ : L2.St} {i : Nat} {kvs : List (List Int × Int)} (r : Rel K F ρ σ H) (h : rdKB ρ i = .ok kvs) : ∃ a, σ[i]? = some (some (.ref a)) ∧ Rd H a (.dT (dKV kvs)) := by
  unfold rdKB at h
  split at h
  · rename_i kvs' e
    cases h
    obtain ⟨a, ho, e1, _, e3, e4, _⟩ := r.obj i none _ e
    have e4 : ho = .dT (dKV kvs) := e4
    subst e4
    exact ⟨a, e1, .inl e3⟩
  · rename_i kvs' e
    cases h
    obtain ⟨v, e1, y⟩ := r.val i _ e
    cases y with
    | dct q => exact ⟨_, e1, rd_mono r.sub q⟩
  · cases h
theorem dgtD_ex (kvs : List (List Int × Int)) (d : D) (c : Nat) : dgtD kvs d ≠ .ex c := by
  unfold dgtD
  split <;> exact fun h => nomatch h
theorem rdKB_ex (ρ : MT.Env) (i c : Nat) : rdKB ρ i ≠ .ex c := by
  unfold rdKB
  split <;> exact fun h => nomatch h
theorem s_dgt {i : Nat} {es : List E} (hs : IHS cl k xv es) : IHE cl k xv (.dgt i es) := by
  refine IHE.plain (fun _ => rfl) fun C Wn X g x hc => ?_
  unfold chkE at hc
  split at hc
  · rename_i y p xs kk pp pos
    simp only [Bool.and_eq_true, decide_eq_true_eq] at hc
    obtain ⟨⟨⟨⟨c1, c2⟩, c3⟩, c4⟩, c5⟩ := hc
    have ho : PE X (.Name y p) (tVar i) := s_var g (by simp only [Bool.and_eq_true, decide_eq_true_eq]; exact ⟨⟨c1, c2⟩, c3⟩)
    refine ⟨rfl, (pe_dget (by have := g.units; omega) ho (pe_tup (x1 := kk) (pos := pp) (hs C Wn X g xs c4).1) (plainIx rfl)).imp fun σ H Q ⟨F, ρ, r, o⟩ => ?_⟩
    have o : Out Wn F H σ ((rdKB ρ i).bind fun kvs => (evEs cl es ρ).bind fun ds => dgtD kvs (.tup ds)) (YV X.K) Q := o
    cases q : rdKB ρ i with
    | no => rw [q] at o; exact (show False from o).elim
    | ex c => exact absurd q (rdKB_ex _ _ _)
    | ok kvs =>
      rw [q] at o
      obtain ⟨a, e1, rd⟩ := rdKB_rd r q
      refine ⟨.ref a, e1, F, ρ, r, Out.bindE (f := fun ds => dgtD kvs (.tup ds)) o fun F1 H1 vs ds eq s1 y1 o1 => ?_⟩
      have hl : vs.length ≤ sizeLine := by
        rw [y1.length, evEs_len eq, chkEs_len c4, c5]
        decide
      refine ⟨hl, fun b hb => ?_⟩
      cases q2 : keyD (.tup ds) with
      | none =>
        have o1 : Out Wn F1 H1 σ (match (keyD (.tup ds)).bind (getDT kvs) with
          | some n => R.ok (D.int n)
          | none => R.no) (YV X.K) Q := o1
        rw [q2] at o1
        exact (show False from o1).elim
      | some key =>
        have o1 : Out Wn F1 H1 σ (match (keyD (.tup ds)).bind (getDT kvs) with
          | some n => R.ok (D.int n)
          | none => R.no) (YV X.K) Q := o1
        rw [q2, Option.bind_some] at o1
        cases q3 : getDT kvs key with
        | none => rw [q3] at o1; exact (show False from o1).elim
        | some n =>
          rw [q3] at o1
          have ek := keyD_vs q2 y1
          have st := (Step.new (o := .tup vs) s1.s hb)
          refine ⟨a, .int n, rfl, ?_, o1 _ _ _ st (.int n)⟩
          have eb : upd H1 b (.tup vs) b = some (.tup ((key.map Sum.inl : List L2.Key).map kV)) := by rw [upd_same, ek]
          exact .inr ⟨dKV kvs, (key.map Sum.inl : List L2.Key), b, rd_mono st.h (rd_mono s1.h rd), rfl, eb, by rw [getDT_val, q3]; rfl⟩
  · cases hc
end
end MT
namespace MT
open PySem L2
/-! ### enumerate(tuple) -/
theorem meets_enum1 {v : Value} {o : Obj} {Hc : Heap → Prop} (B : Begins v o Hc) :
    Meets (Builtin.«enumerate.__new__» ⟨[.type "enumerate", v], []⟩) (fun _ R s => Hc s.heap ∧
      R (.ok (.ret (.ref (s.heap.push o).objs.size))) { s with heap := (s.heap.push o).push { cls := .type "enumerate", data := .fields #[.none, .bool false, .ref s.heap.objs.size, rawInt 0, .none, .none] } }) :=
  .of_wp fun prog w A R s h => by
    obtain ⟨hp, g, d, tk, os⟩ := s
    obtain ⟨h1, h⟩ := h
    have hsub := sub_enumerate
    have it0 : ∀ {A' : Around} {E : Value → Shared → Prop} {Q : Value → Shared → Prop}, Q (.ref hp.objs.size) ⟨hp.push o, g, d, tk, os⟩ → wpAny (model prog w) A' (pyIter v) Q E ⟨hp, g, d, tk, os⟩ :=
      fun q => B.iter prog w _ _ ⟨hp, g, d, tk, os⟩ _ h1 q
    wp_walk using it0
    refine wpAny_stack_any fun st => wpAny_pure ?_
    split
    · rename_i c _ _ _ _ _
      cases (c == Value.type "enumerate")
      · wp_walk using it0
        exact ⟨_, rfl, h⟩
      · wp_walk using it0
        exact ⟨_, rfl, h⟩
    · wp_walk using it0
      exact ⟨_, rfl, h⟩
theorem enum_begins1 {prog : Program} {w : World} {A : Around} {E : Value → Shared → Prop} {s : Shared} {v : Value} {o : Obj} {Hc : Heap → Prop} {Q : Value → Shared → Prop} (B : Begins v o Hc) (h1 : Hc s.heap)
    (h : ∀ h', IsEnum h' (s.heap.objs.size + 1) s.heap.objs.size 0 .none → h'.get? s.heap.objs.size = some o → h'.objs.size = s.heap.objs.size + 2 →
      (∀ b o, s.heap.get? b = some o → h'.get? b = some o) → Q (.ref (s.heap.objs.size + 1)) { s with heap := h' }) :
    wpAny (model prog w) A (call (.type "enumerate") [v]) Q E s := by
  refine callType_new F.called_enumerate (by decide) (F.typeCall_enumerate_1 _) (F.newCall_enumerate_1 _) (fun obj => F.args_object_init_2 obj _) F.entry_enumerate_new (meets_enum1 B) ⟨h1, ?_⟩
  have sz : (s.heap.push o).objs.size = s.heap.objs.size + 1 := Heap.size_push ..
  show _ ∧ _
  rw [sz]
  have at_ : ((s.heap.push o).push { cls := .type "enumerate", data := .fields #[.none, .bool false, .ref s.heap.objs.size, rawInt 0, .none, .none] }).get? (s.heap.objs.size + 1) = some { cls := .type "enumerate", data := .fields #[.none, .bool false, .ref s.heap.objs.size, rawInt 0, .none, .none] } := by
    have z := Heap.get?_push_size (s.heap.push o) (o := { cls := .type "enumerate", data := .fields #[.none, .bool false, .ref s.heap.objs.size, rawInt 0, .none, .none] }) rfl
    rw [sz] at z
    exact z
  exact ⟨⟨_, at_, rfl⟩, h _ at_ (Heap.get?_push_of_some _ (Heap.get?_push_size _ B.free)) (by rw [Heap.size_push, sz]) fun b o x => Heap.get?_push_of_some _ (Heap.get?_push_of_some _ x)⟩
/-- the tuple at a, each item in a new pair -/
def IteT (K : PySem.W.Frag) (a : Addr) : It :=
  ⟨fun i H => ∃ (zs : List V) (z : V), SqT K H a zs ∧ zs[i]? = some z, fun i H v H' => ∃ T z, v = .ref T ∧ H T = none ∧ H' = upd H T (.tup [.int (i : Nat), z]) ∧ ∀ zs, SqT K H a zs → zs[i]? = some z, fun i H => ∃ zs : List V, SqT K H a zs ∧ zs.length = i⟩
theorem turn_enumT {P : Program} {w : World} {K : PySem.W.Frag} {elts : List Expr} {kk : Nat} {tpos : Pos} (a e it : Addr) (hai : a ≠ it) (hae : a ≠ e) :
    Turn P w K (.Tuple elts kk tpos) (IteT K a) [e, it] e (fun i h => (∃ old, IsEnum h e it ((i : Nat) : Int) old) ∧ h.IsTupleIter it a i ∧ e ≠ it) where
  mem := by simp
  obj := fun i h st b hb => by
    obtain ⟨⟨old, he⟩, ⟨o, ho, hc, hd⟩, _⟩ := st
    rcases (by simpa using hb : b = e ∨ b = it) with rfl | rfl
    · exact ⟨_, he, fun v q => nomatch q⟩
    · exact ⟨o, ho, fun v q => by rw [hd] at q; cases q⟩
  keep := fun i h h' st kp => by
    obtain ⟨⟨old, he⟩, hi, ne⟩ := st
    exact ⟨⟨old, kp e (by simp) _ he⟩, hi.at fun o q => kp it (by simp) o q, ne⟩
  item := by
    intro X hP hw hK hc i pins s σ H E J hf st hg
    subst hP hw hK
    obtain ⟨⟨old, he⟩, hit, hne⟩ := st
    obtain ⟨zs, z, hq, hz⟩ := hg
    obtain ⟨its, rv, p, _⟩ := J.tuple hq
    obtain ⟨u, hu, ru⟩ := rv.get hz
    have hel : e < s.heap.objs.size := Heap.lt_size he
    have hil : it < s.heap.objs.size := by obtain ⟨_, q, _⟩ := hit; exact Heap.lt_size q
    have ti : s.heap.IsTuple a its.toArray := p
    have lt : i < its.toArray.size := by
      have := (List.getElem?_eq_some_iff.mp hu).1
      simpa using this
    have D := Draws.tuple (prog := X.prog) (w := X.w) (A := X.A.in1) (J.ok.hd hc) it a hai its.toArray
    refine wpAny_pyNext_enum_itemD D he ⟨hit, ti⟩ lt hne (by simp [hne, Ne.symm hae]) fun x h' tk hx ho hit' hT hsz hk => ?_
    have ex : x = u := by
      have h1 : its.toArray[i]? = some x := hx
      have h2 : its.toArray[i]? = some u := by simpa using hu
      exact Option.some.inj (h1.symm.trans h2)
    subst ex
    refine ⟨_, rfl, wpAny_letOwnedTupleGo_enum (s := { s with heap := h', toks := tk + 1 }) ho fun h'' he' sb => ?_⟩
    have hT2 : h''.get? s.heap.objs.size = some { cls := .type "tuple", data := .seq #[.int i tk, x] } := (sb.2 _ (Nat.ne_of_gt hel)).trans hT
    have new : ObjOk X.prog X.w (upd H s.heap.objs.size (.tup [.int (i : Nat), z])) h'' s.heap.objs.size (.tup [.int (i : Nat), z]) :=
      ⟨by show 2 ≤ sizeLine; decide, [.int i tk, x], .cons ⟨_, rfl⟩ (.cons ru .nil), ⟨_, hT2, rfl, _, rfl⟩⟩
    have J1 : L2.Inv X pins σ (upd H s.heap.objs.size (.tup [.int (i : Nat), z])) { s with heap := h'', toks := tk + 1 } :=
      J.turnedNew (ch := [e, it]) (fun b ob hb q => (sb.2 b (fun y => hb (by simp [y]))).trans (hk b ob (fun y => hb (by simp [y])) (fun y => hb (by simp [y])) q)) hf (Nat.le_refl _) new
    refine ⟨.ref s.heap.objs.size, _, J1, rfl, ⟨_, z, rfl, J.hok.fresh (Nat.le_refl _), rfl, fun ys hy => by rw [J.tuple_inj hy hq]; exact hz⟩, ⟨⟨x, ?_⟩, hit'.1.at fun o q => (sb.2 it (Ne.symm hne)).trans q, hne⟩, fun b hb => ?_⟩
    · have e1 : ((i + 1 : Nat) : Int) = (i : Int) + 1 := by omega
      rw [e1]; exact he'
    · have lb : b < s.heap.objs.size := by
        rcases (by simpa using hb : b = e ∨ b = it) with rfl | rfl
        · exact hel
        · exact hil
      rw [upd_ne (Nat.ne_of_lt lb)]
      exact (hf b hb).1
  done := by
    intro X hP hw hK hc i pins s σ H E J hf st hg
    subst hP hw hK
    obtain ⟨⟨old, he⟩, hit, hne⟩ := st
    obtain ⟨zs, hq, hz⟩ := hg
    obtain ⟨its, rv, p, _⟩ := J.tuple hq
    have ti : s.heap.IsTuple a its.toArray := p
    have len := rv.length
    have D := Draws.tuple (prog := X.prog) (w := X.w) (A := X.A.in1) (J.ok.hd hc) it a hai its.toArray
    have ei : i = its.toArray.size := by simp; omega
    obtain ⟨f0, f1, f2, f3, f4, f5⟩ := hf it (by simp)
    refine wpAny_pyNext_enum_endD D he (by rw [← ei]; exact ⟨hit, ti⟩) fun h' eb => ⟨rfl, J.turned (t' := s.toks) (fun b o hb q => eb b o hb q) f0 f1 f3 f4 f5⟩
  self := fun A i s Q E st h => by
    obtain ⟨⟨_, he⟩, _⟩ := st
    exact wpAny_pyIter_enum he h
def iEnumT (K : PySem.W.Frag) (ta : TA) : TI := fun σ H R => ta σ H fun vs H1 => ∃ a zs, vs = [.ref a] ∧ SqT K H1 a zs ∧ R (IteT K a) H1
theorem pi_enumT {X : Cx} {e : Expr} {ta : TA} {p pos tpos : Pos} {elts : List Expr} {kk : Nat} (hg : Gl X "enumerate") (hm : X.mg "enumerate" = none) (ha : PA X [e] ta) (hs : starEach [e] X.env = [(false, eval e X.env)]) :
    PI X (.Tuple elts kk tpos) (.Call (.Name "enumerate" p) [e] [] pos) (iEnumT X.K ta) := by
  refine ⟨fun pins s σ H R J h => ?_⟩
  have bo : bootBuiltins "enumerate" = some (.type "enumerate") := by decide +kernel
  refine PyProof.Rows.Call_ (ld_blt J hg hm bo (PyProof.Rows.callWith_type1 (thn (ha.run pos pins s σ H _ J h) fun us s1 ⟨vs, H1, J1, r1, q1⟩ => ?_) hs rfl))
  obtain ⟨a, zs, rfl, hq, q⟩ := q1
  obtain ⟨u, rfl, ru⟩ := r1.one
  cases ru
  obtain ⟨its, rv, p', _⟩ := J1.tuple hq
  have ti : s1.heap.IsTuple a its.toArray := p'
  have al : a < s1.heap.objs.size := by obtain ⟨_, q, _⟩ := ti; exact Heap.lt_size q
  refine enum_begins1 (begins_tuple a its.toArray) ti fun h' he hit hsz hk => wpAny_pyIter_enum he ?_
  have J2 : L2.Inv X pins σ H1 { s1 with heap := h' } := J1.kept (t' := s1.toks) hk
  refine ⟨s1.heap.objs.size + 1, [s1.heap.objs.size + 1, s1.heap.objs.size], _, _, H1, rfl, J2, turn_enumT a (s1.heap.objs.size + 1) s1.heap.objs.size (Nat.ne_of_lt al) (Nat.ne_of_lt (Nat.lt_succ_of_lt al)), ⟨⟨.none, he⟩, ⟨_, hit, rfl, rfl⟩, Nat.succ_ne_self _⟩, fun b hb => ?_, q⟩
  have le : s1.heap.objs.size ≤ b := by
    rcases (by simpa using hb : b = s1.heap.objs.size + 1 ∨ b = s1.heap.objs.size) with z | z
    · rw [z]; exact Nat.le_succ _
    · rw [z]; exact Nat.le_refl _
  exact J1.fpOk le (J1.hok.fresh le)
end MT
namespace MT
open PySem L2
/-- a walk over the values xs, whose source stands frozen -/
structure Wk (K : PySem.W.Frag) (J : It) (Src : Hp → Prop) (xs : List D) : Prop where
  go : ∀ i F H, Same F H → Src F → i < xs.length → J.go i H
  yld : ∀ i F H x H', Same F H → Src F → i < xs.length → J.yld i H x H' → ∃ d, xs[i]? = some d ∧ ∃ F', Step F H F' H' ∧ DV K F' x d
  stop : ∀ F H, Same F H → Src F → J.stop xs.length H
  mono : ∀ F F', Src F → Same F F' → Src F'
section
variable {K : PySem.W.Frag}
theorem wk_list {a : Addr} {vs : List V} {ds : List D} : Wk K (Itl K a) (fun F => Rd F a (.lst vs) ∧ DVs K F vs ds) ds where
  go := fun i F H s ⟨q, t⟩ hi => by
    obtain ⟨v, e, _⟩ := t.get (List.getElem?_eq_getElem hi)
    exact ⟨vs, v, .inl (rd_mono s q), e⟩
  yld := fun i F H x H' s ⟨q, t⟩ hi y => by
    obtain ⟨rfl, y⟩ := y
    obtain ⟨d, e, h⟩ := t.getV (y vs (.inl (rd_mono s q)))
    exact ⟨d, e, F, Step.refl s, h⟩
  stop := fun F H s ⟨q, t⟩ => ⟨vs, .inl (rd_mono s q), by rw [t.length]; exact Nat.le_refl _⟩
  mono := fun F F' ⟨q, t⟩ s => ⟨rd_mono s q, t.mono s⟩
theorem wk_tup {a : Addr} {vs : List V} {ds : List D} : Wk K (Itt K a) (fun F => SqT K F a vs ∧ DVs K F vs ds) ds where
  go := fun i F H s ⟨q, t⟩ hi => by
    obtain ⟨v, e, _⟩ := t.get (List.getElem?_eq_getElem hi)
    exact ⟨vs, v, sqT_mono s q, e⟩
  yld := fun i F H x H' s ⟨q, t⟩ hi y => by
    obtain ⟨rfl, y⟩ := y
    obtain ⟨d, e, h⟩ := t.getV (y vs (sqT_mono s q))
    exact ⟨d, e, F, Step.refl s, h⟩
  stop := fun F H s ⟨q, t⟩ => ⟨vs, sqT_mono s q, by rw [t.length]; exact Nat.le_refl _⟩
  mono := fun F F' ⟨q, t⟩ s => ⟨sqT_mono s q, t.mono s⟩
theorem wk_str (s : List Nat) : Wk K (Its (mkS s)) (fun _ => True) (s.map fun c => .str [c]) where
  go := fun i F H _ _ hi => by
    show i < s.toArray.size
    simpa using hi
  yld := fun i F H x H' sb _ hi y => by
    obtain ⟨rfl, c, e, rfl⟩ := y
    have e : s.toArray[i]? = some c := e
    exact ⟨.str [c], by rw [List.getElem?_map]; simp at e; rw [e]; rfl, F, Step.refl sb, .str [c]⟩
  stop := fun F H _ _ => by
    show s.toArray.size ≤ (s.map _).length
    simp
  mono := fun _ _ _ _ => trivial
theorem wk_rng (lo : Int) (n : Nat) : Wk K (Itr lo n) (fun _ => True) ((List.range n).map fun (k : Nat) => .int (lo + k)) where
  go := fun i F H _ _ hi => by
    show i < n
    simpa using hi
  yld := fun i F H x H' sb _ hi y => by
    obtain ⟨rfl, rfl⟩ := y
    have hi : i < n := by simpa using hi
    exact ⟨.int (lo + i), by rw [List.getElem?_map, List.getElem?_range hi]; rfl, F, Step.refl sb, .int _⟩
  stop := fun F H _ _ => by
    show n ≤ (List.map _ _).length
    simp
  mono := fun _ _ _ _ => trivial
theorem wk_rngR (m : Int) : Wk K (Itc (0 + (((m - 0).toNat : Nat) : Int) - 1) (-1) (m - 0).toNat) (fun _ => True) ((List.range m.toNat).map fun (k : Nat) => .int (m - 1 - k)) where
  go := fun i F H _ _ hi => by
    show i < (m - 0).toNat
    simp at hi
    omega
  yld := fun i F H x H' sb _ hi y => by
    obtain ⟨rfl, rfl⟩ := y
    have hi : i < m.toNat := by simpa using hi
    have e : (0 + (((m - 0).toNat : Nat) : Int) - 1) + (i : Nat) * (-1) = m - 1 - i := by omega
    rw [e]
    exact ⟨.int (m - 1 - i), by rw [List.getElem?_map, List.getElem?_range hi]; rfl, F, Step.refl sb, .int _⟩
  stop := fun F H _ _ => by
    show (m - 0).toNat ≤ (List.map _ _).length
    simp
  mono := fun _ _ _ _ => trivial
theorem enumL_get : ∀ (xs : List D) (k i : Nat) (d : D), xs[i]? = some d → (enumL k xs)[i]? = some (.tup [.int (k + i : Nat), d])
  | [], _, _, _, h => by simp at h
  | x :: xs, k, 0, d, h => by
    have e : x = d := by simpa using h
    subst e
    rfl
  | x :: xs, k, i + 1, d, h => by
    have := enumL_get xs (k + 1) i d (by simpa using h)
    rw [show k + 1 + i = k + (i + 1) by omega] at this
    exact this
theorem enumL_len : ∀ (xs : List D) (k : Nat), (enumL k xs).length = xs.length
  | [], _ => rfl
  | x :: xs, k => by
    show (enumL (k + 1) xs).length + 1 = xs.length + 1
    rw [enumL_len xs]
theorem pair_new {F H : Hp} {T : Addr} {x y : V} {d e : D} (s : Same F H) (hT : H T = none) (hx : DV K F x d) (hy : DV K F y e) : Step F H (upd F T (.tup [x, y])) (upd H T (.tup [x, y])) ∧ DV K (upd F T (.tup [x, y])) (.ref T) (.tup [d, e]) :=
  ⟨Step.new s hT, dv_tup_new (s.free hT) (.cons hx (.cons hy .nil))⟩
theorem wk_enum {a : Addr} {vs : List V} {ds : List D} : Wk K (Ite K a) (fun F => Rd F a (.lst vs) ∧ DVs K F vs ds) (enumL 0 ds) where
  go := fun i F H s ⟨q, t⟩ hi => by
    rw [enumL_len] at hi
    obtain ⟨v, e, _⟩ := t.get (List.getElem?_eq_getElem hi)
    exact ⟨vs, v, .inl (rd_mono s q), e⟩
  yld := fun i F H x H' s ⟨q, t⟩ hi y => by
    obtain ⟨T, z, rfl, hT, rfl, y⟩ := y
    obtain ⟨d, e, h⟩ := t.getV (y vs (.inl (rd_mono s q)))
    obtain ⟨st, dv⟩ := pair_new s hT (.int (i : Nat)) h
    refine ⟨_, enumL_get ds 0 i d e, _, st, ?_⟩
    rw [Nat.zero_add]
    exact dv
  stop := fun F H s ⟨q, t⟩ => ⟨vs, .inl (rd_mono s q), by rw [t.length, enumL_len]; exact Nat.le_refl _⟩
  mono := fun F F' ⟨q, t⟩ s => ⟨rd_mono s q, t.mono s⟩
theorem wk_enumT {a : Addr} {vs : List V} {ds : List D} : Wk K (IteT K a) (fun F => SqT K F a vs ∧ DVs K F vs ds) (enumL 0 ds) where
  go := fun i F H s ⟨q, t⟩ hi => by
    rw [enumL_len] at hi
    obtain ⟨v, e, _⟩ := t.get (List.getElem?_eq_getElem hi)
    exact ⟨vs, v, sqT_mono s q, e⟩
  yld := fun i F H x H' s ⟨q, t⟩ hi y => by
    obtain ⟨T, z, rfl, hT, rfl, y⟩ := y
    obtain ⟨d, e, h⟩ := t.getV (y vs (sqT_mono s q))
    obtain ⟨st, dv⟩ := pair_new s hT (.int (i : Nat)) h
    refine ⟨_, enumL_get ds 0 i d e, _, st, ?_⟩
    rw [Nat.zero_add]
    exact dv
  stop := fun F H s ⟨q, t⟩ => ⟨vs, sqT_mono s q, by rw [t.length, enumL_len]⟩
  mono := fun F F' ⟨q, t⟩ s => ⟨sqT_mono s q, t.mono s⟩
theorem zipL_get : ∀ (xs ys : List D) (i : Nat) (d e : D), xs[i]? = some d → ys[i]? = some e → (zipL xs ys)[i]? = some (.tup [d, e])
  | [], _, _, _, _, h, _ => by simp at h
  | _ :: _, [], _, _, _, _, h => by simp at h
  | x :: xs, y :: ys, 0, d, e, h, h2 => by
    have e1 : x = d := by simpa using h
    have e2 : y = e := by simpa using h2
    subst e1 e2
    rfl
  | x :: xs, y :: ys, i + 1, d, e, h, h2 => zipL_get xs ys i d e (by simpa using h) (by simpa using h2)
theorem zipL_len : ∀ (xs ys : List D), (zipL xs ys).length = min xs.length ys.length
  | [], _ => by simp [zipL]
  | _ :: _, [] => by simp [zipL]
  | x :: xs, y :: ys => by
    show (zipL xs ys).length + 1 = min (xs.length + 1) (ys.length + 1)
    rw [zipL_len xs ys]
    omega
theorem wk_zip {a b : Addr} {vs ws : List V} {ds es : List D} : Wk K (Itz K a b) (fun F => (Rd F a (.lst vs) ∧ DVs K F vs ds) ∧ Rd F b (.lst ws) ∧ DVs K F ws es) (zipL ds es) where
  go := fun i F H s ⟨⟨q, t⟩, q2, t2⟩ hi => by
    rw [zipL_len] at hi
    obtain ⟨v, e, _⟩ := t.get (List.getElem?_eq_getElem (show i < ds.length by omega))
    obtain ⟨w, e2, _⟩ := t2.get (List.getElem?_eq_getElem (show i < es.length by omega))
    exact ⟨vs, ws, v, w, .inl (rd_mono s q), .inl (rd_mono s q2), e, e2⟩
  yld := fun i F H x H' s ⟨⟨q, t⟩, q2, t2⟩ hi y => by
    obtain ⟨T, z, z2, rfl, hT, rfl, y, y2⟩ := y
    obtain ⟨d, e, h⟩ := t.getV (y vs (.inl (rd_mono s q)))
    obtain ⟨d2, e2, h2⟩ := t2.getV (y2 ws (.inl (rd_mono s q2)))
    obtain ⟨st, dv⟩ := pair_new s hT h h2
    exact ⟨_, zipL_get ds es i d d2 e e2, _, st, dv⟩
  stop := fun F H s ⟨⟨q, t⟩, q2, t2⟩ => ⟨vs, ws, .inl (rd_mono s q), .inl (rd_mono s q2), by
    rw [t.length, t2.length, zipL_len]
    omega⟩
  mono := fun F F' ⟨⟨q, t⟩, q2, t2⟩ s => ⟨⟨rd_mono s q, t.mono s⟩, rd_mono s q2, t2.mono s⟩
theorem wk_zipT {a b : Addr} {vs ws : List V} {ds es : List D} : Wk K (RZ.ItzT K a b) (fun F => (SqT K F a vs ∧ DVs K F vs ds) ∧ SqT K F b ws ∧ DVs K F ws es) (zipL ds es) where
  go := fun i F H s ⟨⟨q, t⟩, q2, t2⟩ hi => by
    rw [zipL_len] at hi
    obtain ⟨v, e, _⟩ := t.get (List.getElem?_eq_getElem (show i < ds.length by omega))
    obtain ⟨w, e2, _⟩ := t2.get (List.getElem?_eq_getElem (show i < es.length by omega))
    exact ⟨vs, ws, v, w, sqT_mono s q, sqT_mono s q2, e, e2⟩
  yld := fun i F H x H' s ⟨⟨q, t⟩, q2, t2⟩ hi y => by
    obtain ⟨T, z, z2, rfl, hT, rfl, y, y2⟩ := y
    obtain ⟨d, e, h⟩ := t.getV (y vs (sqT_mono s q))
    obtain ⟨d2, e2, h2⟩ := t2.getV (y2 ws (sqT_mono s q2))
    obtain ⟨st, dv⟩ := pair_new s hT h h2
    exact ⟨_, zipL_get ds es i d d2 e e2, _, st, dv⟩
  stop := fun F H s ⟨⟨q, t⟩, q2, t2⟩ => ⟨vs, ws, sqT_mono s q, sqT_mono s q2, by
    rw [t.length, t2.length, zipL_len]
    omega⟩
  mono := fun F F' ⟨⟨q, t⟩, q2, t2⟩ s => ⟨⟨sqT_mono s q, t.mono s⟩, sqT_mono s q2, t2.mono s⟩
end

section
variable {cl : CL} {k : Nat} {xv : Nat → Value}
/-- a walk over what an iterable tells -/
def tI (K : PySem.W.Frag) (cl : CL) (Wn : WN) (ik : IK) (es : List E) : TI := fun σ H R => ∃ F ρ, Rel K F ρ σ H ∧ Out Wn F H σ ((evEs cl es ρ).bind (itD ik)) (fun F _ (J : It) xs => ∃ Src, Wk K J Src xs ∧ Src F) R
theorem out_one {Wn : WN} {α β : Type} {F H : Hp} {σ : L2.St} {ρ : MT.Env} {e : E} {f : List D → R α} {Z : Hp → Hp → β → α → Prop} {Q : β → Hp → Prop} (o : Out Wn F H σ ((evEs cl [e] ρ).bind f) Z Q) : Out Wn F H σ ((evE cl e ρ).bind fun d => f [d]) Z Q := by
  have o : Out Wn F H σ (((evE cl e ρ).bind fun d => (R.ok []).bind fun ds => R.ok (d :: ds)).bind f) Z Q := o
  cases q : evE cl e ρ with
  | ok d => rw [q] at o; exact o
  | ex c => rw [q] at o; exact o
  | no => rw [q] at o; exact o
theorem out_two {Wn : WN} {α β : Type} {F H : Hp} {σ : L2.St} {ρ : MT.Env} {e e2 : E} {f : List D → R α} {Z : Hp → Hp → β → α → Prop} {Q : β → Hp → Prop} (o : Out Wn F H σ ((evEs cl [e, e2] ρ).bind f) Z Q) : Out Wn F H σ ((evE cl e ρ).bind fun d => (evE cl e2 ρ).bind fun d2 => f [d, d2]) Z Q := by
  have o : Out Wn F H σ (((evE cl e ρ).bind fun d => ((evE cl e2 ρ).bind fun d => (R.ok []).bind fun ds => R.ok (d :: ds)).bind fun ds => R.ok (d :: ds)).bind f) Z Q := o
  cases q : evE cl e ρ with
  | ok d =>
    rw [q] at o
    cases q2 : evE cl e2 ρ with
    | ok d2 => simp only [q2] at o; exact o
    | ex c => simp only [q2] at o; exact o
    | no => simp only [q2] at o; exact o
  | ex c => rw [q] at o; exact o
  | no => rw [q] at o; exact o
theorem s_iter {C : SC} {Wn : WN} {X : Cx} (g : Good C cl Wn k xv X) {tg it : Expr} {ik : IK} {es : List E} (hh : ∀ e ∈ es, IHE cl k xv e) (hc : chkI C tg ik es it = true) : PI X tg it (tI X.K cl Wn ik es) := by
  refine ⟨fun pins s σ H R J t => ?_⟩
  obtain ⟨F, ρ, r, o⟩ := t
  unfold chkI at hc
  split at hc
  · -- a sequence
    rename_i e
    have pe := (hh e List.mem_cons_self).pe g hc
    have o := out_one o
    cases q : evE cl e ρ with
    | no => rw [q] at o; exact (show False from o).elim
    | ex c =>
      rw [q] at o
      exact (pi_list (tg := tg) pe).run pins s σ H R J ⟨F, ρ, r, by rw [q]; exact o⟩
    | ok d =>
      rw [q] at o
      cases d <;> first
        | exact (show False from o).elim
        | skip
      · rename_i t
        refine (pi_str (tg := tg) pe).run pins s σ H R J ⟨F, ρ, r, ?_⟩
        rw [q]
        intro F1 H1 v s1 y1
        cases y1
        exact ⟨_, rfl, o F1 H1 _ s1 ⟨_, wk_str t, trivial⟩⟩
      · rename_i ds
        refine (pi_tup (tg := tg) pe).run pins s σ H R J ⟨F, ρ, r, ?_⟩
        rw [q]
        intro F1 H1 v s1 y1
        cases y1 with
        | tup qt t => exact ⟨_, rfl, ⟨_, sqT_mono s1.s qt⟩, o F1 H1 _ s1 ⟨_, wk_tup, qt, t⟩⟩
      · rename_i ds
        refine (pi_list (tg := tg) pe).run pins s σ H R J ⟨F, ρ, r, ?_⟩
        rw [q]
        intro F1 H1 v s1 y1
        cases y1 with
        | lst qt t => exact ⟨_, rfl, ⟨_, .inl (rd_mono s1.s qt)⟩, o F1 H1 _ s1 ⟨_, wk_list, qt, t⟩⟩
  · -- range(n)
    rename_i e n pn z pos
    simp only [Bool.and_eq_true, decide_eq_true_eq, Bool.not_eq_true'] at hc
    obtain ⟨⟨⟨rfl, c1⟩, c2⟩, c3⟩ := hc
    obtain ⟨b1, b2, _, _⟩ := g.bl c1
    have pe := (hh e List.mem_cons_self).pe g c3
    have st : starEach [z] X.env = [(false, eval z X.env)] := starCons c2 [] X.env
    refine (pi_range1 (tg := tg) b1 b2 (pa_cons pe pa_nil st) st).run pins s σ H R J ?_
    refine ⟨F, ρ, r, Out.bind (out_one o) fun F1 H1 v d s1 y1 o1 => ?_⟩
    cases d <;> first
      | exact (show False from o1).elim
      | skip
    rename_i m
    cases y1
    have o1 : Out Wn F1 H1 σ (guardR (decide (-(2 ^ 30) < m ∧ m < 2 ^ 30)) (.ok ((List.range m.toNat).map fun (k : Nat) => D.int k))) _ R := o1
    by_cases hz : -(2 ^ 30) < m ∧ m < 2 ^ 30
    · rw [decide_eq_true hz] at o1
      have w := wk_rng (K := X.K) 0 m.toNat
      simp only [Int.zero_add] at w
      exact ⟨m, rfl, by omega, by omega, o1 F1 H1 _ (Step.refl s1.s) ⟨_, w, trivial⟩⟩
    · rw [decide_eq_false hz] at o1
      exact (show False from o1).elim
  · -- range(a, b)
    rename_i e f n pn z z2 pos
    simp only [Bool.and_eq_true, decide_eq_true_eq, Bool.not_eq_true'] at hc
    obtain ⟨⟨⟨⟨⟨rfl, c1⟩, c2⟩, c3⟩, c4⟩, c5⟩ := hc
    obtain ⟨b1, b2, _, _⟩ := g.bl c1
    have pe := (hh e List.mem_cons_self).pe g c4
    have pf := (hh f (by simp)).pe g c5
    have st2 : starEach [z2] X.env = [(false, eval z2 X.env)] := starCons c3 [] X.env
    have st : starEach [z, z2] X.env = [(false, eval z X.env), (false, eval z2 X.env)] := by rw [starCons c2, st2]
    refine (pi_range2 (tg := tg) b1 b2 (pa_cons pe (pa_cons pf pa_nil st2) (starCons c2 _ _)) st st2).run pins s σ H R J ?_
    refine ⟨F, ρ, r, Out.bind (out_two o) fun F1 H1 v d s1 y1 o1 => ⟨F1, ρ, r.step s1, Out.bind o1 fun F2 H2 w d2 s2 y2 o2 => ?_⟩⟩
    cases d <;> cases d2 <;> first
      | exact (show False from o2).elim
      | skip
    rename_i m m2
    cases y1
    cases y2
    have o2 : Out Wn F2 H2 σ (guardR (decide (-(2 ^ 30) < m ∧ m < 2 ^ 30 ∧ -(2 ^ 30) < m2 ∧ m2 < 2 ^ 30)) (.ok ((List.range (m2 - m).toNat).map fun (k : Nat) => D.int (m + k)))) _ R := o2
    by_cases hz : -(2 ^ 30) < m ∧ m < 2 ^ 30 ∧ -(2 ^ 30) < m2 ∧ m2 < 2 ^ 30
    · rw [decide_eq_true hz] at o2
      exact ⟨m, m2, rfl, ⟨by omega, by omega, by omega, by omega⟩, o2 F2 H2 _ (Step.refl s2.s) ⟨_, wk_rng m _, trivial⟩⟩
    · rw [decide_eq_false hz] at o2
      exact (show False from o2).elim
  · -- enumerate
    rename_i e n pn z pos
    simp only [Bool.and_eq_true, decide_eq_true_eq, Bool.not_eq_true'] at hc
    obtain ⟨⟨⟨⟨c0, rfl⟩, c1⟩, c2⟩, c3⟩ := hc
    obtain ⟨b1, b2, _, _⟩ := g.bl c1
    have pe := (hh e List.mem_cons_self).pe g c3
    have st : starEach [z] X.env = [(false, eval z X.env)] := starCons c2 [] X.env
    cases tg with
    | Tuple elts kk tpos =>
      have o := out_one o
      cases q : evE cl e ρ with
      | no => rw [q] at o; exact (show False from o).elim
      | ex c =>
        rw [q] at o
        exact (pi_enumT b1 b2 (pa_cons pe pa_nil st) st).run pins s σ H R J ⟨F, ρ, r, by rw [q]; exact o⟩
      | ok d =>
        rw [q] at o
        cases d <;> first
          | exact (show False from o).elim
          | skip
        · refine (pi_enumT b1 b2 (pa_cons pe pa_nil st) st).run pins s σ H R J ⟨F, ρ, r, ?_⟩
          rw [q]
          intro F1 H1 v s1 y1
          cases y1 with
          | tup qt t => exact ⟨_, _, rfl, sqT_mono s1.s qt, o F1 H1 _ s1 ⟨_, wk_enumT, qt, t⟩⟩
        · refine (pi_enum b1 b2 (pa_cons pe pa_nil st) st).run pins s σ H R J ⟨F, ρ, r, ?_⟩
          rw [q]
          intro F1 H1 v s1 y1
          cases y1 with
          | lst qt t => exact ⟨_, _, rfl, .inl (rd_mono s1.s qt), o F1 H1 _ s1 ⟨_, wk_enum, qt, t⟩⟩
    | _ => cases c0
  · -- reversed(range(n))
    rename_i e rv rp n pn z p1 p2
    simp only [Bool.and_eq_true, decide_eq_true_eq, Bool.not_eq_true'] at hc
    obtain ⟨⟨⟨⟨⟨rfl, c0⟩, rfl⟩, c1⟩, c2⟩, c3⟩ := hc
    obtain ⟨a1, a2, _, _⟩ := g.bl c0
    obtain ⟨b1, b2, _, _⟩ := g.bl c1
    have pe := (hh e List.mem_cons_self).pe g c3
    have st : starEach [z] X.env = (false, eval z X.env) :: starEach [] X.env := starCons c2 [] X.env
    refine (pi_revR (tg := tg) (pos := p2) (p := rp) a1 a2 (prg_1 (p := pn) (pos := p1) b1 b2 pe st) rfl).run pins s σ H R J ?_
    refine ⟨F, ρ, r, Out.bind (out_one o) fun F1 H1 v d s1 y1 o1 => ?_⟩
    cases d <;> first
      | exact (show False from o1).elim
      | skip
    rename_i m
    cases y1
    have o1 : Out Wn F1 H1 σ (guardR (decide (-(2 ^ 30) < m ∧ m < 2 ^ 30)) (.ok ((List.range m.toNat).map fun (k : Nat) => D.int (m - 1 - k)))) _ R := o1
    by_cases hz : -(2 ^ 30) < m ∧ m < 2 ^ 30
    · rw [decide_eq_true hz] at o1
      refine ⟨m, rfl, by omega, by omega, by omega, by omega, ?_⟩
      exact o1 F1 H1 _ (Step.refl s1.s) ⟨_, wk_rngR m, trivial⟩
    · rw [decide_eq_false hz] at o1
      exact (show False from o1).elim
  · -- zip
    rename_i e f n pn z z2 pos
    simp only [Bool.and_eq_true, decide_eq_true_eq, Bool.not_eq_true'] at hc
    obtain ⟨⟨⟨⟨⟨⟨c0, rfl⟩, c1⟩, c2⟩, c3⟩, c4⟩, c5⟩ := hc
    obtain ⟨b1, b2, _, _⟩ := g.bl c1
    have pe := (hh e List.mem_cons_self).pe g c4
    have pf := (hh f (by simp)).pe g c5
    have st2 : starEach [z2] X.env = [(false, eval z2 X.env)] := starCons c3 [] X.env
    have hp : (backTo pos (starEach [z2] X.env)).any (·.1) = false := by rw [st2]; rfl
    cases tg with
    | Tuple elts kk tpos =>
      refine (RZ.pi_zipA b1 b2 (pa_cons pe (pa_cons pf pa_nil st2) (starCons c2 _ _)) (starCons c2 _ _) hp).run pins s σ H R J ?_
      refine ⟨F, ρ, r, Out.bind (out_two o) fun F1 H1 v d s1 y1 o1 => ⟨F1, ρ, r.step s1, Out.bind o1 fun F2 H2 w d2 s2 y2 o2 => ?_⟩⟩
      cases d <;> cases d2 <;> first
        | exact (show False from o2).elim
        | skip
      · cases y1.mono s2.f with
        | tup qa ta =>
          cases y2 with
          | tup qb tb => exact ⟨_, _, _, _, rfl, .inr ⟨sqT_mono s2.s qa, sqT_mono s2.s qb, o2 F2 H2 _ (Step.refl s2.s) ⟨_, wk_zipT, ⟨qa, ta⟩, qb, tb⟩⟩⟩
      · cases y1.mono s2.f with
        | lst qa ta =>
          cases y2 with
          | lst qb tb => exact ⟨_, _, _, _, rfl, .inl ⟨.inl (rd_mono s2.s qa), .inl (rd_mono s2.s qb), o2 F2 H2 _ (Step.refl s2.s) ⟨_, wk_zip, ⟨qa, ta⟩, qb, tb⟩⟩⟩
    | _ => cases c0
  · cases hc
end
end MT
namespace MT
open PySem L2
section
variable {K : PySem.W.Frag} {F F' H H' : Hp} {ρ : MT.Env} {σ : L2.St}
/-- a slot is forgotten -/
theorem Rel.un {i : Nat} (r : Rel K F ρ σ H) : Rel K F (ρ.set i .un) (σ.set i none) H := by
  by_cases hi : i < ρ.length
  · have hi' : i < σ.length := r.len ▸ hi
    refine ⟨by simp [r.len], r.sub, fun j e q => ?_, fun j xs q => ?_, fun j l xs ys a q1 q2 q3 q4 => ?_, r.obj_set rfl, r.one_set rfl⟩
    · by_cases hj : j = i
      · subst hj
        rw [List.getElem?_set_self hi] at q
        cases q
      · rw [List.getElem?_set_ne (Ne.symm hj)] at q ⊢
        exact r.val j e q
    · by_cases hj : j = i
      · subst hj
        rw [List.getElem?_set_self hi] at q
        cases q
      · rw [List.getElem?_set_ne (Ne.symm hj)] at q ⊢
        exact r.own j xs q
    · by_cases hj : j = i
      · subst hj
        rw [List.getElem?_set_self hi] at q1
        cases q1
      · by_cases hl : l = i
        · subst hl
          rw [List.getElem?_set_self hi] at q2
          cases q2
        · rw [List.getElem?_set_ne (Ne.symm hj)] at q1 q3
          rw [List.getElem?_set_ne (Ne.symm hl)] at q2 q4
          exact r.apart j l xs ys a q1 q2 q3 q4
  · rw [List.set_eq_of_length_le (by omega), List.set_eq_of_length_le (by rw [← r.len]; omega)]
    exact r
theorem Rel.wipe (r : Rel K F ρ σ H) : ∀ vs : List Nat, Rel K F (wipeE ρ vs) (L2.wipe σ vs) H
  | [] => r
  | v :: vs => (Rel.wipe r vs).un
theorem wipe_get : ∀ (vs : List Nat) (σ : L2.St) (j : Nat), (L2.wipe σ vs)[j]? = if j ∈ vs ∧ j < σ.length then some none else σ[j]?
  | [], σ, j => by simp [L2.wipe]
  | v :: vs, σ, j => by
    show ((L2.wipe σ vs).set v none)[j]? = _
    by_cases hv : v = j
    · subst hv
      by_cases hl : v < σ.length
      · rw [List.getElem?_set_self (by rw [wipe_length]; exact hl), if_pos ⟨List.mem_cons_self, hl⟩]
      · rw [List.set_eq_of_length_le (by rw [wipe_length]; omega), wipe_get vs σ v, if_neg (fun h => hl h.2), if_neg (fun h => hl h.2)]
    · rw [List.getElem?_set_ne hv, wipe_get vs σ j]
      by_cases h : j ∈ vs ∧ j < σ.length
      · rw [if_pos h, if_pos ⟨List.mem_cons_of_mem _ h.1, h.2⟩]
      · rw [if_neg h, if_neg]
        rintro ⟨h1, h2⟩
        rcases List.mem_cons.mp h1 with e | h1
        · exact hv e.symm
        · exact h ⟨h1, h2⟩
theorem wipe_ext {σ' : L2.St} {vs : List Nat} (hl : σ'.length = σ.length) (h : ∀ j, j ∉ vs → σ'[j]? = σ[j]?) : L2.wipe σ' vs = L2.wipe σ vs := by
  refine List.ext_getElem? fun j => ?_
  rw [wipe_get, wipe_get, hl]
  by_cases c : j ∈ vs ∧ j < σ.length
  · rw [if_pos c, if_pos c]
  · rw [if_neg c, if_neg c]
    by_cases hj : j ∈ vs
    · have : ¬ j < σ.length := fun h => c ⟨hj, h⟩
      rw [List.getElem?_eq_none (by omega), List.getElem?_eq_none (by omega)]
    · exact h j hj
theorem wipe_idem {vs : List Nat} : L2.wipe (L2.wipe σ vs) vs = L2.wipe σ vs := wipe_ext (wipe_length _ _) fun j hj => by rw [wipe_get, if_neg (fun h => hj h.1)]

/-! ### targets -/
def gT (K : PySem.W.Frag) (t : Tg) : TG := fun v σ H Q => ∃ F ρ d, Rel K F ρ σ H ∧ DV K F v d ∧ match bindT t d ρ with
  | .ok ρ' => ∀ σ', Rel K F ρ' σ' H → σ'.length = σ.length → (∀ j, j ∉ t.slots → σ'[j]? = σ[j]?) → Q σ' H
  | _ => False
def gTs (K : PySem.W.Frag) (ts : List Tg) : TGs := fun vs σ H Q => ∃ F ρ ds, Rel K F ρ σ H ∧ DVs K F vs ds ∧ match bindTs ts ds ρ with
  | .ok ρ' => ∀ σ', Rel K F ρ' σ' H → σ'.length = σ.length → (∀ j, j ∉ Tg.slotss ts → σ'[j]? = σ[j]?) → Q σ' H
  | _ => False
theorem _root_.L2.PG.imp {X : Cx} {e : Expr} {t t' : TG} (h : PG X e t) (i : ∀ v σ H Q, t' v σ H Q → t v σ H Q) : PG X e t' := ⟨fun pins s σ H v u Q I r q => h.run pins s σ H v u Q I r (i _ _ _ _ q)⟩
theorem _root_.L2.PGs.imp {X : Cx} {e : List Expr} {t t' : TGs} (h : PGs X e t) (i : ∀ v σ H Q, t' v σ H Q → t v σ H Q) : PGs X e t' := ⟨fun pins s σ H v u Q I r q => h.run pins s σ H v u Q I r (i _ _ _ _ q)⟩
theorem asg_len {env : PySem.Env} {C : SC} : ∀ {ts : List Tg} {es : List Expr}, chkTgs C ts es = true → (assignEach es env).length = ts.length ∧ (assignEach es env).findIdx? (·.1) = none
  | [], [], _ => ⟨rfl, rfl⟩
  | [], _ :: _, h => by cases h
  | _ :: _, [], h => by cases h
  | t :: ts, e :: es, h => by
    have h : (!isStarX e && chkTg C t e && chkTgs C ts es) = true := h
    simp only [Bool.and_eq_true, Bool.not_eq_true'] at h
    obtain ⟨a, b⟩ := asg_len (env := env) h.2
    rw [asgCons h.1.1]
    refine ⟨by simp [a], ?_⟩
    rw [List.findIdx?_cons]
    simp [b]
theorem bindTs_len : ∀ {ts : List Tg} {ds : List D} {ρ ρ' : MT.Env}, bindTs ts ds ρ = .ok ρ' → ds.length = ts.length
  | [], [], _, _, _ => rfl
  | [], _ :: _, _, _, h => by cases h
  | _ :: _, [], _, _, h => by cases h
  | t :: ts, d :: ds, ρ, ρ', h => by
    have h : ((bindT t d ρ).bind fun ρ' => bindTs ts ds ρ') = .ok ρ' := h
    cases q1 : bindT t d ρ with
    | no => rw [q1] at h; cases h
    | ex c => rw [q1] at h; cases h
    | ok ρ1 =>
      rw [q1] at h
      simp [bindTs_len (ts := ts) (ds := ds) (ρ := ρ1) (ρ' := ρ') h]
theorem bind_len {ts : List Tg} {ds : List D} {ρ : MT.Env} {P : MT.Env → Prop} (q : match bindTs ts ds ρ with
    | .ok ρ' => P ρ'
    | _ => False) : ds.length = ts.length := by
  cases e : bindTs ts ds ρ with
  | no => rw [e] at q; exact q.elim
  | ex c => rw [e] at q; exact q.elim
  | ok ρ' => exact bindTs_len e
mutual
theorem s_tg {C : SC} {cl : CL} {Wn : WN} {k : Nat} {xv : Nat → Value} {X : Cx} (g : Good C cl Wn k xv X) : ∀ (t : Tg) (e : Expr), chkTg C t e = true → PG X e (gT X.K t)
  | .nm i, e, h => by
    cases e with
    | Name x p =>
      have h : (decide (C.N[i]? = some x) && (if C.blk = true then decide (C.sc.names.lookup x = some .local) else lcl C.sc x)) = true := h
      simp only [Bool.and_eq_true, decide_eq_true_eq] at h
      obtain ⟨h1, h2⟩ := h
      have hl : L2.Loc X.env.scope x := by
        rw [g.sc]
        by_cases b : C.blk = true
        · rw [if_pos b] at h2; exact .inl (of_decide_eq_true h2)
        · rw [if_neg b] at h2; exact lcl_ok h2
      have hf : X.fn x = true ∨ X.env.scope.names.lookup x = some .local := by
        by_cases b : C.blk = true
        · rw [if_pos b] at h2; exact .inr (by rw [g.sc]; exact of_decide_eq_true h2)
        · exact .inl (g.fl (by simpa using b) x)
      refine (pg_name (i := i) g.nd (by rw [g.N]; exact h1) hl hf).imp fun v σ H Q ⟨F, ρ, d, r, y, q⟩ => ?_
      have q : match put ρ i (.val d) with
        | .ok ρ' => ∀ σ', Rel X.K F ρ' σ' H → σ'.length = σ.length → (∀ j, j ∉ [i] → σ'[j]? = σ[j]?) → Q σ' H
        | _ => False := q
      unfold put at q
      by_cases hi : i < ρ.length
      · rw [if_pos hi] at q
        exact q _ (r.put hi y) (by simp) fun j hj => List.getElem?_set_ne (by simpa using fun e => hj (by simp [e]))
      · rw [if_neg hi] at q
        exact q.elim
    | _ => cases h
  | .tp ts, e, h => by
    cases e with
    | Tuple es kk p =>
      have h : chkTgs C ts es = true := h
      obtain ⟨l1, l2⟩ := asg_len (env := X.env) h
      refine (pg_tup (n := ts.length) g.calm (s_tgs g ts es h) l1 l2).imp fun v σ H Q ⟨F, ρ, d, r, y, q⟩ => ?_
      cases d <;> first
        | exact (show False from q).elim
        | skip
      rename_i ds
      cases y with
      | tup qt t =>
        refine ⟨_, _, rfl, sqT_mono r.sub qt, ?_, F, ρ, ds, r, t, q⟩
        have q : match bindTs ts ds ρ with
          | .ok ρ' => ∀ σ', Rel X.K F ρ' σ' H → σ'.length = σ.length → (∀ j, j ∉ Tg.slotss ts → σ'[j]? = σ[j]?) → Q σ' H
          | _ => False := q
        rw [t.length]
        exact bind_len q
    | _ => cases h
theorem s_tgs {C : SC} {cl : CL} {Wn : WN} {k : Nat} {xv : Nat → Value} {X : Cx} (g : Good C cl Wn k xv X) : ∀ (ts : List Tg) (es : List Expr), chkTgs C ts es = true → PGs X es (gTs X.K ts)
  | [], es, h => by
    cases es with
    | nil =>
      refine pgs_nil.imp fun vs σ H Q ⟨F, ρ, ds, r, y, q⟩ => ?_
      cases ds with
      | nil => cases y; exact ⟨rfl, q σ r rfl fun _ _ => rfl⟩
      | cons _ _ => exact (show False from q).elim
    | cons _ _ => cases h
  | t :: ts, es, h => by
    cases es with
    | nil => cases h
    | cons e es =>
      have h : (!isStarX e && chkTg C t e && chkTgs C ts es) = true := h
      simp only [Bool.and_eq_true, Bool.not_eq_true'] at h
      refine (pgs_cons (s_tg g t e h.1.2) (s_tgs g ts es h.2) (by rw [asgCons h.1.1]; rfl)).imp fun vs σ H Q ⟨F, ρ, ds, r, y, q⟩ => ?_
      cases ds with
      | nil => exact (show False from q).elim
      | cons d ds =>
        cases y with
        | cons y1 y2 =>
          refine ⟨_, _, rfl, F, ρ, d, r, y1, ?_⟩
          have q : match (bindT t d ρ).bind fun ρ' => bindTs ts ds ρ' with
            | .ok ρ' => ∀ σ', Rel X.K F ρ' σ' H → σ'.length = σ.length → (∀ j, j ∉ t.slots ++ Tg.slotss ts → σ'[j]? = σ[j]?) → Q σ' H
            | _ => False := q
          cases q1 : bindT t d ρ with
          | no => rw [q1] at q; exact q
          | ex c => rw [q1] at q; exact q
          | ok ρ1 =>
            rw [q1] at q
            intro σ1 r1 l1 n1
            refine ⟨F, ρ1, ds, r1, y2, ?_⟩
            have q : match bindTs ts ds ρ1 with
              | .ok ρ' => ∀ σ', Rel X.K F ρ' σ' H → σ'.length = σ.length → (∀ j, j ∉ t.slots ++ Tg.slotss ts → σ'[j]? = σ[j]?) → Q σ' H
              | _ => False := q
            cases q2 : bindTs ts ds ρ1 with
            | no => rw [q2] at q; exact q
            | ex c => rw [q2] at q; exact q
            | ok ρ2 =>
              rw [q2] at q
              exact fun σ2 r2 l2 n2 => q σ2 r2 (l2.trans l1) fun j hj => (n2 j fun h => hj (List.mem_append_right _ h)).trans (n1 j fun h => hj (List.mem_append_left _ h))
end
end
section
variable {cl : CL} {k : Nat} {xv : Nat → Value}
theorem bindR_assoc {α β γ : Type} (r : R α) (f : α → R β) (g : β → R γ) : (r.bind f).bind g = r.bind fun a => (f a).bind g := by cases r <;> rfl
theorem Step.side {F H F' H' : Hp} {p : Addr} {o : HO} (s : Step F H F' H') (h : H p = none) (f : F' p = none) : Step F H F' (upd H' p o) :=
  ⟨s.f, fun a u e => by rw [upd_ne (ne_of_none e h)]; exact s.h _ _ e, fun a u e => by rw [upd_ne (ne_of_none e f)]; exact s.s _ _ e, s.n⟩
/-- a list of one's own is frozen at the end -/
theorem Step.freeze {F H F' H' : Hp} {p : Addr} {o : HO} (s : Step F H F' H') (h : H p = none) (f : F' p = none) (e : H' p = some o) : Step F H (upd F' p o) H' :=
  ⟨fun a u q => by rw [upd_ne (ne_of_none (s.f _ _ q) f)]; exact s.f _ _ q, s.h, fun a u q => by
    by_cases c : a = p
    · subst c; rw [upd_same] at q; rw [← q]; exact e
    · rw [upd_ne c] at q; exact s.s _ _ q, fun a u q => by rw [upd_ne (ne_of_none q h)]; exact s.n a u q⟩
theorem Good.toBlk {C : SC} {Wn : WN} {X : Cx} (g : Good C cl Wn k xv X) (s : Shared) (H : Hp) (scope : Scope) (Ca : Addr) (cls : List (Str × Addr)) (fp : List Addr) :
    Good { C with sc := relS scope C.sc, blk := true } cl (fun _ _ _ => False) k xv (X.blk s H scope (compEnvC scope cls Ca X.env) fp) where
  calm := g.calm
  N := g.N
  nd := g.nd
  sc := by
    show relS scope X.env.scope = relS scope C.sc
    rw [g.sc]
  fl := fun h => by cases h
  room := g.room
  fns := g.fns
  free := g.free
  gcs := g.gcs
  takes := fun h => by cases h
  pa := fun σ pins H s e s' I c => by
    obtain ⟨a, B, H', cls, d, _, _, _, _, _, _, _, c, _, _, h⟩ := c
    exact h
  pass := fun h => by cases h
  xf := g.xf
  td := g.td
  stk := fun h => by cases h
def tCs (K : PySem.W.Frag) (cl : CL) (Wn : WN) (cs : List E) : TT := fun σ H Q => ∃ F ρ, Rel K F ρ σ H ∧ Out Wn F H σ (evC cl cs ρ) (fun _ _ (b c : Bool) => b = c) Q
theorem s_cond {C : SC} {Wn : WN} {X : Cx} (g : Good C cl Wn k xv X) : ∀ {cs : List E} {ifs : List Expr}, (∀ e ∈ cs, IHE cl k xv e) → chkCond C cs ifs = true → PTs X ifs (tCs X.K cl Wn cs)
  | [], [], _, _ => ⟨fun pins s σ H Q J ⟨F, ρ, r, o⟩ => pts_nil.run pins s σ H Q J (o F H true (Step.refl r.sub) rfl)⟩
  | [c], [z], hh, hc => by
    have hc : (noIfe c && chkE C c z) = true := hc
    simp only [Bool.and_eq_true] at hc
    have pt := (hh c List.mem_cons_self).pt g hc.2 hc.1
    refine ⟨fun pins s σ H Q J ⟨F, ρ, r, o⟩ => (pts_one pt).run pins s σ H Q J ⟨F, ρ, r, ?_⟩⟩
    have o : Out Wn F H σ ((evT cl c ρ).bind fun b => if b = true then .ok true else .ok false) (fun _ _ (b c : Bool) => b = c) Q := o
    cases q : evT cl c ρ with
    | no => rw [q] at o; exact o
    | ex c => rw [q] at o; exact o
    | ok b => rw [q] at o; cases b <;> exact o
  | [], _ :: _, _, hc => by cases hc
  | [_], [], _, hc => by cases hc
  | [_], _ :: _ :: _, _, hc => by cases hc
  | _ :: _ :: _, [], _, hc => by cases hc
  | _ :: _ :: _, _ :: _, _, hc => by cases hc
theorem noEx_ok {α : Type} {r : R α} {a : α} (h : noEx r = .ok a) : r = .ok a := by
  cases r with
  | ok b => exact h
  | ex c => cases h
  | no => cases h
theorem own_slots (C : SC) (t : Tg) : (ownOf C t).map (·.2) = t.slots := by
  unfold ownOf
  rw [List.map_map]
  show List.map (fun i => i) t.slots = t.slots
  exact List.map_id' _
theorem s_lc {t : Tg} {ik : IK} {es cs : List E} {el : E} (he : ∀ e ∈ es, IHE cl k xv e) (hcs : ∀ e ∈ cs, IHE cl k xv e) (hel : IHE cl k xv el) {C : SC} {Wn : WN} {X : Cx} (g : Good C cl Wn k xv X) {x : Expr} (hc : chkE C (.lc t ik es cs el) x = true) :
    ∃ y tg it ifs scope pos, x = .ListComp y [⟨tg, it, ifs, 0⟩] scope pos ∧ PI X tg it (tI X.K cl Wn ik es) ∧ BlkOk X.N X.env.scope scope (ownOf C t) ∧ (∀ v, foldedSetIterable it X.env v = pure v) ∧
      (∀ (s : Shared) (H : Hp) (Ca : Addr) (cls : List (Str × Addr)) (fp : List Addr), PG (X.blk s H scope (compEnvC scope cls Ca X.env) fp) tg (gT X.K t)) ∧
      (∀ (s : Shared) (H : Hp) (Ca : Addr) (cls : List (Str × Addr)) (fp : List Addr), PTs (X.blk s H scope (compEnvC scope cls Ca X.env) fp) ifs (tCs X.K cl (fun _ _ _ => False) cs)) ∧
      (∀ (s : Shared) (H : Hp) (Ca : Addr) (cls : List (Str × Addr)) (fp : List Addr), PE (X.blk s H scope (compEnvC scope cls Ca X.env) fp) y (tE X.K cl (fun _ _ _ => False) el)) := by
  unfold chkE at hc
  split at hc
  · rename_i y tg it ifs a scope pos
    simp only [Bool.and_eq_true, decide_eq_true_eq, Bool.not_eq_true'] at hc
    obtain ⟨⟨⟨⟨⟨⟨⟨rfl, c1⟩, c2⟩, c3⟩, c4⟩, c5⟩, c6⟩, c7⟩ := hc
    rw [chkI_eq] at c5
    rw [chkCond_eq] at c6
    refine ⟨y, tg, it, ifs, scope, pos, rfl, s_iter g he c5, ?_, notSet c4 X.env, fun s H Ca cls fp => s_tg (g.toBlk s H scope Ca cls fp) t tg c1, fun s H Ca cls fp => s_cond (g.toBlk s H scope Ca cls fp) hcs c6, fun s H Ca cls fp => hel.pe (g.toBlk s H scope Ca cls fp) c7⟩
    rw [g.N, g.sc]
    exact blkOk_by c2
  · cases hc
/-- the reading of a comprehension -/
theorem lc_read {C : SC} {Wn : WN} {K : PySem.W.Frag} {t : Tg} {ik : IK} {es cs : List E} {el : E} {σ : L2.St} {F H : Hp} {ρ : MT.Env} {Q : VK} (r : Rel K F ρ σ H)
    (o : Out Wn F H σ (evE cl (.lc t ik es cs el) ρ) (fun F' H' v d => DV K F' v d ∧ ∃ p, v = .ref p ∧ H p = none ∧ ∃ vs ys, H' p = some (.lst vs) ∧ d = .lst ys ∧ F' = upd F' p (.lst vs)) Q) :
    tLc (tI K cl Wn ik es) (gT K t) (tCs K cl (fun _ _ _ => False) cs) (tE K cl (fun _ _ _ => False) el) t.slots σ H Q := by
  have o : Out Wn F H σ ((evEs cl es ρ).bind fun ds => (itD ik ds).bind fun xs => (noEx (lcGo t (evC cl cs) (evE cl el) (wipeE ρ t.slots) xs)).bind fun ys => guardR (sz ys.length) (R.ok (D.lst ys))) _ Q := o
  rw [← bindR_assoc] at o
  refine ⟨F, ρ, r, Out.bind o fun F1 H1 J xs s1 ⟨Src, wk, src⟩ o1 => fun Dd hD => ?_⟩
  -- what comes
  obtain ⟨ys, e1, hz, o1⟩ : ∃ ys, lcGo t (evC cl cs) (evE cl el) (wipeE ρ t.slots) xs = .ok ys ∧ ys.length ≤ sizeLine ∧ Out Wn F1 H1 σ (R.ok (D.lst ys)) _ Q := by
    cases q : noEx (lcGo t (evC cl cs) (evE cl el) (wipeE ρ t.slots) xs) with
    | no => rw [q] at o1; exact (show False from o1).elim
    | ex c =>
      cases q2 : lcGo t (evC cl cs) (evE cl el) (wipeE ρ t.slots) xs <;> rw [q2] at q <;> cases q
    | ok ys =>
      rw [q] at o1
      have o1 : Out Wn F1 H1 σ (guardR (sz ys.length) (R.ok (D.lst ys))) _ Q := o1
      cases hz : sz ys.length with
      | false => rw [hz] at o1; exact (show False from o1).elim
      | true => rw [hz] at o1; exact ⟨ys, noEx_ok q, sz_ok hz, o1⟩
  have hD0 : H Dd = none := s1.h.free hD
  refine ⟨fun i m H2 => m = xs.length - i ∧ i ≤ xs.length ∧ ∃ F2 acc vs rest, Step F1 H1 F2 H2 ∧ H2 Dd = some (.lst vs) ∧ F2 Dd = none ∧ DVs K F2 vs acc ∧ lcGo t (evC cl cs) (evE cl el) (wipeE ρ t.slots) (xs.drop i) = .ok rest ∧ acc ++ rest = ys,
    ⟨xs.length, by simp, Nat.zero_le _, F1, [], [], ys, (Step.refl s1.s).side hD (s1.s.free hD), upd_same, s1.s.free hD, .nil, by rw [List.drop_zero]; exact e1, rfl⟩, ?_⟩
  rintro i m H2 ⟨rfl, hi, F2, acc, vs, rest, s2, hDv, hDf, ya, eg, ea⟩
  have src2 := wk.mono F1 F2 src s2.f
  by_cases hlt : i < xs.length
  · -- one turn
    refine .inr ⟨wk.go i F2 H2 s2.s src2 hlt, fun H3 => (i + 1 ≤ xs.length ∧ ∃ F2 acc vs rest, Step F1 H1 F2 H3 ∧ H3 Dd = some (.lst vs) ∧ F2 Dd = none ∧ DVs K F2 vs acc ∧ lcGo t (evC cl cs) (evE cl el) (wipeE ρ t.slots) (xs.drop (i + 1)) = .ok rest ∧ acc ++ rest = ys),
      fun H3 h3 => ⟨xs.length - (i + 1), by omega, rfl, h3.1, h3.2⟩, fun x H3 hy => ?_⟩
    obtain ⟨d, ed, F3, s3, yd⟩ := wk.yld i F2 H2 x H3 s2.s src2 hlt hy
    have edrop : xs.drop i = d :: xs.drop (i + 1) := by
      rw [List.drop_eq_getElem_cons hlt]
      have := List.getElem?_eq_getElem hlt
      rw [ed] at this
      rw [Option.some.inj this]
    rw [edrop] at eg
    have eg : ((bindT t d (wipeE ρ t.slots)).bind fun ρ' => (evC cl cs ρ').bind fun b => if b = true then (evE cl el ρ').bind fun y => (lcGo t (evC cl cs) (evE cl el) (wipeE ρ t.slots) (xs.drop (i + 1))).bind fun ys => .ok (y :: ys) else lcGo t (evC cl cs) (evE cl el) (wipeE ρ t.slots) (xs.drop (i + 1))) = .ok rest := eg
    have rw3 : Rel K F3 (wipeE ρ t.slots) (L2.wipe σ t.slots) H3 := ((((r.step s1).step s2).step s3).wipe t.slots)
    have s13 := s2.trans s3
    refine ⟨F3, wipeE ρ t.slots, d, rw3, yd, ?_⟩
    cases qb : bindT t d (wipeE ρ t.slots) with
    | no => rw [qb] at eg; cases eg
    | ex c => rw [qb] at eg; cases eg
    | ok ρ' =>
      rw [qb] at eg
      intro σ' r' l' n'
      refine ⟨(wipe_ext l' n').trans wipe_idem, F3, ρ', r', ?_⟩
      have eg : ((evC cl cs ρ').bind fun b => if b = true then (evE cl el ρ').bind fun y => (lcGo t (evC cl cs) (evE cl el) (wipeE ρ t.slots) (xs.drop (i + 1))).bind fun ys => .ok (y :: ys) else lcGo t (evC cl cs) (evE cl el) (wipeE ρ t.slots) (xs.drop (i + 1))) = .ok rest := eg
      cases qc : evC cl cs ρ' with
      | no => rw [qc] at eg; cases eg
      | ex c => rw [qc] at eg; cases eg
      | ok b =>
        rw [qc] at eg
        intro F4 H4 b' s4 eb
        subst eb
        cases b' with
        | false =>
          refine iteF ⟨hlt, F4, acc, vs, rest, s13.trans s4, s4.h _ _ (s3.h _ _ hDv), ?_, (ya.mono s3.f).mono s4.f, eg, ea⟩
          rw [s4.n Dd _ (s3.h _ _ hDv), s3.n Dd _ hDv]
          exact hDf
        | true =>
          refine iteT ⟨F4, ρ', r'.step s4, ?_⟩
          have eg : ((evE cl el ρ').bind fun y => (lcGo t (evC cl cs) (evE cl el) (wipeE ρ t.slots) (xs.drop (i + 1))).bind fun ys => .ok (y :: ys)) = .ok rest := eg
          cases qe : evE cl el ρ' with
          | no => rw [qe] at eg; cases eg
          | ex c => rw [qe] at eg; cases eg
          | ok dy =>
            rw [qe] at eg
            cases qr : lcGo t (evC cl cs) (evE cl el) (wipeE ρ t.slots) (xs.drop (i + 1)) with
            | no => rw [qr] at eg; cases eg
            | ex c => rw [qr] at eg; cases eg
            | ok rest' =>
              rw [qr] at eg
              have eg : (dy :: rest') = rest := R.ok.inj eg
              subst eg
              intro F5 H5 y s5 yy
              have h5 : H5 Dd = some (.lst vs) := s5.h _ _ (s4.h _ _ (s3.h _ _ hDv))
              have f5 : F5 Dd = none := by
                rw [s5.n Dd _ (s4.h _ _ (s3.h _ _ hDv)), s4.n Dd _ (s3.h _ _ hDv), s3.n Dd _ hDv]
                exact hDf
              have hl : vs.length < sizeLine := by
                rw [ya.length]
                have e := congrArg List.length ea
                simp at e
                omega
              have s15 := (s13.trans s4).trans s5
              refine ⟨vs, h5, hl, hlt, F5, acc ++ [dy], vs ++ [y], rest', s15.side hD f5, upd_same, f5, (((ya.mono s3.f).mono s4.f).mono s5.f).append (.cons yy .nil), rfl, ?_⟩
              rw [List.append_assoc]
              exact ea
  · have ei : i = xs.length := by omega
    subst ei
    refine .inl ⟨wk.stop F2 H2 s2.s src2, ?_⟩
    rw [List.drop_length] at eg
    cases (R.ok.inj (show R.ok [] = R.ok rest from eg))
    rw [List.append_nil] at ea
    subst ea
    have fz : upd F2 Dd (.lst vs) = upd (upd F2 Dd (.lst vs)) Dd (.lst vs) := by rw [upd_upd]
    exact o1 _ _ _ (s2.freeze hD hDf hDv) ⟨dv_lst_new hDf ya, Dd, rfl, hD0, vs, acc, hDv, rfl, fz⟩
theorem s_lcE {t : Tg} {ik : IK} {es cs : List E} {el : E} (he : ∀ e ∈ es, IHE cl k xv e) (hcs : ∀ e ∈ cs, IHE cl k xv e) (hel : IHE cl k xv el) : IHE cl k xv (.lc t ik es cs el) := by
  refine IHE.plain (fun _ => rfl) fun C Wn X g x hc => ?_
  obtain ⟨y, tg, it, ifs, scope, pos, rfl, pi, blk, hs, pg, pts, pe⟩ := s_lc he hcs hel g hc
  refine ⟨rfl, (pe_lc g.calm g.nd pi blk pg pts pe hs).imp fun σ H Q ⟨F, ρ, r, o⟩ => ?_⟩
  rw [own_slots]
  refine lc_read (C := C) r ?_
  cases q : evE cl (.lc t ik es cs el) ρ with
  | no => rw [q] at o; exact o
  | ex c => rw [q] at o; exact o
  | ok d => rw [q] at o; exact fun F' H' v s y => o F' H' v s y.1

/-! ### comprehensions that let exceptions out -/
mutual
theorem bindT_ex : ∀ (t : Tg) (d : D) (ρ : MT.Env) (c : Nat), bindT t d ρ ≠ .ex c
  | .nm i, d, ρ, c => by
    intro h
    have h : put ρ i (.val d) = .ex c := h
    unfold put at h
    split at h <;> cases h
  | .tp ts, d, ρ, c => by
    cases d <;> first
      | (intro h; cases h; done)
      | skip
    rename_i ds
    exact bindTs_ex ts ds ρ c
theorem bindTs_ex : ∀ (ts : List Tg) (ds : List D) (ρ : MT.Env) (c : Nat), bindTs ts ds ρ ≠ .ex c
  | [], ds, ρ, c => by cases ds <;> (intro h; cases h)
  | t :: ts, ds, ρ, c => by
    cases ds with
    | nil => intro h; cases h
    | cons d ds =>
      intro h
      have h : ((bindT t d ρ).bind fun ρ' => bindTs ts ds ρ') = .ex c := h
      cases q1 : bindT t d ρ with
      | no => rw [q1] at h; cases h
      | ex c' => exact bindT_ex t d ρ c' q1
      | ok ρ1 => rw [q1] at h; exact bindTs_ex ts ds ρ1 c h
end
theorem Good.toBlkx {C : SC} {Wn : WN} {X : Cx} (g : Good C cl Wn k xv X) (hb : C.blk = false) {pins : List (Addr × Obj)} {σ : L2.St} {s : Shared} {H : Hp} {fp : List Addr} (I : L2.Inv X pins σ H s) (f : ∀ b ∈ fp, FpOk X pins H b ∧ b < s.heap.objs.size) (scope : Scope) (cls : List (Str × Addr)) :
    Good { C with sc := relS scope C.sc, blk := true } cl (fun c _ H => Wn c σ H) k xv (blkx X s H scope (compEnvC scope cls s.heap.objs.size X.env) fp) where
  calm := g.calm
  N := g.N
  nd := g.nd
  sc := by
    show relS scope X.env.scope = relS scope C.sc
    rw [g.sc]
  fl := fun h => by cases h
  room := g.room
  fns := g.fns
  free := g.free
  gcs := g.gcs
  takes := fun h => by cases h
  pa := fun σ' => blk_pass (g.takes hb) (g.stk hb).1 (g.stk hb).2 I f σ'
  pass := fun h => by cases h
  xf := g.xf
  td := g.td
  stk := fun h => by cases h
theorem s_lcx {t : Tg} {ik : IK} {es cs : List E} {el : E} (he : ∀ e ∈ es, IHE cl k xv e) (hcs : ∀ e ∈ cs, IHE cl k xv e) (hel : IHE cl k xv el) {C : SC} {Wn : WN} {X : Cx} (g : Good C cl Wn k xv X) {x : Expr} (hc : chkE C (.lcx t ik es cs el) x = true) :
    ∃ y tg it ifs scope pos, x = .ListComp y [⟨tg, it, ifs, 0⟩] scope pos ∧ PI X tg it (tI X.K cl Wn ik es) ∧ BlkOk X.N X.env.scope scope (ownOf C t) ∧ (∀ v, foldedSetIterable it X.env v = pure v) ∧
      (∀ (s : Shared) (H : Hp) (Ca : Addr) (cls : List (Str × Addr)) (fp : List Addr), PG (blkx X s H scope (compEnvC scope cls Ca X.env) fp) tg (gT X.K t)) ∧
      (∀ (pins : List (Addr × Obj)) (σ : L2.St) (s : Shared) (H : Hp) (cls : List (Str × Addr)) (fp : List Addr), L2.Inv X pins σ H s → (∀ b ∈ fp, FpOk X pins H b ∧ b < s.heap.objs.size) → PTs (blkx X s H scope (compEnvC scope cls s.heap.objs.size X.env) fp) ifs (tCs X.K cl (fun c _ H => Wn c σ H) cs)) ∧
      (∀ (pins : List (Addr × Obj)) (σ : L2.St) (s : Shared) (H : Hp) (cls : List (Str × Addr)) (fp : List Addr), L2.Inv X pins σ H s → (∀ b ∈ fp, FpOk X pins H b ∧ b < s.heap.objs.size) → PE (blkx X s H scope (compEnvC scope cls s.heap.objs.size X.env) fp) y (tE X.K cl (fun c _ H => Wn c σ H) el)) := by
  unfold chkE at hc
  split at hc
  · rename_i y tg it ifs a scope pos
    simp only [Bool.and_eq_true, decide_eq_true_eq, Bool.not_eq_true'] at hc
    obtain ⟨⟨⟨⟨⟨⟨⟨⟨hb, rfl⟩, c1⟩, c2⟩, c3⟩, c4⟩, c5⟩, c6⟩, c7⟩ := hc
    rw [chkI_eq] at c5
    rw [chkCond_eq] at c6
    refine ⟨y, tg, it, ifs, scope, pos, rfl, s_iter g he c5, ?_, notSet c4 X.env, fun s H Ca cls fp => ⟨fun pins s' σ H' v u Q I h1 h2 => thnF ((s_tg (g.toBlk s H scope Ca cls fp) t tg c1).run pins s' σ H' v u Q (inv_xe I) h1 h2) fun _ s'' ⟨σ', H'', I', q⟩ => ⟨σ', H'', inv_xe I', q⟩⟩, fun pins σ s H cls fp I f => s_cond (g.toBlkx hb I f scope cls) hcs c6, fun pins σ s H cls fp I f => hel.pe (g.toBlkx hb I f scope cls) c7⟩
    rw [g.N, g.sc]
    exact blkOk_by c2
  · cases hc
/-- the reading of a comprehension that lets exceptions out -/
theorem lcx_read {Wn : WN} {K : PySem.W.Frag} {t : Tg} {ik : IK} {es cs : List E} {el : E} {σ : L2.St} {F H : Hp} {ρ : MT.Env} {Q : VK} (r : Rel K F ρ σ H) (o : Out Wn F H σ (evE cl (.lcx t ik es cs el) ρ) (YV K) Q) :
    tLc (tI K cl Wn ik es) (gT K t) (tCs K cl (fun c _ H => Wn c σ H) cs) (tE K cl (fun c _ H => Wn c σ H) el) t.slots σ H Q := by
  have o : Out Wn F H σ ((evEs cl es ρ).bind fun ds => (itD ik ds).bind fun xs => guardR (sz xs.length) ((lcGo t (evC cl cs) (evE cl el) (wipeE ρ t.slots) xs).bind fun ys => R.ok (D.lst ys))) (YV K) Q := o
  rw [← bindR_assoc] at o
  refine ⟨F, ρ, r, Out.bind o fun F1 H1 J xs s1 ⟨Src, wk, src⟩ o1 => fun Dd hD => ?_⟩
  obtain ⟨hz, o1⟩ : sz xs.length = true ∧ Out Wn F1 H1 σ ((lcGo t (evC cl cs) (evE cl el) (wipeE ρ t.slots) xs).bind fun ys => R.ok (D.lst ys)) (YV K) Q := by
    cases hz : sz xs.length with
    | false => rw [hz] at o1; exact (show False from o1).elim
    | true => rw [hz] at o1; exact ⟨rfl, o1⟩
  have hz := sz_ok hz
  have hD0 : H Dd = none := s1.h.free hD
  generalize hr0 : ((lcGo t (evC cl cs) (evE cl el) (wipeE ρ t.slots) xs).bind fun ys => R.ok (D.lst ys)) = r0 at o1
  refine ⟨fun i m H2 => m = xs.length - i ∧ i ≤ xs.length ∧ ∃ F2 acc vs, Step F1 H1 F2 H2 ∧ H2 Dd = some (.lst vs) ∧ F2 Dd = none ∧ DVs K F2 vs acc ∧ acc.length ≤ i ∧ ((lcGo t (evC cl cs) (evE cl el) (wipeE ρ t.slots) (xs.drop i)).bind fun rest => R.ok (D.lst (acc ++ rest))) = r0,
    ⟨xs.length, by simp, Nat.zero_le _, F1, [], [], (Step.refl s1.s).side hD (s1.s.free hD), upd_same, s1.s.free hD, .nil, Nat.le_refl _, by rw [List.drop_zero]; exact hr0⟩, ?_⟩
  rintro i m H2 ⟨rfl, hi, F2, acc, vs, s2, hDv, hDf, ya, hal, eg⟩
  have src2 := wk.mono F1 F2 src s2.f
  by_cases hlt : i < xs.length
  · refine .inr ⟨wk.go i F2 H2 s2.s src2 hlt, fun H3 => (i + 1 ≤ xs.length ∧ ∃ F2 acc vs, Step F1 H1 F2 H3 ∧ H3 Dd = some (.lst vs) ∧ F2 Dd = none ∧ DVs K F2 vs acc ∧ acc.length ≤ i + 1 ∧ ((lcGo t (evC cl cs) (evE cl el) (wipeE ρ t.slots) (xs.drop (i + 1))).bind fun rest => R.ok (D.lst (acc ++ rest))) = r0),
      fun H3 h3 => ⟨xs.length - (i + 1), by omega, rfl, h3.1, h3.2⟩, fun x H3 hy => ?_⟩
    obtain ⟨d, ed, F3, s3, yd⟩ := wk.yld i F2 H2 x H3 s2.s src2 hlt hy
    have edrop : xs.drop i = d :: xs.drop (i + 1) := by
      rw [List.drop_eq_getElem_cons hlt]
      have := List.getElem?_eq_getElem hlt
      rw [ed] at this
      rw [Option.some.inj this]
    rw [edrop] at eg
    have eg : (((bindT t d (wipeE ρ t.slots)).bind fun ρ' => (evC cl cs ρ').bind fun b => if b = true then (evE cl el ρ').bind fun y => (lcGo t (evC cl cs) (evE cl el) (wipeE ρ t.slots) (xs.drop (i + 1))).bind fun ys => .ok (y :: ys) else lcGo t (evC cl cs) (evE cl el) (wipeE ρ t.slots) (xs.drop (i + 1))).bind fun rest => R.ok (D.lst (acc ++ rest))) = r0 := eg
    have rw3 : Rel K F3 (wipeE ρ t.slots) (L2.wipe σ t.slots) H3 := ((((r.step s1).step s2).step s3).wipe t.slots)
    have s13 := s2.trans s3
    refine ⟨F3, wipeE ρ t.slots, d, rw3, yd, ?_⟩
    cases qb : bindT t d (wipeE ρ t.slots) with
    | no => rw [qb] at eg; rw [← eg] at o1; exact (show False from o1).elim
    | ex c => exact absurd qb (bindT_ex t d _ c)
    | ok ρ' =>
      rw [qb] at eg
      intro σ' r' l' n'
      refine ⟨(wipe_ext l' n').trans wipe_idem, F3, ρ', r', ?_⟩
      have eg : (((evC cl cs ρ').bind fun b => if b = true then (evE cl el ρ').bind fun y => (lcGo t (evC cl cs) (evE cl el) (wipeE ρ t.slots) (xs.drop (i + 1))).bind fun ys => .ok (y :: ys) else lcGo t (evC cl cs) (evE cl el) (wipeE ρ t.slots) (xs.drop (i + 1))).bind fun rest => R.ok (D.lst (acc ++ rest))) = r0 := eg
      cases qc : evC cl cs ρ' with
      | no => rw [qc] at eg; rw [← eg] at o1; exact (show False from o1).elim
      | ex c =>
        rw [qc] at eg
        rw [← eg] at o1
        exact fun F' H' s4 => o1 F' H' (s13.trans s4)
      | ok b =>
        rw [qc] at eg
        intro F4 H4 b' s4 eb
        subst eb
        cases b' with
        | false =>
          refine iteF ⟨hlt, F4, acc, vs, s13.trans s4, s4.h _ _ (s3.h _ _ hDv), ?_, (ya.mono s3.f).mono s4.f, by omega, eg⟩
          rw [s4.n Dd _ (s3.h _ _ hDv), s3.n Dd _ hDv]
          exact hDf
        | true =>
          refine iteT ⟨F4, ρ', r'.step s4, ?_⟩
          have eg : (((evE cl el ρ').bind fun y => (lcGo t (evC cl cs) (evE cl el) (wipeE ρ t.slots) (xs.drop (i + 1))).bind fun ys => .ok (y :: ys)).bind fun rest => R.ok (D.lst (acc ++ rest))) = r0 := eg
          cases qe : evE cl el ρ' with
          | no => rw [qe] at eg; rw [← eg] at o1; exact (show False from o1).elim
          | ex c =>
            rw [qe] at eg
            rw [← eg] at o1
            exact fun F' H' s5 => o1 F' H' ((s13.trans s4).trans s5)
          | ok dy =>
            rw [qe] at eg
            intro F5 H5 y s5 yy
            have h5 : H5 Dd = some (.lst vs) := s5.h _ _ (s4.h _ _ (s3.h _ _ hDv))
            have f5 : F5 Dd = none := by rw [s5.n Dd _ (s4.h _ _ (s3.h _ _ hDv)), s4.n Dd _ (s3.h _ _ hDv), s3.n Dd _ hDv]; exact hDf
            have hl := ya.length
            have s15 := (s13.trans s4).trans s5
            refine ⟨vs, h5, by omega, hlt, F5, acc ++ [dy], vs ++ [y], s15.side hD f5, upd_same, f5, (((ya.mono s3.f).mono s4.f).mono s5.f).append (.cons yy .nil), by simp; omega, ?_⟩
            rw [← eg]
            show _ = (((lcGo t (evC cl cs) (evE cl el) (wipeE ρ t.slots) (xs.drop (i + 1))).bind fun ys => R.ok (dy :: ys)).bind fun rest => R.ok (D.lst (acc ++ rest)))
            rw [bindR_assoc]
            congr 1
            funext rest
            show R.ok (D.lst (acc ++ [dy] ++ rest)) = R.ok (D.lst (acc ++ (dy :: rest)))
            rw [List.append_assoc]; rfl
  · have ei : i = xs.length := by omega
    subst ei
    refine .inl ⟨wk.stop F2 H2 s2.s src2, ?_⟩
    rw [List.drop_length] at eg
    have eg : R.ok (D.lst (acc ++ [])) = r0 := eg
    rw [List.append_nil] at eg
    rw [← eg] at o1
    exact o1 _ _ _ (s2.freeze hD hDf hDv) (dv_lst_new hDf ya)
theorem s_lcxE {t : Tg} {ik : IK} {es cs : List E} {el : E} (he : ∀ e ∈ es, IHE cl k xv e) (hcs : ∀ e ∈ cs, IHE cl k xv e) (hel : IHE cl k xv el) : IHE cl k xv (.lcx t ik es cs el) := by
  refine IHE.plain (fun _ => rfl) fun C Wn X g x hc => ?_
  obtain ⟨y, tg, it, ifs, scope, pos, rfl, pi, blk, hs, pg, pts, pe⟩ := s_lcx he hcs hel g hc
  refine ⟨rfl, (pe_lcx g.calm g.nd pi blk pg pts pe hs).imp fun σ H Q ⟨F, ρ, r, o⟩ => ?_⟩
  rw [own_slots]
  exact lcx_read r o

/-! ### tables of the top -/
theorem lookG_mem {kvs : List (List Nat × List Nat)} {s t : List Nat} (h : lookG kvs s = some t) : (s, t) ∈ kvs := by
  unfold lookG at h
  obtain ⟨p, h1, h2⟩ := Option.map_eq_some_iff.mp h
  have h3 := List.find?_some h1
  have h4 := List.mem_of_find?_eq_some h1
  have e : p.1 = s := by simpa using h3
  rw [← e, ← h2]
  exact h4
def gdK (kvs : List (List Nat × List Nat)) : D → R D
  | .str s => (match lookG kvs s with
    | some t => .ok (.str t)
    | none => .no)
  | _ => .no
theorem evE_gd (kvs : List (List Nat × List Nat)) (e : E) (ρ : MT.Env) : evE cl (.gd kvs e) ρ = (evE cl e ρ).bind (gdK kvs) := by
  have h : ∀ r : R D, (r.bind fun x => match x with
    | .str s => (match lookG kvs s with
      | some t => R.ok (D.str t)
      | none => R.no)
    | _ => R.no) = r.bind (gdK kvs) := fun r => by
    cases r with
    | ok d => cases d <;> rfl
    | ex c => rfl
    | no => rfl
  exact h _
theorem s_gd {kvs : List (List Nat × List Nat)} {e : E} (he : IHE cl k xv e) : IHE cl k xv (.gd kvs e) := by
  refine IHE.plain (fun _ => rfl) fun C Wn X g x hc => ?_
  unfold chkE at hc
  split at hc
  · simp only [Bool.and_eq_true, Bool.not_eq_true', decide_eq_true_eq] at hc
    obtain ⟨⟨⟨⟨h1, h2⟩, h3⟩, h4⟩, h5⟩ := hc
    obtain ⟨a, hm, hk⟩ := g.td _ kvs h3
    refine ⟨rfl, (pe_ix ix_kdict (pe_glob (v := .ref a) (g.gl h1) hm rfl (nm_ok h2).1) (he.pe g h5) (plainIx h4)).imp fun σ H Q ⟨F, ρ, r, o⟩ => ?_⟩
    rw [evE_gd] at o
    refine ⟨F, ρ, r, Out.bind o fun F1 H1 v d s1 y1 h1 => ?_⟩
    cases d <;> first
      | exact (show False from h1).elim
      | skip
    rename_i s
    cases y1
    have h1 : Out Wn F1 H1 σ (match lookG kvs s with
      | some t => R.ok (D.str t)
      | none => R.no) (YV X.K) Q := h1
    cases q : lookG kvs s with
    | none => rw [q] at h1; exact (show False from h1).elim
    | some t =>
      rw [q] at h1
      exact ⟨a, mkS s, .str (mkS t), rfl, rfl, hk _ (lookG_mem q), h1 F1 H1 (.str (mkS t)) (Step.refl s1.s) (.str t)⟩
  · cases hc
/-! ### every expression -/
mutual
theorem sE : ∀ e : E, IHE cl k xv e ∧ IHW cl k xv e
  | .c d => ⟨s_c d, s_noW fun C op l r p => by cases d <;> rfl⟩
  | .v i => ⟨s_v i, s_noW fun C op l r p => rfl⟩
  | .bin o a b => ⟨s_bin o (sE a).1 (sE b).1, s_noW fun C op l r p => rfl⟩
  | .cmp o a b => ⟨s_cmp o (sE a).1 (sE b).1, s_noW fun C op l r p => rfl⟩
  | .chain o o' a b c => ⟨s_chain o o' (sE a).1 (sE b).1 (sE c).1, s_noW fun C op l r p => rfl⟩
  | .and a b => s_and (sE a).1 (sE b).1 (sE b).2
  | .or a b => s_or (sE a).1 (sE b).1 (sE b).2
  | .not a => ⟨s_not (sE a).1, s_noW fun C op l r p => rfl⟩
  | .neg a => ⟨s_neg (sE a).1, s_noW fun C op l r p => rfl⟩
  | .ife t a b => ⟨s_ife (sE t).1 (sE a).1 (sE b).1, s_noW fun C op l r p => rfl⟩
  | .tup es => ⟨s_tup (sEs es).2, s_noW fun C op l r p => rfl⟩
  | .lst es => ⟨s_lst (sEs es).2, s_noW fun C op l r p => rfl⟩
  | .idx a i => ⟨s_idx (sE a).1 (sE i).1, s_noW fun C op l r p => rfl⟩
  | .slLo a l => ⟨s_slLo (sE a).1 (sE l).1, s_noW fun C op l r p => rfl⟩
  | .slHi a l => ⟨s_slHi (sE a).1 (sE l).1, s_noW fun C op l r p => rfl⟩
  | .slLH a l h => ⟨s_slLH (sE a).1 (sE l).1 (sE h).1, s_noW fun C op l r p => rfl⟩
  | .rev a => ⟨s_rev (sE a).1, s_noW fun C op l r p => rfl⟩
  | .call f es => ⟨s_call f (sEs es).2, s_noW fun C op l r p => rfl⟩
  | .pr p es => ⟨s_pr p (sEs es).2 (sEs es).1, s_noW fun C op l r p => rfl⟩
  | .me p o es => ⟨s_me p (sE o).1 (sEs es).2, s_noW fun C op l r p => rfl⟩
  | .lc t ik es cs el => ⟨s_lcE (sEs es).1 (sEs cs).1 (sE el).1, s_noW fun C op l r p => rfl⟩
  | .lcx t ik es cs el => ⟨s_lcxE (sEs es).1 (sEs cs).1 (sE el).1, s_noW fun C op l r p => rfl⟩
  | .gd kvs e => ⟨s_gd (sE e).1, s_noW fun C op l r p => rfl⟩
  | .dgt i es => ⟨s_dgt (sEs es).2, s_noW fun C op l r p => rfl⟩
theorem sEs : ∀ es : List E, (∀ e ∈ es, IHE cl k xv e) ∧ IHS cl k xv es
  | [] => ⟨fun e h => (List.not_mem_nil h).elim, s_nil⟩
  | e :: es => ⟨(by
      have h1 := (sE e).1
      have h2 := (sEs es).1
      intro x h
      rcases List.mem_cons.mp h with rfl | h
      · exact h1
      · exact h2 x h), s_cons (sE e).1 (sEs es).2⟩
end
end
end MT
namespace MT
open PySem L2

/-! ### from a def's beginning on -/
structure RelS (K : PySem.W.Frag) (F0 H0 F : Hp) (ρ : MT.Env) (σ : L2.St) (H : Hp) : Prop where
  rel : Rel K F ρ σ H
  st : Step F0 H0 F H
  new : ∀ (i : Nat) (xs : List D) (a : Addr), ρ[i]? = some (.own xs) → σ[i]? = some (some (.ref a)) → H0 a = none
  newO : ∀ (i : Nat) (tk : Option Nat) (o : Ob) (a : Addr), ρ[i]? = some (.obj tk o) → σ[i]? = some (some (.ref a)) → H0 a = none
section
variable {K : PySem.W.Frag} {F0 H0 F F' H H' : Hp} {ρ : MT.Env} {σ : L2.St}
theorem RelS.newO_set {i : Nat} {v : SV} {w : Option V} (r : RelS K F0 H0 F ρ σ H) (hv : v.nob = true) : ∀ (j : Nat) (tk : Option Nat) (o : Ob) (a : Addr), (ρ.set i v)[j]? = some (.obj tk o) → (σ.set i w)[j]? = some (some (.ref a)) → H0 a = none := fun j tk o a e1 e2 => by
  obtain ⟨hj, e1⟩ := set_obj hv e1
  rw [List.getElem?_set_ne (Ne.symm hj)] at e2
  exact r.newO j tk o a e1 e2
theorem RelS.newO_set1 {i : Nat} {v : SV} (r : RelS K F0 H0 F ρ σ H) (hv : v.nob = true) : ∀ (j : Nat) (tk : Option Nat) (o : Ob) (a : Addr), (ρ.set i v)[j]? = some (.obj tk o) → σ[j]? = some (some (.ref a)) → H0 a = none := fun j tk o a e1 e2 =>
  r.newO j tk o a (set_obj hv e1).2 e2
theorem RelS.step (r : RelS K F0 H0 F ρ σ H) (s : Step F H F' H') : RelS K F0 H0 F' ρ σ H' := ⟨r.rel.step s, r.st.trans s, r.new, r.newO⟩
theorem RelS.put {i : Nat} {v : V} {d : D} (r : RelS K F0 H0 F ρ σ H) (hi : i < ρ.length) (h : DV K F v d) : RelS K F0 H0 F (ρ.set i (.val d)) (σ.set i (some v)) H := by
  refine ⟨r.rel.put hi h, r.st, fun j xs a e1 e2 => ?_, r.newO_set rfl⟩
  by_cases hj : j = i
  · subst hj
    rw [List.getElem?_set_self hi] at e1
    cases e1
  · rw [List.getElem?_set_ne (Ne.symm hj)] at e1 e2
    exact r.new j xs a e1 e2
theorem RelS.putOwn {i : Nat} {a : Addr} {vs : List V} {ds : List D} (r : RelS K F0 H0 F ρ σ H) (s : Step F H F' H') (hi : i < ρ.length) (h0 : H a = none) (ha : H' a = some (.lst vs)) (hf : F' a = none) (h : DVs K F' vs ds) :
    RelS K F0 H0 F' (ρ.set i (.own ds)) (σ.set i (some (.ref a))) H' := by
  have hi' : i < σ.length := r.rel.len ▸ hi
  refine ⟨(r.rel.step s).putOwn hi ha hf h fun j xs hj e1 e2 => ?_, r.st.trans s, fun j xs b e1 e2 => ?_, r.newO_set rfl⟩
  · obtain ⟨b, ws, f1, f2, _⟩ := r.rel.own j xs e1
    rw [e2] at f1
    cases f1
    rw [h0] at f2
    cases f2
  · by_cases hj : j = i
    · subst hj
      rw [List.getElem?_set_self hi'] at e2
      cases e2
      exact r.st.h.free h0
    · rw [List.getElem?_set_ne (Ne.symm hj)] at e1 e2
      exact r.new j xs b e1 e2
theorem RelS.upd {i : Nat} {a : Addr} {vs : List V} {xs ds : List D} (r : RelS K F0 H0 F ρ σ H) (ho : ρ[i]? = some (.own xs)) (ha : σ[i]? = some (some (.ref a))) (h : DVs K F vs ds) :
    RelS K F0 H0 F (ρ.set i (.own ds)) σ (L2.upd H a (.lst vs)) := by
  obtain ⟨a', vs', e1, e2, e3, _⟩ := r.rel.own i xs ho
  rw [ha] at e1
  cases e1
  refine ⟨r.rel.upd ho ha h, r.st.side (r.new i xs a ho ha) e3, fun j ys b q1 q2 => ?_, r.newO_set1 rfl⟩
  by_cases hj : j = i
  · subst hj
    exact r.new j xs b ho q2
  · rw [List.getElem?_set_ne (Ne.symm hj)] at q1
    exact r.new j ys b q1 q2
theorem RelS.frz {i : Nat} {xs : List D} (r : RelS K F0 H0 F ρ σ H) (ho : ρ[i]? = some (.own xs)) : ∃ F', Same F F' ∧ RelS K F0 H0 F' (ρ.set i (.val (.lst xs))) σ H := by
  obtain ⟨a, vs, e1, e2, e3, h⟩ := r.rel.own i xs ho
  obtain ⟨F', sF, r', eF⟩ := r.rel.frzE ho e1 e2
  subst eF
  refine ⟨_, sF, r', r.st.freeze (r.new i xs a ho e1) e3 e2, fun j ys b q1 q2 => ?_, r.newO_set1 rfl⟩
  by_cases hj : j = i
  · subst hj
    rw [List.getElem?_set_self (List.getElem?_eq_some_iff.mp ho).1] at q1
    cases q1
  · rw [List.getElem?_set_ne (Ne.symm hj)] at q1
    exact r.new j ys b q1 q2
/-- an object of one's own, that was not there at the def's beginning -/
theorem RelS.putObj {i : Nat} {a : Addr} {ho : HO} {o : Ob} (r : RelS K F0 H0 F ρ σ H) (hi : i < ρ.length) (hp : H a = none) (ok : ObOk K o ho) (nb : ∀ v ∈ ρ, SV.nob v = true) :
    RelS K F0 H0 F (ρ.set i (.obj none o)) (σ.set i (some (.ref a))) (L2.upd H a ho) := by
  have hi' : i < σ.length := r.rel.len ▸ hi
  have fa : F a = none := r.rel.sub.free hp
  have nob : ∀ j tk o, ρ[j]? ≠ some (SV.obj tk o) := fun j tk o e => by
    have := nb _ (List.mem_of_getElem? e)
    cases this
  have r1 : Rel K F ρ σ (L2.upd H a ho) := r.rel.side fa (fun j xs e q => by
    obtain ⟨b, vs, e1, e2, _⟩ := r.rel.own j xs e
    rw [e1] at q
    cases q
    rw [hp] at e2
    cases e2) (fun j tk o e => absurd e (nob j tk o))
  refine ⟨r1.putObj hi (fun b e => nomatch e) upd_same ok fa (fun j tk o _ => nob j tk o), r.st.side (r.st.h.free hp) fa, fun j xs b e1 e2 => ?_, fun j tk o' b e1 e2 => ?_⟩
  · have hj : j ≠ i := fun e => by subst e; rw [List.getElem?_set_self hi] at e1; cases e1
    rw [List.getElem?_set_ne (Ne.symm hj)] at e1 e2
    exact r.new j xs b e1 e2
  · by_cases hj : j = i
    · subst hj
      rw [List.getElem?_set_self hi'] at e2
      cases e2
      exact r.st.h.free hp
    · rw [List.getElem?_set_ne (Ne.symm hj)] at e1
      exact absurd e1 (nob j tk o')
/-- the object of a slot changes -/
theorem RelS.updObj {i : Nat} {a : Addr} {ho : HO} {tk : Option Nat} {o o' : Ob} (r : RelS K F0 H0 F ρ σ H) (e : ρ[i]? = some (.obj tk o)) (ha : σ[i]? = some (some (.ref a))) (ok : ObOk K o' ho) :
    RelS K F0 H0 F (ρ.set i (.obj tk o')) σ (L2.upd H a ho) := by
  obtain ⟨a', ho0, e1, e2, e3, e4, e5⟩ := r.rel.obj i tk o e
  rw [ha] at e1
  cases e1
  have hi : i < ρ.length := (List.getElem?_eq_some_iff.mp e).1
  refine ⟨r.rel.updObj e ha ok, r.st.side (r.newO i tk o a e ha) e5, fun j xs b q1 q2 => ?_, fun j tk' o'' b q1 q2 => ?_⟩
  · have hj : j ≠ i := fun e => by subst e; rw [List.getElem?_set_self hi] at q1; cases q1
    rw [List.getElem?_set_ne (Ne.symm hj)] at q1
    exact r.new j xs b q1 q2
  · by_cases hj : j = i
    · subst hj
      exact r.newO j tk o b e q2
    · rw [List.getElem?_set_ne (Ne.symm hj)] at q1
      exact r.newO j tk' o'' b q1 q2
end

/-! ### what a block comes to -/
def OutS (K : PySem.W.Frag) (Wn : WN) (F0 H0 F : Hp) (r : R Fl) (D : Ends) : Prop := match r with
  | .ok (.nx ρ) => ∀ F' σ H, Same F F' → RelS K F0 H0 F' ρ σ H → D.nx σ H
  | .ok (.ct ρ) => ∀ F' σ H, Same F F' → RelS K F0 H0 F' ρ σ H → D.ct σ H
  | .ok (.rt d) => ∀ F' v H, Step F0 H0 F' H → DV K F' v d → D.rt v H
  | .ex c => ∀ F' σ H, Same F F' → Step F0 H0 F' H → Wn c σ H
  | .no => False
def tS (K : PySem.W.Frag) (cl : CL) (Wn : WN) (s : S) : TS := fun D σ H => ∃ F0 H0 F ρ, RelS K F0 H0 F ρ σ H ∧ OutS K Wn F0 H0 F (evS cl s ρ) D
def tSs (K : PySem.W.Frag) (cl : CL) (Wn : WN) (s : List S) : TS := fun D σ H => ∃ F0 H0 F ρ, RelS K F0 H0 F ρ σ H ∧ OutS K Wn F0 H0 F (evSs cl s ρ) D
section
variable {K : PySem.W.Frag} {F0 H0 F F' H H' : Hp} {ρ : MT.Env} {σ : L2.St} {Wn : WN} {D : Ends}
theorem OutS.mono {r : R Fl} (s : Same F F') (h : OutS K Wn F0 H0 F r D) : OutS K Wn F0 H0 F' r D := by
  cases r with
  | no => exact h
  | ex c => exact fun F2 σ H s2 => h F2 σ H (s.trans s2)
  | ok f =>
    cases f with
    | nx ρ => exact fun F2 σ H s2 => h F2 σ H (s.trans s2)
    | ct ρ => exact fun F2 σ H s2 => h F2 σ H (s.trans s2)
    | rt d => exact h
theorem OutS.bindE {α β : Type} {r : R α} {f : α → R Fl} {Y : Hp → Hp → β → α → Prop} {Q : β → Hp → Prop} (st : Step F0 H0 F H) (h : OutS K Wn F0 H0 F (r.bind f) D)
    (k : ∀ F' H' v d, r = .ok d → Step F H F' H' → Y F' H' v d → OutS K Wn F0 H0 F' (f d) D → Q v H') : Out Wn F H σ r Y Q := by
  cases r with
  | ok d => exact fun F2 H2 v s2 y => k F2 H2 v d rfl s2 y (h.mono s2.f)
  | ex c => exact fun F2 H2 s2 => h F2 σ H2 s2.f (st.trans s2)
  | no => exact h
theorem OutS.guard {b : Bool} {r : R Fl} (h : OutS K Wn F0 H0 F (guardR b r) D) : b = true ∧ OutS K Wn F0 H0 F r D := by
  cases b with
  | false => exact (show False from h).elim
  | true => exact ⟨rfl, h⟩
theorem OutS.put {i : Nat} {v : SV} {f : MT.Env → R Fl} (h : OutS K Wn F0 H0 F ((put ρ i v).bind f) D) : i < ρ.length ∧ OutS K Wn F0 H0 F (f (ρ.set i v)) D := by
  unfold MT.put at h
  by_cases hi : i < ρ.length
  · rw [if_pos hi] at h; exact ⟨hi, h⟩
  · rw [if_neg hi] at h; exact (show False from h).elim
theorem OutS.own {i : Nat} {f : List MT.D → R Fl} (h : OutS K Wn F0 H0 F ((getOwn ρ i).bind f) D) : ∃ xs, ρ[i]? = some (.own xs) ∧ OutS K Wn F0 H0 F (f xs) D := by
  unfold getOwn at h
  cases e : ρ[i]? with
  | none => rw [e] at h; exact (show False from h).elim
  | some v =>
    rw [e] at h
    cases v with
    | own xs => exact ⟨xs, rfl, h⟩
    | un => exact (show False from h).elim
    | val d => exact (show False from h).elim
    | obj tk o => exact (show False from h).elim
end

section
variable {cl : CL} {k : Nat} {xv : Nat → Value} {C : SC} {Wn : WN} {X : Cx}
theorem nmOk_ok (g : Good C cl Wn k xv X) (hb : C.blk = false) {i : Nat} {x : Str} (h : nmOk C i x = true) : X.N[i]? = some x ∧ L2.Loc X.env.scope x ∧ X.fn x = true := by
  unfold nmOk at h
  simp only [Bool.and_eq_true] at h
  exact ⟨by rw [g.N]; exact of_decide_eq_true h.1, by rw [g.sc]; exact lcl_ok h.2, g.fl hb x⟩
theorem sw_eq {elt : Expr} {gs : List Comprehension} {scope : Scope} {pos py : Pos} {y : Str} {l : Nat} {env : PySem.Env} : swapsWith (.ListComp elt gs scope pos) (some (.Name y py)) l env = pure (swB env.scope scope y py pos) := by
  unfold swapsWith swB PySem.Env.blockKind PySem.Env.kindOf
  rfl
/-- a new list of one's own -/
def YO (K : PySem.W.Frag) (H : Hp) : Hp → Hp → V → D → Prop := fun F' H' v d => ∃ p vs ys, v = .ref p ∧ d = .lst ys ∧ H p = none ∧ H' p = some (.lst vs) ∧ F' p = none ∧ DVs K F' vs ys
def YO2 (K : PySem.W.Frag) (H : Hp) : Hp → Hp → V → D → Prop := fun F' H' v d => YO K H F' H' v d ∨ ((∀ ys, d ≠ .lst ys) ∧ DV K F' v d)
theorem YO2.mono {K : PySem.W.Frag} {H H1 F' H' : Hp} {v : V} {d : D} (s : Same H H1) (h : YO2 K H1 F' H' v d) : YO2 K H F' H' v d := by
  rcases h with ⟨p, vs, ys, h1, h2, h3, h4⟩ | h
  · exact .inl ⟨p, vs, ys, h1, h2, s.free h3, h4⟩
  · exact .inr h
def tO (K : PySem.W.Frag) (cl : CL) (Wn : WN) (e : E) : TE := fun σ H Q => ∃ F ρ, Rel K F ρ σ H ∧ Out Wn F H σ (evE cl e ρ) (YO2 K H) Q
theorem guard_ok {α : Type} {b : Bool} {r : R α} {a : α} (h : guardR b r = .ok a) : r = .ok a := by
  cases b with
  | false => cases h
  | true => exact h
/-- a sum that may be a new list -/
def rPO (K : PySem.W.Frag) : R2 := fun x y H Q => ∃ F dx dy, Same F H ∧ DB K F H x dx ∧ DB K F H y dy ∧ match binD .add dx dy with
  | .ok d => ∀ F' H' v, Step F H F' H' → YO2 K H F' H' v d → Q v H'
  | _ => False
theorem op_addO : OpR X (binaryOp .Add) (rPO X.K) := by
  intro pins s σ H x y v u Q I rx ry h
  obtain ⟨F, dx, dy, sb, hx, hy, h⟩ := h
  by_cases hll : ∃ xs ys, dx = .lst xs ∧ dy = .lst ys
  · obtain ⟨xs, ys, rfl, rfl⟩ := hll
    obtain ⟨a, vs, rfl, qa, ha⟩ := hx.list sb
    obtain ⟨b, ws, rfl, qb, hb⟩ := hy.list sb
    have h : match guardR (sz (xs.length + ys.length)) (R.ok (D.lst (xs ++ ys))) with
      | .ok d => ∀ F' H' v, Step F H F' H' → YO2 X.K H F' H' v d → Q v H'
      | _ => False := h
    cases hz : sz (xs.length + ys.length) with
    | false => rw [hz] at h; exact (show False from h).elim
    | true =>
      rw [hz] at h
      refine op_catR pins s σ H _ _ v u Q I rx ry ⟨a, b, vs, ws, rfl, rfl, qa, qb, by rw [ha.length, hb.length]; exact sz_ok hz, fun p hp => ?_⟩
      exact h F _ _ ((Step.refl sb).side hp (sb.free hp)) (.inl ⟨p, vs ++ ws, xs ++ ys, rfl, rfl, hp, upd_same, sb.free hp, ha.append hb⟩)
  · refine op_bin .add pins s σ H x y v u Q I rx ry ⟨F, dx, dy, sb, hx, hy, ?_⟩
    have nl : ∀ d, binD .add dx dy = .ok d → ∀ ys, d ≠ .lst ys := by
      intro d e zs
      cases dx <;> cases dy <;> first
        | (cases e; done)
        | (exact absurd ⟨_, _, rfl, rfl⟩ hll)
        | (have e : R.ok (D.int _) = R.ok d := e; cases e; exact fun z => nomatch z)
        | (have e := guard_ok (r := R.ok (D.str _)) e; cases e; exact fun z => nomatch z)
        | (have e := guard_ok (r := R.ok (D.tup _)) e; cases e; exact fun z => nomatch z)
    cases q : binD .add dx dy with
    | no => rw [q] at h; exact h
    | ex c => rw [q] at h; exact h
    | ok d =>
      rw [q] at h
      exact fun F' H' w st y => h F' H' w st (.inr ⟨nl d q, y⟩)
theorem s_own (g : Good C cl Wn k xv X) {e : E} (he : isLstE e = true) {x : Expr} (hc : chkE C e x = true) : PE X x (tO X.K cl Wn e) ∧ isCompX x = false := by
  cases e with
  | lst es =>
    unfold chkE at hc
    split at hc
    · rename_i xs p
      simp only [Bool.and_eq_true, decide_eq_true_eq] at hc
      have hl := chkEs_len hc.1
      refine ⟨(pe_lst ((sEs es).2 C Wn X g xs hc.1).1).imp fun σ H Q ⟨F, ρ, r, o⟩ => ⟨F, ρ, r, ?_⟩, rfl⟩
      have o : Out Wn F H σ ((evEs cl es ρ).bind fun ds => R.ok (D.lst ds)) (YO2 X.K H) Q := o
      cases q : evEs cl es ρ with
      | no => rw [q] at o; exact o
      | ex c => rw [q] at o; exact o
      | ok ds =>
        rw [q] at o
        intro F1 H1 vs s1 y1
        refine ⟨?_, fun p hp => o F1 _ _ (s1.side (s1.h.free hp) (s1.s.free hp)) (.inl ⟨p, vs, ds, rfl, rfl, s1.h.free hp, upd_same, s1.s.free hp, y1⟩)⟩
        rw [y1.length, evEs_len q, hl]
        exact Nat.le_of_lt (small1000 hc.2)
    · cases hc
  | bin o a b =>
    cases o <;> first
      | (cases he; done)
      | skip
    cases x with
    | BinOp l op r p =>
      have hc : (decide (op = opOf .add) && chkE C a l && chkE C b r) = true := hc
      simp only [Bool.and_eq_true, decide_eq_true_eq] at hc
      obtain ⟨⟨rfl, h1⟩, h2⟩ := hc
      refine ⟨(pe_op (op_addO (X := X)) ((sE a).1.pb g h1) ((sE b).1.pb g h2)).imp fun σ H Q ⟨F, ρ, r, o⟩ => ?_, rfl⟩
      have o : Out Wn F H σ ((bor ρ a (evE cl a ρ)).bind fun x => (bor ρ b (evE cl b ρ)).bind fun y => binD .add x y) (YO2 X.K H) Q := o
      refine ⟨F, ρ, r, o.bind fun F1 H1 v d s1 y1 h1 => ⟨F1, ρ, r.step s1, h1.bind fun F2 H2 w e s2 y2 h2 => ⟨F2, d, e, s2.s, y1.mono s2, y2, ?_⟩⟩⟩
      cases q : binD .add d e with
      | no => rw [q] at h2; exact h2
      | ex c => exact absurd q (binD_ex _ _ _ c)
      | ok z => rw [q] at h2; exact fun F' H' v st y => h2 F' H' v st (YO2.mono (s1.h.trans s2.h) y)
    | _ => cases hc
  | _ => cases he

mutual
theorem bindT_slots : ∀ (t : Tg) (d : D) (ρ ρ' : MT.Env), bindT t d ρ = .ok ρ' → ∀ j, (j ∈ t.slots → ∃ d, ρ'[j]? = some (.val d)) ∧ (j ∉ t.slots → ρ'[j]? = ρ[j]?)
  | .nm i, d, ρ, ρ', h, j => by
    have h : put ρ i (.val d) = .ok ρ' := h
    unfold put at h
    by_cases hi : i < ρ.length
    · rw [if_pos hi] at h
      cases h
      refine ⟨fun hj => ?_, fun hj => ?_⟩
      · have hj : j ∈ [i] := hj
        rw [List.mem_singleton.mp hj]
        exact ⟨d, List.getElem?_set_self hi⟩
      · have hj : j ∉ [i] := hj
        exact List.getElem?_set_ne fun e => hj (by simp [e])
    · rw [if_neg hi] at h
      cases h
  | .tp ts, d, ρ, ρ', h, j => by
    cases d <;> first
      | (cases h; done)
      | skip
    rename_i ds
    exact bindTs_slots ts ds ρ ρ' h j
theorem bindTs_slots : ∀ (ts : List Tg) (ds : List D) (ρ ρ' : MT.Env), bindTs ts ds ρ = .ok ρ' → ∀ j, (j ∈ Tg.slotss ts → ∃ d, ρ'[j]? = some (.val d)) ∧ (j ∉ Tg.slotss ts → ρ'[j]? = ρ[j]?)
  | [], ds, ρ, ρ', h, j => by
    cases ds with
    | nil =>
      cases h
      exact ⟨fun hj => (List.not_mem_nil hj).elim, fun _ => rfl⟩
    | cons _ _ => cases h
  | t :: ts, ds, ρ, ρ', h, j => by
    cases ds with
    | nil => cases h
    | cons d ds =>
      have h : ((bindT t d ρ).bind fun ρ' => bindTs ts ds ρ') = .ok ρ' := h
      cases q1 : bindT t d ρ with
      | no => rw [q1] at h; cases h
      | ex c => rw [q1] at h; cases h
      | ok ρ1 =>
        rw [q1] at h
        obtain ⟨a1, a2⟩ := bindT_slots t d ρ ρ1 q1 j
        obtain ⟨b1, b2⟩ := bindTs_slots ts ds ρ1 ρ' h j
        refine ⟨fun hj => ?_, fun hj => ?_⟩
        · by_cases h2 : j ∈ Tg.slotss ts
          · exact b1 h2
          · have hj : j ∈ t.slots ++ Tg.slotss ts := hj
            rcases List.mem_append.mp hj with h1 | h1
            · rw [b2 h2]; exact a1 h1
            · exact absurd h1 h2
        · have hj : j ∉ t.slots ++ Tg.slotss ts := hj
          rw [b2 fun h => hj (List.mem_append_right _ h), a2 fun h => hj (List.mem_append_left _ h)]
end
theorem RelS.bind {K : PySem.W.Frag} {F0 H0 F H : Hp} {ρ ρ' : MT.Env} {σ σ' : L2.St} {t : Tg} {d : D} (r : RelS K F0 H0 F ρ σ H) (q : bindT t d ρ = .ok ρ') (r' : Rel K F ρ' σ' H) (hn : ∀ j, j ∉ t.slots → σ'[j]? = σ[j]?) : RelS K F0 H0 F ρ' σ' H := by
  refine ⟨r', r.st, fun j xs a e1 e2 => ?_, fun j tk o a e1 e2 => ?_⟩
  · obtain ⟨a1, a2⟩ := bindT_slots t d ρ ρ' q j
    by_cases hj : j ∈ t.slots
    · obtain ⟨d', e⟩ := a1 hj
      rw [e] at e1
      cases e1
    · rw [a2 hj] at e1
      rw [hn j hj] at e2
      exact r.new j xs a e1 e2
  · obtain ⟨a1, a2⟩ := bindT_slots t d ρ ρ' q j
    by_cases hj : j ∈ t.slots
    · obtain ⟨d', e⟩ := a1 hj
      rw [e] at e1
      cases e1
    · rw [a2 hj] at e1
      rw [hn j hj] at e2
      exact r.newO j tk o a e1 e2
/-- a target gets its value, and the rest comes -/
theorem bind_read {K : PySem.W.Frag} {F0 H0 F H : Hp} {ρ : MT.Env} {σ : L2.St} {t : Tg} {d : D} {v : V} {f : MT.Env → R Fl} {D : Ends} {Q : L2.St → Hp → Prop} (r : RelS K F0 H0 F ρ σ H) (y : DV K F v d) (o : OutS K Wn F0 H0 F ((bindT t d ρ).bind f) D)
    (ex : ∀ c, bindT t d ρ ≠ .ex c) (h : ∀ ρ' σ', RelS K F0 H0 F ρ' σ' H → OutS K Wn F0 H0 F (f ρ') D → Q σ' H) : gT K t v σ H Q := by
  refine ⟨F, ρ, d, r.rel, y, ?_⟩
  cases q : bindT t d ρ with
  | no => rw [q] at o; exact o
  | ex c => exact absurd q (ex c)
  | ok ρ' =>
    rw [q] at o
    exact fun σ' r' _ hn => h ρ' σ' (r.bind q r' hn) o
theorem comp_lc {e : E} {z : Expr} (nc : isCompX z = true) (c2 : chkE C e z = true) (nl : isLcx e = false) : ∃ t ik es cs el, e = .lc t ik es cs el := by
  cases e with
  | lc t ik es cs el => exact ⟨t, ik, es, cs, el, rfl⟩
  | lcx t ik es cs el => cases nl
  | c d => cases d <;> cases z <;> first
    | (cases nc; done)
    | (cases c2; done)
  | _ => cases z <;> first
    | (cases nc; done)
    | (cases c2; done)
/-! ### the statements, one by one -/
theorem s_asg (g : Good C cl Wn k xv X) (hb : C.blk = false) {i : Nat} {fr : Bool} {e : E} {x : Stmt} (hc : chkS C (.asg i fr e) x = true) : PS X x (tS X.K cl Wn (.asg i fr e)) := by
  unfold chkS at hc
  split at hc
  · rename_i y py z pos
    simp only [Bool.and_eq_true, Bool.not_eq_true'] at hc
    obtain ⟨⟨⟨c1, c2⟩, c3⟩, c4⟩ := hc
    obtain ⟨n1, n2, n3⟩ := nmOk_ok g hb c1
    cases fr with
    | true =>
      have c3 : isLstE e = true := by simpa using c3
      obtain ⟨pe, nc⟩ := s_own g c3 c2
      refine (ps_set g.nd n1 n2 pe (notSwap nc _ _ _) (.inl n3)).imp fun D σ H ⟨F0, H0, F, ρ, r, o⟩ => ?_
      refine ⟨F, ρ, r.rel, OutS.bindE (f := fun d => (put ρ i (svOf true d)).bind fun ρ' => .ok (.nx ρ')) r.st o fun F1 H1 v d eq s1 y1 o1 => ?_⟩
      rcases y1 with ⟨p, vs, ys, rfl, rfl, h0, h1, hf, hv⟩ | ⟨nl, y1⟩
      · obtain ⟨hi, o1⟩ := o1.put
        exact o1 _ _ _ (Same.refl _) (r.putOwn s1 hi h0 h1 hf hv)
      · have e1 : svOf true d = .val d := by
          cases d <;> first
            | rfl
            | exact absurd rfl (nl _)
        rw [e1] at o1
        obtain ⟨hi, o1⟩ := o1.put
        exact o1 _ _ _ (Same.refl _) ((r.step s1).put hi y1)
    | false =>
      have main : ∀ {te : TE}, (∀ σ H Q, tE X.K cl Wn e σ H Q → te σ H Q) → ∀ D σ H, tS X.K cl Wn (.asg i false e) D σ H → tAsg te (gName i) D σ H := fun {te} ht D σ H ⟨F0, H0, F, ρ, r, o⟩ => by
        refine ht _ _ _ ⟨F, ρ, r.rel, OutS.bindE (f := fun d => (put ρ i (svOf false d)).bind fun ρ' => .ok (.nx ρ')) r.st o fun F1 H1 v d eq s1 y1 o1 => ?_⟩
        have e1 : svOf false d = .val d := by cases d <;> rfl
        rw [e1] at o1
        obtain ⟨hi, o1⟩ := o1.put
        exact o1 _ _ _ (Same.refl _) ((r.step s1).put hi y1)
      by_cases nc : isCompX z = true
      · obtain ⟨t, ik, es, cs, el, rfl⟩ := comp_lc nc c2 c4
        obtain ⟨y', tg, it, ifs, scope, pos', rfl, pi, blk, hs, pg, pts, pe⟩ := s_lc (sEs es).1 (sEs cs).1 (sE el).1 g c2
        have sw := sw_eq (elt := y') (gs := [⟨tg, it, ifs, 0⟩]) (scope := scope) (pos := pos') (py := py) (y := y) (l := pos.line) (env := X.env)
        cases hsw : swB X.env.scope scope y py pos' with
        | true =>
          rw [hsw] at sw
          have hyl : X.env.scope.names.lookup y = some .local := by
            unfold swB at hsw
            simp only [Bool.and_eq_true] at hsw
            exact eq_of_beq hsw.1.1.2
          refine (ps_setLc g.calm g.nd n1 hyl sw pi blk pg pts pe hs).imp (main fun σ H Q ⟨F, ρ, r, o⟩ => ?_)
          rw [own_slots]
          refine lc_read (C := C) r ?_
          cases q : evE cl (.lc t ik es cs el) ρ with
          | no => rw [q] at o; exact o
          | ex c => rw [q] at o; exact o
          | ok d => rw [q] at o; exact fun F' H' v s y => o F' H' v s y.1
        | false =>
          rw [hsw] at sw
          exact (ps_set g.nd n1 n2 ((sE (.lc t ik es cs el)).1.pe g c2) sw (.inl n3)).imp (main fun _ _ _ h => h)
      · exact (ps_set g.nd n1 n2 ((sE e).1.pe g c2) (notSwap (by simpa using nc) _ _ _) (.inl n3)).imp (main fun _ _ _ h => h)
  · cases hc
theorem swap_cell {x y : Str} {px py p p2 : Pos} {kk k2 : Nat} {vs : List Expr} {env : PySem.Env} (h : ¬ env.scope.names.lookup x = some .local ∨ ¬ env.scope.names.lookup y = some .local) : swappedStores [.Tuple [.Name x px, .Name y py] kk p] (.Tuple vs k2 p2) env = pure none := by
  unfold swappedStores
  rcases h with h | h
  · have e : (env.kindOf x == some .local) = false := by
      rw [beq_eq_false_iff_ne]; exact h
    simp only [List.filterMap_cons, List.filterMap_nil, e, Bool.false_and]
    repeat' (split <;> try rfl)
    all_goals simp_all
  · have e : (env.kindOf y == some .local) = false := by
      rw [beq_eq_false_iff_ne]; exact h
    simp only [List.filterMap_cons, List.filterMap_nil, e, Bool.false_and]
    repeat' (split <;> try rfl)
    all_goals simp_all
theorem s_tgt (g : Good C cl Wn k xv X) {t : Tg} {e : E} {x : Stmt} (hc : chkS C (.tgt t e) x = true) : PS X x (tS X.K cl Wn (.tgt t e)) := by
  unfold chkS at hc
  split at hc
  · rename_i es kk p z pos
    simp only [Bool.and_eq_true] at hc
    obtain ⟨⟨c1, c2⟩, c3⟩ := hc
    have nc : isCompX z = false := by
      cases z <;> first
        | rfl
        | (simp [tgtC, isCompX] at c3; done)
    have hw : swappedStores [.Tuple es kk p] z X.env = pure none := by
      cases z <;> first
        | rfl
        | skip
      rename_i vs k2 p2
      have c3 : (vs.all (foldedForSure 8) || cellT C.sc es) = true := c3
      rw [Bool.or_eq_true] at c3
      rcases c3 with c3 | c3
      · unfold swappedStores
        simp only [c3]
        repeat' (split <;> try rfl)
      · unfold cellT at c3
        split at c3
        · rename_i x px y py
          rw [Bool.or_eq_true, Bool.not_eq_true', Bool.not_eq_true', decide_eq_false_iff_not, decide_eq_false_iff_not, ← g.sc] at c3
          exact swap_cell c3
        · cases c3
    have hs : swapsWithSole [.Tuple es kk p] z pos.line X.env = pure false := by
      unfold swapsWithSole
      exact notSwap nc _ _ _
    refine (ps_asg ((sE e).1.pe g c2) (s_tg g t _ c1) hs hw).imp fun D σ H ⟨F0, H0, F, ρ, r, o⟩ => ?_
    refine ⟨F, ρ, r.rel, OutS.bindE (f := fun d => (bindT t d ρ).bind fun ρ' => .ok (.nx ρ')) r.st o fun F1 H1 v d eq s1 y1 o1 => ?_⟩
    exact bind_read (r.step s1) y1 o1 (bindT_ex t d ρ) fun ρ' σ' r' o' => o' _ _ _ (Same.refl _) r'
  · cases hc
theorem s_app (g : Good C cl Wn k xv X) {i : Nat} {e : E} {x : Stmt} (hc : chkS C (.app i e) x = true) : PS X x (tS X.K cl Wn (.app i e)) := by
  unfold chkS at hc
  split at hc
  · rename_i y p nm ap z cp pos
    simp only [Bool.and_eq_true, decide_eq_true_eq] at hc
    obtain ⟨⟨⟨rfl, c1⟩, c2⟩, c3⟩ := hc
    have st := chkEs_star c3
    have ho : PE X (.Name y p) (tVar i) := s_var g c2
    have ht := ((sEs [e]).2 C Wn X g [z] c3).1
    refine (ps_expr (pe_bm PySem.F.plainAttrs_list PySem.F.slot_list_append PySem.F.type_list_append (mt_append (X := X)) ho ht (attrBase rfl _ _ _) (few_ok X.env cp st (show 1 < 25 by decide)) c1 (starCons (st z List.mem_cons_self) [] X.env) rfl) (notSwap rfl _ _ _)).imp fun D σ H ⟨F0, H0, F, ρ, r, o⟩ => ?_
    obtain ⟨xs, eo, o⟩ := OutS.own (f := fun xs => (evE cl e ρ).bind fun d => guardR (decide (xs.length < 16777216)) ((put ρ i (.own (xs ++ [d]))).bind fun ρ' => .ok (.nx ρ'))) o
    obtain ⟨a, vs, e1, e2, e3, h⟩ := r.rel.own i xs eo
    refine ⟨.ref a, e1, .inl ⟨rfl, vs, SqL.of e2⟩, F, ρ, r.rel, ?_⟩
    show Out Wn F H σ ((evE cl e ρ).bind fun d => (R.ok []).bind fun ds => R.ok (d :: ds)) _ _
    have o2 : OutS X.K Wn F0 H0 F (((evE cl e ρ).bind fun d => (R.ok []).bind fun ds => R.ok (d :: ds)).bind fun ds => match ds with
      | [d] => guardR (decide (xs.length < 16777216)) ((put ρ i (.own (xs ++ [d]))).bind fun ρ' => .ok (.nx ρ'))
      | _ => .no) D := by
      rw [bindR_assoc]
      exact o
    refine OutS.bindE r.st o2 fun F1 H1 ws ds eq s1 y1 o1 => ?_
    cases y1 with
    | nil => exact (show False from o1).elim
    | cons ya yr =>
      cases yr with
      | cons _ _ => exact (show False from o1).elim
      | nil =>
        rename_i w d
        obtain ⟨hl, o1⟩ := OutS.guard o1
        obtain ⟨hi, o1⟩ := o1.put
        have hl : xs.length < 16777216 := of_decide_eq_true hl
        refine ⟨a, vs, w, rfl, rfl, s1.h _ _ e2, by rw [h.length]; exact hl, ?_⟩
        exact o1 _ _ _ (Same.refl _) ((r.step s1).upd eo e1 ((h.mono s1.f).append (.cons ya .nil)))
  · cases hc
/-- a list gets what another list holds, one that may stand frozen -/
def rExtR : V → List V → Hp → VK → Prop := fun x vs H Q => ∃ l b xs zs, x = .ref l ∧ vs = [.ref b] ∧ H l = some (.lst xs) ∧ Rd H b (.lst zs) ∧ xs.length + zs.length ≤ sizeLine ∧ Q .non (L2.upd H l (.lst (xs ++ zs)))
theorem mt_extR : MtM X "list.extend" rExtR := by
  intro pins s σ H x vs v us Q I rx rv h
  obtain ⟨l, b, xs, zs, rfl, rfl, hH, hB, hz, q⟩ := h
  cases rx
  obtain ⟨u, rfl, ru⟩ := rv.one
  cases ru
  obtain ⟨z, its, n, r, hl, e⟩ := I.lstM hH
  obtain ⟨z2, its2, n2, r2, e2⟩ := hB.ok I.hok
  have hl2 := r2.length
  have small : its.toArray.size + its2.toArray.size ≤ sizeLine := by rw [List.size_toArray, List.size_toArray, ← hl, ← hl2]; exact hz
  have short : ¬ (!its.toArray.isEmpty && Builtin.List.listTooLong (its.toArray.size + its2.toArray.size)) = true := by
    rw [notLongL small]
    simp
  refine call_meets F.slot_list_extend ⟨_, e, rfl⟩ F.entry_list_extend (F.args_list_extend_2 _ _) (AutoSeq1.list_extend_list_list_0 l its.toArray n b its2.toArray n2 short (by rw [List.size_toArray]; omega) (by omega)) ⟨e, e2, ?_⟩
  have whole : (xs ++ zs).length ≤ sizeLine := by rw [List.length_append]; exact hz
  exact ⟨.non, _, I.lset (its' := its ++ its2) hH e (by simp) (r.append r2) whole, rfl, q⟩
theorem s_ext (g : Good C cl Wn k xv X) {i : Nat} {e : E} {x : Stmt} (hc : chkS C (.ext i e) x = true) : PS X x (tS X.K cl Wn (.ext i e)) := by
  unfold chkS at hc
  split at hc
  · rename_i y p nm ap z cp pos
    simp only [Bool.and_eq_true, decide_eq_true_eq] at hc
    obtain ⟨⟨⟨rfl, c1⟩, c2⟩, c3⟩ := hc
    have st := chkEs_star c3
    have ho : PE X (.Name y p) (tVar i) := s_var g c2
    have ht := ((sEs [e]).2 C Wn X g [z] c3).1
    refine (ps_expr (pe_bm PySem.F.plainAttrs_list PySem.F.slot_list_extend PySem.F.type_list_extend (mt_extR (X := X)) ho ht (attrBase rfl _ _ _) (few_ok X.env cp st (show 1 < 25 by decide)) c1 (starCons (st z List.mem_cons_self) [] X.env) rfl) (notSwap rfl _ _ _)).imp fun D σ H ⟨F0, H0, F, ρ, r, o⟩ => ?_
    obtain ⟨xs, eo, o⟩ := OutS.own (f := fun xs => (evE cl e ρ).bind fun d => match d with
      | .lst ys => guardR (sz (xs.length + ys.length)) ((put ρ i (.own (xs ++ ys))).bind fun ρ' => .ok (.nx ρ'))
      | _ => .no) o
    obtain ⟨a, vs, e1, e2, e3, h⟩ := r.rel.own i xs eo
    refine ⟨.ref a, e1, .inl ⟨rfl, vs, SqL.of e2⟩, F, ρ, r.rel, ?_⟩
    show Out Wn F H σ ((evE cl e ρ).bind fun d => (R.ok []).bind fun ds => R.ok (d :: ds)) _ _
    have o2 : OutS X.K Wn F0 H0 F (((evE cl e ρ).bind fun d => (R.ok []).bind fun ds => R.ok (d :: ds)).bind fun ds => match ds with
      | [.lst ys] => guardR (sz (xs.length + ys.length)) ((put ρ i (.own (xs ++ ys))).bind fun ρ' => .ok (.nx ρ'))
      | _ => .no) D := by
      rw [bindR_assoc]
      cases q : evE cl e ρ with
      | no => rw [q] at o; exact o
      | ex c => rw [q] at o; exact o
      | ok d =>
        rw [q] at o
        cases d <;> exact o
    refine OutS.bindE r.st o2 fun F1 H1 ws ds eq s1 y1 o1 => ?_
    cases y1 with
    | nil => exact (show False from o1).elim
    | cons ya yr =>
      cases yr with
      | cons _ _ =>
        rename_i w d _ _ _ _ _ _
        cases d <;> exact (show False from o1).elim
      | nil =>
        rename_i w d
        cases d <;> first
          | exact (show False from o1).elim
          | skip
        rename_i ys
        obtain ⟨hl, o1⟩ := OutS.guard o1
        obtain ⟨hi, o1⟩ := o1.put
        have hl := sz_ok hl
        cases ya with
        | lst qb tb =>
          rename_i b zs
          refine ⟨a, b, vs, zs, rfl, rfl, s1.h _ _ e2, rd_mono s1.s qb, by rw [h.length, tb.length]; exact hl, ?_⟩
          exact o1 _ _ _ (Same.refl _) ((r.step s1).upd eo e1 ((h.mono s1.f).append tb))
  · cases hc
theorem star_any : ∀ {vs : List Expr}, (∀ x ∈ vs, isStarX x = false) → (vs.any fun | .Starred .. => true | _ => false) = false
  | [], _ => rfl
  | v :: vs, h => by
    rw [List.any_cons, star_any fun x hx => h x (List.mem_cons_of_mem _ hx), Bool.or_false]
    have := h v List.mem_cons_self
    cases v <;> first
      | rfl
      | (cases this; done)
theorem sw_names {ts vs : List Expr} {kt k2 : Nat} {pt pt2 : Pos} {env : PySem.Env} {ns : List Str} (h0 : (ts.length == 2 || ts.length == 3) = true) (hl : vs.length = ts.length) (kb : env.blockKind = .function) (hs : ∀ x ∈ vs, isStarX x = false)
    (hn : (ts.filterMap fun
      | .Name id pos => if env.kindOf id == some .local && pos.line == (ts.head?.map (·.pos.line)).getD 0 then some id else none
      | _ => none) = ns) (h1 : ns.length = ts.length) (h2 : ns.eraseDups.length = ns.length) (h3 : vs.all (foldedForSure 8) = false) (h4 : vs.all (constantsAlone 8) = false) :
    swappedStores [.Tuple ts kt pt] (.Tuple vs k2 pt2) env = pure (some ns) := by
  have e1 : (!(ts.length == 2 || ts.length == 3) || vs.length != ts.length || env.blockKind != .function) = false := by
    rw [h0, hl, kb]
    simp
  have e2 : (ns.length != ts.length || ns.eraseDups.length != ns.length) = false := by
    rw [h2, h1]
    simp
  subst hn
  show (if (!(ts.length == 2 || ts.length == 3) || vs.length != ts.length || env.blockKind != .function) = true then (pure none : Sem (Option (List Str))) else _) = _
  rw [if_neg (by rw [e1]; decide)]
  show (if (vs.any fun | .Starred .. => true | _ => false) = true then (pure none : Sem (Option (List Str))) else _) = _
  rw [if_neg (by rw [star_any hs]; decide)]
  show (if (_ != _ || _ != _) = true then (pure none : Sem (Option (List Str))) else _) = _
  refine (if_neg (fun h => Bool.false_ne_true (e2.symm.trans h))).trans ?_
  show (if vs.all (foldedForSure 8) = true then (pure none : Sem (Option (List Str))) else _) = _
  rw [if_neg (by rw [h3]; decide)]
  exact (if_neg (by rw [h4]; decide)).trans rfl
theorem par2_sw {sc : Scope} {x y : Str} {px py pt pt2 : Pos} {kt k2 : Nat} {a b : Expr} {env : PySem.Env} (he : env.scope = sc) (hk : (sc.kind == .function) = true) (hx : sc.names.lookup x = some .local) (hy : sc.names.lookup y = some .local) (hl : (px.line == py.line) = true) (hxy : (x == y) = false)
    (hs : ∀ z ∈ [a, b], isStarX z = false) (h1 : [a, b].all (foldedForSure 8) = false) (h2 : [a, b].all (constantsAlone 8) = false) : swappedStores [.Tuple [.Name x px, .Name y py] kt pt] (.Tuple [a, b] k2 pt2) env = pure (some [x, y]) := by
  have kx : env.kindOf x = some .local := by unfold PySem.Env.kindOf; rw [he]; exact hx
  have ky : env.kindOf y = some .local := by unfold PySem.Env.kindOf; rw [he]; exact hy
  have kb : env.blockKind = .function := by unfold PySem.Env.blockKind; rw [he, eq_of_beq hk]; rfl
  have ep : py.line = px.line := (eq_of_beq hl).symm
  have nxy : (y == x) = false := by
    cases q : (y == x) with
    | false => rfl
    | true => rw [eq_of_beq q] at hxy; simp at hxy
  refine sw_names rfl rfl kb hs ?_ rfl ?_ h1 h2
  · rw [List.filterMap_cons_some (b := x), List.filterMap_cons_some (b := y), List.filterMap_nil]
    · show (if (env.kindOf y == some .local && py.line == px.line) = true then some y else none) = some y
      rw [ky, ep]; simp
    · show (if (env.kindOf x == some .local && px.line == px.line) = true then some x else none) = some x
      rw [kx]; simp
  · simp [List.eraseDups, List.eraseDupsBy, List.eraseDupsBy.loop, hxy, nxy]
theorem par3_sw {sc : Scope} {x y z : Str} {px py pz pt pt2 : Pos} {kt k2 : Nat} {a b c : Expr} {env : PySem.Env} (he : env.scope = sc) (hk : (sc.kind == .function) = true) (hx : sc.names.lookup x = some .local) (hy : sc.names.lookup y = some .local) (hz : sc.names.lookup z = some .local) (hl : (px.line == py.line) = true) (hl2 : (px.line == pz.line) = true)
    (hxy : (x == y) = false) (hxz : (x == z) = false) (hyz : (y == z) = false)
    (hs : ∀ z ∈ [a, b, c], isStarX z = false) (h1 : [a, b, c].all (foldedForSure 8) = false) (h2 : [a, b, c].all (constantsAlone 8) = false) : swappedStores [.Tuple [.Name x px, .Name y py, .Name z pz] kt pt] (.Tuple [a, b, c] k2 pt2) env = pure (some [x, y, z]) := by
  have kx : env.kindOf x = some .local := by unfold PySem.Env.kindOf; rw [he]; exact hx
  have ky : env.kindOf y = some .local := by unfold PySem.Env.kindOf; rw [he]; exact hy
  have kz : env.kindOf z = some .local := by unfold PySem.Env.kindOf; rw [he]; exact hz
  have kb : env.blockKind = .function := by unfold PySem.Env.blockKind; rw [he, eq_of_beq hk]; rfl
  have ep : py.line = px.line := (eq_of_beq hl).symm
  have ep2 : pz.line = px.line := (eq_of_beq hl2).symm
  have flip : ∀ {u v : Str}, (u == v) = false → (v == u) = false := fun {u v} h => by
    cases q : (v == u) with
    | false => rfl
    | true => rw [eq_of_beq q] at h; simp at h
  refine sw_names rfl rfl kb hs ?_ rfl ?_ h1 h2
  · rw [List.filterMap_cons_some (b := x), List.filterMap_cons_some (b := y), List.filterMap_cons_some (b := z), List.filterMap_nil]
    · show (if (env.kindOf z == some .local && pz.line == px.line) = true then some z else none) = some z
      rw [kz, ep2]; simp
    · show (if (env.kindOf y == some .local && py.line == px.line) = true then some y else none) = some y
      rw [ky, ep]; simp
    · show (if (env.kindOf x == some .local && px.line == px.line) = true then some x else none) = some x
      rw [kx]; simp
  · simp [List.eraseDups, List.eraseDupsBy, List.eraseDupsBy.loop, hxy, hxz, hyz, flip hxy, flip hxz, flip hyz]
theorem puts2 {K : PySem.W.Frag} {F0 H0 F H : Hp} {ρ : MT.Env} {σ : L2.St} {D : Ends} {i j : Nat} {v w : V} {d e : MT.D} (r : RelS K F0 H0 F ρ σ H) (yv : DV K F v d) (yw : DV K F w e) (o : OutS K Wn F0 H0 F ((putAll ρ [i, j] [d, e]).bind fun ρ' => .ok (.nx ρ')) D) :
    D.nx ((σ.set i (some v)).set j (some w)) H := by
  have o : OutS K Wn F0 H0 F ((MT.put ρ i (.val d)).bind fun ρ1 => (MT.put ρ1 j (.val e)).bind fun ρ2 => .ok (.nx ρ2)) D := by
    have o : OutS K Wn F0 H0 F (((MT.put ρ i (.val d)).bind fun ρ1 => (MT.put ρ1 j (.val e)).bind fun ρ2 => .ok ρ2).bind fun ρ' => .ok (.nx ρ')) D := o
    rw [bindR_assoc] at o
    cases q : MT.put ρ i (.val d) with
    | no => rw [q] at o; exact o
    | ex c => rw [q] at o; exact o
    | ok ρ1 =>
      rw [q] at o
      cases q2 : MT.put ρ1 j (.val e) with
      | no => simp only [R.bind, q2] at o ⊢; exact o
      | ex c => simp only [R.bind, q2] at o ⊢; exact o
      | ok ρ2 => simp only [R.bind, q2] at o ⊢; exact o
  obtain ⟨hi, o⟩ := o.put
  obtain ⟨hj, o⟩ := o.put
  exact o _ _ _ (Same.refl _) ((r.put hi yv).put hj yw)
theorem puts3 {K : PySem.W.Frag} {F0 H0 F H : Hp} {ρ : MT.Env} {σ : L2.St} {D : Ends} {i j l : Nat} {v w u : V} {d e f : MT.D} (r : RelS K F0 H0 F ρ σ H) (yv : DV K F v d) (yw : DV K F w e) (yu : DV K F u f) (o : OutS K Wn F0 H0 F ((putAll ρ [i, j, l] [d, e, f]).bind fun ρ' => .ok (.nx ρ')) D) :
    D.nx (((σ.set i (some v)).set j (some w)).set l (some u)) H := by
  have o : OutS K Wn F0 H0 F ((MT.put ρ i (.val d)).bind fun ρ1 => (putAll ρ1 [j, l] [e, f]).bind fun ρ2 => .ok (.nx ρ2)) D := by
    have o : OutS K Wn F0 H0 F (((MT.put ρ i (.val d)).bind fun ρ1 => putAll ρ1 [j, l] [e, f]).bind fun ρ' => .ok (.nx ρ')) D := o
    rw [bindR_assoc] at o
    exact o
  obtain ⟨hi, o⟩ := o.put
  exact puts2 (r.put hi yv) yw yu o
theorem s_par (g : Good C cl Wn k xv X) {is : List Nat} {es : List E} {x : Stmt} (hc : chkS C (.par is es) x = true) : PS X x (tS X.K cl Wn (.par is es)) := by
  unfold chkS at hc
  split at hc
  · rename_i ts kt pt zs k2 pt2 pos
    simp only [Bool.and_eq_true] at hc
    obtain ⟨⟨c0, c1⟩, c2⟩ := hc
    have st := chkEs_star c2
    have pa := ((sEs es).2 C Wn X g zs c2).1
    have nm : ∀ {i : Nat} {x : Str}, nmOk C i x = true → X.N[i]? = some x := fun {i x} h => by
      unfold nmOk at h
      simp only [Bool.and_eq_true] at h
      rw [g.N]
      exact of_decide_eq_true h.1
    unfold parC at c1
    split at c1
    · rename_i i j x px y py a b
      simp only [Bool.and_eq_true, Bool.not_eq_true', decide_eq_true_eq] at c1
      obtain ⟨⟨⟨⟨⟨⟨⟨⟨d1, d2⟩, d3⟩, d4⟩, d5⟩, d6⟩, d7⟩, d8⟩, d9⟩ := c1
      refine (ps_par g.calm g.nd (nm d1) (nm d2) d5 (by rw [g.sc]; exact d3) (by rw [g.sc]; exact d4) pa (par2_sw g.sc c0 d3 d4 d6 d7 st d8 d9)).imp fun D σ H ⟨F0, H0, F, ρ, r, o⟩ => ⟨F, ρ, r.rel, ?_⟩
      refine OutS.bindE (f := fun ds => (putAll ρ [i, j] ds).bind fun ρ' => .ok (.nx ρ')) r.st o fun F1 H1 vs ds eq s1 y1 o1 => ?_
      have hl : ds.length = 2 := (evEs_len eq).trans (chkEs_len c2)
      obtain ⟨d, e, rfl⟩ : ∃ d e, ds = [d, e] := by
        match ds, hl with
        | [d, e], _ => exact ⟨d, e, rfl⟩
      cases y1 with
      | cons ya yr =>
        cases yr with
        | cons yb yn =>
          cases yn
          exact ⟨_, _, rfl, puts2 (r.step s1) ya yb o1⟩
    · rename_i i j l x px y py z pz a b c
      simp only [Bool.and_eq_true, Bool.not_eq_true', decide_eq_true_eq] at c1
      obtain ⟨⟨⟨⟨⟨⟨⟨⟨⟨⟨⟨⟨⟨⟨⟨d1, d2⟩, d3⟩, d4⟩, d5⟩, d6⟩, d7⟩, d8⟩, d9⟩, e1⟩, e2⟩, e3⟩, e4⟩, e5⟩, e6⟩, e7⟩ := c1
      refine (ps_par3 g.calm g.nd (nm d1) (nm d2) (nm d3) d7 d8 d9 (by rw [g.sc]; exact d4) (by rw [g.sc]; exact d5) (by rw [g.sc]; exact d6) pa (par3_sw g.sc c0 d4 d5 d6 e1 e2 e3 e4 e5 st e6 e7)).imp fun D σ H ⟨F0, H0, F, ρ, r, o⟩ => ⟨F, ρ, r.rel, ?_⟩
      refine OutS.bindE (f := fun ds => (putAll ρ [i, j, l] ds).bind fun ρ' => .ok (.nx ρ')) r.st o fun F1 H1 vs ds eq s1 y1 o1 => ?_
      have hl : ds.length = 3 := (evEs_len eq).trans (chkEs_len c2)
      obtain ⟨d, e, f, rfl⟩ : ∃ d e f, ds = [d, e, f] := by
        match ds, hl with
        | [d, e, f], _ => exact ⟨d, e, f, rfl⟩
      cases y1 with
      | cons ya yr =>
        cases yr with
        | cons yb yn =>
          cases yn with
          | cons yc yn =>
            cases yn
            exact ⟨_, _, _, rfl, puts3 (r.step s1) ya yb yc o1⟩
    · cases c1
  · cases hc
theorem dvs_set {K : PySem.W.Frag} {F : Hp} : ∀ {vs : List V} {ds : List D} (j : Nat) {v : V} {d : D}, DVs K F vs ds → DV K F v d → DVs K F (vs.set j v) (ds.set j d)
  | _, _, _, _, _, .nil, _ => .nil
  | _, _, 0, _, _, .cons h hs, y => .cons y hs
  | _, _, j + 1, _, _, .cons h hs, y => .cons h (dvs_set j hs y)
theorem s_sti (g : Good C cl Wn k xv X) {i : Nat} {a e : E} {x : Stmt} (hc : chkS C (.sti i a e) x = true) : PS X x (tS X.K cl Wn (.sti i a e)) := by
  unfold chkS at hc
  split at hc
  · rename_i y p ix sp z pos
    simp only [Bool.and_eq_true, Bool.not_eq_true'] at hc
    obtain ⟨⟨⟨⟨c1, c2⟩, c3⟩, c4⟩, c5⟩ := hc
    have ho : PE X (.Name y p) (tVar i) := s_var g c1
    have hi := (sE a).1.pe g c4
    have he := (sE e).1.pe g c5
    refine (ps_asg he (pg_sub (pos := sp) ho hi set_list (fun v => by cases ix <;> first | rfl | cases c2)) (by unfold swapsWithSole; exact notSwap c3 _ _ _) (by cases z <;> rfl) rfl).imp fun D σ H ⟨F0, H0, F, ρ, r, o⟩ => ?_
    obtain ⟨xs, eo, o⟩ := OutS.own (f := fun xs => (evE cl e ρ).bind fun d => (evE cl a ρ).bind fun y => (intD y).bind fun z => match MT.ixN xs.length z with
      | some j => (put ρ i (.own (xs.set j d))).bind fun ρ' => .ok (.nx ρ')
      | none => .no) o
    obtain ⟨b, vs, e1, e2, e3, h⟩ := r.rel.own i xs eo
    refine ⟨F, ρ, r.rel, OutS.bindE r.st o fun F1 H1 v d eq s1 y1 o1 => ?_⟩
    refine ⟨.ref b, e1, F1, ρ, (r.step s1).rel, OutS.bindE (r.step s1).st o1 fun F2 H2 iv q eq2 s2 y2 o2 => ?_⟩
    cases q with
    | int n =>
      have o2 : OutS X.K Wn F0 H0 F2 (match MT.ixN xs.length n with
        | some j => (put ρ i (.own (xs.set j d))).bind fun ρ' => .ok (.nx ρ')
        | none => .no) D := o2
      cases hj : MT.ixN xs.length n with
      | none => rw [hj] at o2; exact (show False from o2).elim
      | some j =>
        rw [hj] at o2
        obtain ⟨hi, o2⟩ := OutS.put (f := fun ρ' => R.ok (Fl.nx ρ')) o2
        have y2 : DV X.K F2 iv (.int n) := y2
        refine ⟨b, vs, n, j, rfl, y2.iInv, s2.h _ _ (s1.h _ _ e2), by rw [h.length]; exact hj, ?_⟩
        exact o2 _ _ _ (Same.refl _) (((r.step s1).step s2).upd eo e1 (dvs_set j ((h.mono s1.f).mono s2.f) (DV.mono (F' := F2) s2.f y1)))
    | _ => exact (show False from o2).elim
  · cases hc
theorem s_ret (g : Good C cl Wn k xv X) {e : E} {x : Stmt} (hc : chkS C (.ret e) x = true) : PS X x (tS X.K cl Wn (.ret e)) := by
  unfold chkS at hc
  split at hc
  · rename_i z pos
    by_cases hv : ∃ i, e = .v i
    · obtain ⟨i, rfl⟩ := hv
      cases z with
      | Name y p =>
        refine (ps_ret (s_var g hc)).imp fun D σ H ⟨F0, H0, F, ρ, r, o⟩ => ?_
        have o : OutS X.K Wn F0 H0 F ((rdB ρ i).bind fun d => R.ok (Fl.rt d)) D := o
        unfold rdB at o
        cases e : ρ[i]? with
        | none => rw [e] at o; exact (show False from o).elim
        | some v =>
          rw [e] at o
          cases v with
          | val d =>
            obtain ⟨v, e1, h1⟩ := r.rel.val i d e
            exact ⟨v, e1, o F v H r.st h1⟩
          | un => exact (show False from o).elim
          | own xs =>
            obtain ⟨a, vs, e1, e2, e3, h1⟩ := r.rel.own i xs e
            exact ⟨.ref a, e1, o _ _ H (r.st.freeze (r.new i xs a e e1) e3 e2) (dv_lst_new e3 h1)⟩
          | obj tk ob => exact (show False from o).elim
      | _ => cases hc
    · refine (ps_ret ((sE e).1.pe g hc)).imp fun D σ H ⟨F0, H0, F, ρ, r, o⟩ => ⟨F, ρ, r.rel, ?_⟩
      have e1 : bor ρ e (evE cl e ρ) = evE cl e ρ := by
        cases e <;> first
          | rfl
          | exact absurd ⟨_, rfl⟩ hv
      have o : OutS X.K Wn F0 H0 F ((bor ρ e (evE cl e ρ)).bind fun d => R.ok (Fl.rt d)) D := o
      rw [e1] at o
      exact OutS.bindE r.st o fun F1 H1 v d eq s1 y1 o1 => o1 F1 v H1 (r.st.trans s1) y1
  · cases hc
theorem s_exp (g : Good C cl Wn k xv X) {e : E} {x : Stmt} (hc : chkS C (.exp e) x = true) : PS X x (tS X.K cl Wn (.exp e)) := by
  unfold chkS at hc
  split at hc
  · rename_i z pos
    simp only [Bool.and_eq_true, Bool.not_eq_true'] at hc
    exact (ps_expr ((sE e).1.pe g hc.2) (notSwap hc.1 _ _ _)).imp fun D σ H ⟨F0, H0, F, ρ, r, o⟩ => ⟨F, ρ, r.rel, OutS.bindE (f := fun _ => R.ok (Fl.nx ρ)) r.st o fun F1 H1 v d eq s1 y1 o1 => o1 _ _ _ (Same.refl _) (r.step s1)⟩
  · cases hc
/-! ### blocks -/
def IHB (cl : CL) (k : Nat) (xv : Nat → Value) (ss : List S) : Prop := ∀ (C : SC) (Wn : WN) (X : Cx), Good C cl Wn k xv X → C.blk = false → ∀ xs, chkSs C ss xs = true → PSs X xs (tSs X.K cl Wn ss)
theorem s_iff {c : E} {a b : List S} (ha : IHB cl k xv a) (hb' : IHB cl k xv b) (g : Good C cl Wn k xv X) (hb : C.blk = false) {x : Stmt} (hc : chkS C (.iff c a b) x = true) : PS X x (tS X.K cl Wn (.iff c a b)) := by
  unfold chkS at hc
  split at hc
  · rename_i z p q pos
    simp only [Bool.and_eq_true] at hc
    obtain ⟨⟨⟨c1, c2⟩, c3⟩, c4⟩ := hc
    refine (ps_if ((sE c).1.pt g c2 c1) (ha C Wn X g hb p c3) (hb' C Wn X g hb q c4)).imp fun D σ H ⟨F0, H0, F, ρ, r, o⟩ => ⟨F, ρ, r.rel, ?_⟩
    refine OutS.bindE (f := fun x => if x = true then evSs cl a ρ else evSs cl b ρ) r.st o fun F1 H1 u v eq s1 y1 o1 => ?_
    subst y1
    cases u with
    | true => exact ⟨F0, H0, F1, ρ, r.step s1, o1⟩
    | false => exact ⟨F0, H0, F1, ρ, r.step s1, o1⟩
  · cases hc
theorem s_for {t : Tg} {ik : IK} {es : List E} {body : List S} (hbd : IHB cl k xv body) (g : Good C cl Wn k xv X) (hb : C.blk = false) {x : Stmt} (hc : chkS C (.for t ik es body) x = true) : PS X x (tS X.K cl Wn (.for t ik es body)) := by
  unfold chkS at hc
  split at hc
  · rename_i tg it p pos
    simp only [Bool.and_eq_true, Bool.not_eq_true'] at hc
    obtain ⟨⟨⟨c1, c2⟩, c3⟩, c4⟩ := hc
    refine (ps_for (g.pass hb) g.calm (s_iter g (sEs es).1 c3) (s_tg g t tg c1) (hbd C Wn X g hb p c4) (notSet c2 X.env)).imp fun D σ H ⟨F0, H0, F, ρ, r, o⟩ => ⟨F, ρ, r.rel, ?_⟩
    have o : OutS X.K Wn F0 H0 F (((evEs cl es ρ).bind (itD ik)).bind fun xs => forGo t (evSs cl body) xs ρ) D := by
      rw [bindR_assoc]; exact o
    refine OutS.bindE r.st o fun F1 H1 J xs eq s1 ⟨Src, wk, src⟩ o1 => ?_
    refine ⟨fun i m σ H => m = xs.length - i ∧ i ≤ xs.length ∧ ∃ F ρ, Same F1 F ∧ RelS X.K F0 H0 F ρ σ H ∧ OutS X.K Wn F0 H0 F (forGo t (evSs cl body) (xs.drop i) ρ) D,
      ⟨xs.length, by simp, Nat.zero_le _, F1, ρ, Same.refl _, r.step s1, by rw [List.drop_zero]; exact o1⟩, ?_⟩
    rintro i m σ2 H2 ⟨rfl, hi, F2, ρ2, sf, r2, o2⟩
    have src2 := wk.mono F1 F2 src sf
    by_cases hlt : i < xs.length
    · refine .inr ⟨wk.go i F2 H2 r2.rel.sub src2 hlt, fun σ H => i + 1 ≤ xs.length ∧ ∃ F ρ, Same F1 F ∧ RelS X.K F0 H0 F ρ σ H ∧ OutS X.K Wn F0 H0 F (forGo t (evSs cl body) (xs.drop (i + 1)) ρ) D, fun σ' H' h => ⟨xs.length - (i + 1), by omega, rfl, h.1, h.2⟩, fun v H3 hy => ?_⟩
      obtain ⟨d, ed, F3, s3, yd⟩ := wk.yld i F2 H2 v H3 r2.rel.sub src2 hlt hy
      have edrop : xs.drop i = d :: xs.drop (i + 1) := by
        rw [List.drop_eq_getElem_cons hlt]
        have := List.getElem?_eq_getElem hlt
        rw [ed] at this
        rw [Option.some.inj this]
      rw [edrop] at o2
      have o2 : OutS X.K Wn F0 H0 F2 ((bindT t d ρ2).bind fun ρ1 => (evSs cl body ρ1).bind fun f => match f with
        | .nx ρ2 => forGo t (evSs cl body) (xs.drop (i + 1)) ρ2
        | .ct ρ2 => forGo t (evSs cl body) (xs.drop (i + 1)) ρ2
        | .rt d => .ok (.rt d)) D := o2
      refine bind_read (r2.step s3) yd (o2.mono s3.f) (bindT_ex t d ρ2) fun ρ' σ' r' o' => ⟨F0, H0, F3, ρ', r', ?_⟩
      have sf3 := sf.trans s3.f
      cases q : evSs cl body ρ' with
      | no => rw [q] at o'; exact o'
      | ex c => rw [q] at o'; exact o'
      | ok f =>
        rw [q] at o'
        cases f with
        | nx ρ4 => exact fun F4 σ4 H4 s4 r4 => ⟨hlt, F4, ρ4, sf3.trans s4, r4, OutS.mono s4 o'⟩
        | ct ρ4 => exact fun F4 σ4 H4 s4 r4 => ⟨hlt, F4, ρ4, sf3.trans s4, r4, OutS.mono s4 o'⟩
        | rt d => exact o'
    · have ei : i = xs.length := by omega
      subst ei
      refine .inl ⟨wk.stop F2 H2 r2.rel.sub src2, ?_⟩
      rw [List.drop_length] at o2
      exact o2 _ _ _ (Same.refl _) r2
  · cases hc
theorem s_whl {c : E} {body : List S} (hbd : IHB cl k xv body) (g : Good C cl Wn k xv X) (hb : C.blk = false) {x : Stmt} (hc : chkS C (.whl c body) x = true) : PS X x (tS X.K cl Wn (.whl c body)) := by
  unfold chkS at hc
  split at hc
  · rename_i z p pos
    simp only [Bool.and_eq_true] at hc
    obtain ⟨⟨c1, c2⟩, c3⟩ := hc
    refine (ps_while (g.pass hb) ((sE c).1.pt g c2 c1) (hbd C Wn X g hb p c3)).imp fun D σ H ⟨F0, H0, F, ρ, r, o⟩ => ?_
    have o : OutS X.K Wn F0 H0 F (whlGo (evT cl c) (evSs cl body) wfuel ρ) D := o
    refine ⟨fun m σ H => ∃ F ρ, RelS X.K F0 H0 F ρ σ H ∧ OutS X.K Wn F0 H0 F (whlGo (evT cl c) (evSs cl body) m ρ) D, ⟨wfuel, F, ρ, r, o⟩, ?_⟩
    rintro m σ2 H2 ⟨F2, ρ2, r2, o2⟩
    cases m with
    | zero => exact (show False from o2).elim
    | succ m =>
      have o2 : OutS X.K Wn F0 H0 F2 ((evT cl c ρ2).bind fun b => if b = true then (evSs cl body ρ2).bind fun f => match f with
        | .nx ρ2 => whlGo (evT cl c) (evSs cl body) m ρ2
        | .ct ρ2 => whlGo (evT cl c) (evSs cl body) m ρ2
        | .rt d => .ok (.rt d)
        else .ok (.nx ρ2)) D := o2
      refine ⟨F2, ρ2, r2.rel, OutS.bindE r2.st o2 fun F3 H3 u v eq s3 y3 o3 => ?_⟩
      subst y3
      cases u with
      | false => exact o3 _ _ _ (Same.refl _) (r2.step s3)
      | true =>
        refine ⟨fun σ' H' => ∃ F ρ, RelS X.K F0 H0 F ρ σ' H' ∧ OutS X.K Wn F0 H0 F (whlGo (evT cl c) (evSs cl body) m ρ) D, fun σ' H' h => ⟨m, Nat.lt_succ_self m, h⟩, F0, H0, F3, ρ2, r2.step s3, ?_⟩
        have o3 : OutS X.K Wn F0 H0 F3 ((evSs cl body ρ2).bind fun f => match f with
          | .nx ρ2 => whlGo (evT cl c) (evSs cl body) m ρ2
          | .ct ρ2 => whlGo (evT cl c) (evSs cl body) m ρ2
          | .rt d => .ok (.rt d)) D := o3
        cases q : evSs cl body ρ2 with
        | no => rw [q] at o3; exact o3
        | ex c => rw [q] at o3; exact o3
        | ok f =>
          rw [q] at o3
          cases f with
          | nx ρ4 => exact fun F4 σ4 H4 s4 r4 => ⟨F4, ρ4, r4, OutS.mono s4 o3⟩
          | ct ρ4 => exact fun F4 σ4 H4 s4 r4 => ⟨F4, ρ4, r4, OutS.mono s4 o3⟩
          | rt d => exact o3
  · cases hc
theorem Good.toNox (g : Good C cl Wn k xv X) : Good C cl (fun _ _ _ => False) k xv X.nox where
  calm := g.calm
  N := g.N
  nd := g.nd
  sc := g.sc
  fl := g.fl
  room := g.room
  fns := g.fns
  free := g.free
  gcs := g.gcs
  takes := fun _ u s' h => by
    obtain ⟨a, B, sI, pins, σ, H, cls, d, _, _, _, _, _, _, _, _, c, _, _, h⟩ := h
    exact h
  pa := fun σ pins H s e s' I c => by
    obtain ⟨a, B, H', cls, d, _, _, _, _, _, _, _, c, _, _, h⟩ := c
    exact h
  pass := fun _ => PassesOwn.never
  xf := g.xf
  td := g.td
  stk := g.stk
theorem s_tryN {body : List S} (hbd : IHB cl k xv body) (g : Good C cl Wn k xv X) (hb : C.blk = false) {x : Stmt} (hc : chkS C (.tryN body) x = true) : PS X x (tS X.K cl Wn (.tryN body)) := by
  unfold chkS at hc
  split at hc
  · refine (ps_try_thru0 (hbd C _ X.nox g.toNox hb _ hc)).imp fun D σ H ⟨F0, H0, F, ρ, r, o⟩ => ⟨F0, H0, F, ρ, r, ?_⟩
    have o : OutS X.K Wn F0 H0 F (noEx (evSs cl body ρ)) D := o
    cases q : evSs cl body ρ with
    | no => rw [q] at o; exact o
    | ex c => rw [q] at o; exact (show False from o).elim
    | ok f => rw [q] at o; cases f <;> exact o
  · cases hc
theorem s_raise (g : Good C cl Wn k xv X) (hb : C.blk = false) {c : Nat} {x : Stmt} (hc : chkS C (.raise c) x = true) : PS X x (tS X.K cl Wn (.raise c)) := by
  unfold chkS at hc
  split at hc
  · simp only [Bool.and_eq_true, decide_eq_true_eq] at hc
    obtain ⟨⟨⟨⟨rfl, h1⟩, rfl⟩, h2⟩, h3⟩ := hc
    obtain ⟨A, e, gC, q, kC, bF, tF, _⟩ := g.xf h1
    refine (ps_raise g.calm (g.takes hb) (pmk_own PySem.F.excBase_ValueError q gC kC (raises_own bF tF) (g.gl h2) (nm_ok h3).1)).imp fun D σ H ⟨F0, H0, F, ρ, r, o⟩ => ?_
    exact ⟨0, e.symm, rfl, o F σ H (Same.refl _) r.st⟩
  · cases hc
def XI.v : XI → V
  | .c s => .str ⟨s.toArray⟩
  | .b v => .bl v
theorem XI.dv {K : PySem.W.Frag} {F : Hp} : ∀ its : List XI, DVs K F (its.map XI.v) (its.map XI.d)
  | [] => .nil
  | .c s :: r => .cons (.str s) (XI.dv r)
  | .b v :: r => .cons (.bl v) (XI.dv r)
/-- the suite's reading: the slot holds what was caught -/
def tXI (i : Nat) (a : Addr) (it : XI) : TE := fun σ H Q => σ[i]? = some (some (.ref a)) ∧ Q it.v H
def tXIs (i : Nat) (a : Addr) (its : List XI) : TA := fun σ H Q => σ[i]? = some (some (.ref a)) ∧ Q (its.map XI.v) H
theorem s_xi (g : Good C cl Wn k xv X) (hb : C.blk = false) {i : Nat} {n : Str} (hn : C.N[i]? = some n) (hl : C.sc.names.lookup n = some .local) (h1 : C.xi.on = true) {a : Addr} {oe : Obj} {pn : List (Addr × Obj)} (hz : Zc (xv 0) none oe) (hf : ∃ vs, oe.data = .fields vs) {it : XI} {e : Expr} (hc : chkXI C n it e = true) :
    PE (X.suite a ((a, oe) :: pn)) e (tXI i a it) ∧ isStarX e = false := by
  unfold chkXI at hc
  split at hc
  · rename_i s x j p
    have e : x = ⟨s.toArray⟩ := by
      have := eq_of_beq hc
      obtain ⟨y⟩ := x
      rw [← this]
    subst e
    exact ⟨pe_str.imp fun σ H Q ⟨_, q⟩ => q, rfl⟩
  · rename_i v f pf y py z pz pc
    simp only [Bool.and_eq_true, decide_eq_true_eq] at hc
    obtain ⟨⟨⟨⟨rfl, c1⟩, rfl⟩, c2⟩, ⟨c3, c4⟩, c5⟩ := hc
    obtain ⟨A, eA, _, _, _, _, _, ec, _, ak⟩ := g.xf h1
    obtain ⟨cv, w, kit, w1, w2, gz⟩ := ak z v c5
    rw [eA] at hz
    obtain ⟨b1, b2, b3, b4⟩ := g.bl c1
    have boot : bootBuiltins "isinstance" = some (.builtin "isinstance") := by decide +kernel
    have hv : PE (X.suite a ((a, oe) :: pn)) (.Name y py) (tVar i) := pe_var (by show X.N[i]? = _; rw [g.N]; exact hn) (by
      show Vis X.env.scope y
      rw [g.sc]
      exact .inl hl) (nm_ok c2).1 (nm_ok c2).2.1
    have hw : PE (X.suite a ((a, oe) :: pn)) (.Name z pz) (tC w) := by
      rcases gz with gz | ⟨gz, bz⟩
      · exact pe_glob (g.gl c3) gz w2 (nm_ok c4).1
      · exact pe_bltn (g.gl c3) gz bz w2 (nm_ok c4).2.2 (nm_ok c4).1
    refine ⟨(pe_callB (X := X.suite a ((a, oe) :: pn)) (pos := pc) (p := pf) (call_isE ec hz hf) b1 b2 boot (pa_cons hv (pa_cons hw pa_nil)) b3 b4 rfl rfl).imp fun σ H Q ⟨q1, q2⟩ => ?_, rfl⟩
    exact ⟨_, q1, w, cv, v, rfl, w1, kit, q2⟩
  · cases hc
theorem s_xis (g : Good C cl Wn k xv X) (hb : C.blk = false) {i : Nat} {n : Str} (hn : C.N[i]? = some n) (hl : C.sc.names.lookup n = some .local) (h1 : C.xi.on = true) {a : Addr} {oe : Obj} {pn : List (Addr × Obj)} (hz : Zc (xv 0) none oe) (hf : ∃ vs, oe.data = .fields vs) : ∀ {its : List XI} {es : List Expr}, chkXIs C n its es = true →
    PA (X.suite a ((a, oe) :: pn)) es (tXIs i a its) ∧ its.length = es.length
  | [], [], _ => ⟨pa_nil.imp fun σ H Q q => q.2, rfl⟩
  | it :: its, e :: es, hc => by
    have hc : (chkXI C n it e && chkXIs C n its es) = true := hc
    simp only [Bool.and_eq_true] at hc
    obtain ⟨p1, p2⟩ := s_xi g hb hn hl h1 (a := a) (pn := pn) hz hf hc.1
    obtain ⟨q1, q2⟩ := s_xis g hb hn hl h1 (a := a) (pn := pn) hz hf hc.2
    exact ⟨(pa_cons p1 q1 (starCons p2 _ _)).imp fun σ H Q q => ⟨q.1, q.1, q.2⟩, by simp [q2]⟩
  | [], _ :: _, hc => by cases hc
  | _ :: _, [], hc => by cases hc
/-- what the suite comes to -/
def tXS (i : Nat) (a : Addr) : XS → TS
  | .asg j its => fun D σ H => σ[i]? = some (some (.ref a)) ∧ ∀ p, H p = none → D.nx (σ.set j (some (.ref p))) (upd H p (.tup (its.map XI.v)))
  | .ret u v => fun D σ H => σ[i]? = some (some (.ref a)) ∧ D.rt (.bl (u && v)) H
theorem s_xs (g : Good C cl Wn k xv X) (hb : C.blk = false) {i : Nat} {n : Str} (hn : C.N[i]? = some n) (hl : C.sc.names.lookup n = some .local) (h1 : C.xi.on = true) {a : Addr} {oe : Obj} {pn : List (Addr × Obj)} (hz : Zc (xv 0) none oe) (hf : ∃ vs, oe.data = .fields vs) {su : XS} {b : Stmt} (hc : chkXS C i n su b = true) :
    PS (X.suite a ((a, oe) :: pn)) b (tXS i a su) := by
  unfold chkXS at hc
  split at hc
  · simp only [Bool.and_eq_true, decide_eq_true_eq] at hc
    obtain ⟨⟨c1, c3⟩, c4⟩ := hc
    obtain ⟨q1, q2⟩ := s_xis g hb hn hl h1 (a := a) (pn := pn) hz hf c3
    obtain ⟨m1, m2, m3⟩ := nmOk_ok g hb c1
    refine (ps_set (X := X.suite a ((a, oe) :: pn)) g.nd m1 m2 (pe_tup q1) rfl (.inl m3)).imp fun D σ H q => ⟨q.1, ?_, q.2⟩
    rw [List.length_map, q2]
    exact Nat.le_of_lt (small1000 c4)
  · rename_i u v a' b' p p'
    simp only [Bool.and_eq_true] at hc
    obtain ⟨p1, _⟩ := s_xi g hb hn hl h1 (a := a) (pn := pn) hz hf hc.1
    obtain ⟨p2, _⟩ := s_xi g hb hn hl h1 (a := a) (pn := pn) hz hf hc.2
    refine (ps_ret (pe_and p1 (pe_one p2))).imp fun D σ H q => ⟨q.1, u, rfl, ?_⟩
    cases u with
    | true => exact ⟨q.1, q.2⟩
    | false => exact q.2
  · cases hc
theorem un_rel {K : PySem.W.Frag} {F H : Hp} {σ : L2.St} {m : Nat} (s : Same F H) (h : σ.length = m) : Rel K F (List.replicate m .un) σ H := by
  refine ⟨by simp [h], s, fun i d e => ?_, fun i xs e => ?_, fun i j xs ys a e => ?_, fun i tk o e => ?_, fun i j tk tk' o o' e => ?_⟩
  · rw [List.getElem?_replicate] at e; split at e <;> cases e
  · rw [List.getElem?_replicate] at e; split at e <;> cases e
  · rw [List.getElem?_replicate] at e; split at e <;> cases e
  · rw [List.getElem?_replicate] at e; split at e <;> cases e
  · rw [List.getElem?_replicate] at e; split at e <;> cases e
theorem pss_if {X : Cx} {xs : List Stmt} {P : Prop} {t : TS} (h : P → PSs X xs t) : PSs X xs (fun D σ H => P ∧ t D σ H) := ⟨fun pins s σ H D I q => (h q.1).run pins s σ H D I q.2⟩
theorem s_tryX {body : List S} {i m : Nat} {su : XS} (hbd : IHB cl k xv body) (g : Good C cl Wn k xv X) (hb : C.blk = false) {x : Stmt} (hc : chkS C (.tryX body i m su) x = true) : PS X x (tS X.K cl Wn (.tryX body i m su)) := by
  unfold chkS at hc
  split at hc
  · rename_i p y py n b hp tp
    simp only [Bool.and_eq_true, decide_eq_true_eq] at hc
    obtain ⟨⟨⟨⟨⟨⟨⟨⟨⟨⟨h1, rfl⟩, h2⟩, h3⟩, h4⟩, h5⟩, h6⟩, h7⟩, h8⟩, h9⟩, h10⟩ := hc
    obtain ⟨s1, s2⟩ := g.stk hb
    obtain ⟨A, eA, _, _, _, _, _, _, ⟨c, gc, ex⟩, _⟩ := g.xf h1
    have kn : X.env.kindOf n = some .local := by
      show X.env.scope.names.lookup n = some .local
      rw [g.sc]; exact h5
    have hi : X.N[i]? = some n := by rw [g.N]; exact h4
    refine (ps_try_as (tb := fun W => tSs X.K cl (fun c σ H => σ.length = X.N.length → W (xv c) none σ H) body) (ts := fun a cls d D σ H => (cls = xv 0 ∧ d = none) ∧ tXS i a su D σ H) (Wout := wx xv Wn) s1 s2 g.nd hi kn ⟨g.gl h2, (nm_ok h3).1, .inl gc⟩ (g.takes hb)
      (fun W pn xe tk pa => ?_) (fun a oe cls d pn hz hf => ?_)).imp fun D σ H ⟨F0, H0, F, ρ, r, o⟩ => ?_
    · refine hbd C _ (X.tr pn xe) ?_ hb _ h8
      have tk' : Takes (X.tr pn xe) (wx xv fun c σ H => σ.length = X.N.length → W (xv c) none σ H) := by
        intro u s' h
        obtain ⟨a, B, sI, pins, σ, H, cls, d, e1, I, nb, up, sky, na, os, ag, c', e2, e3, w⟩ := h
        subst e2 e3
        exact tk u s' ⟨a, B, sI, pins, σ, H, _, none, e1, I, nb, up, sky, na, os, ag, w I.len⟩
      exact { calm := g.calm, N := g.N, nd := g.nd, sc := g.sc, fl := g.fl, room := g.room, fns := g.fns, free := g.free, gcs := g.gcs, xf := g.xf, td := g.td, stk := g.stk, pass := fun _ => pa, takes := fun _ => tk', pa := fun σ => passAt tk' σ }
    · refine pss_if fun ⟨e1, e2⟩ => ?_
      subst e1 e2
      exact (pss_one (s_xs g hb h4 h5 h1 hz hf h7))
    · refine ⟨F0, H0, F, ρ, r, ?_⟩
      have o : OutS X.K Wn F0 H0 F (tryR (su.ev m) (evSs cl body ρ)) D := o
      cases q : evSs cl body ρ with
      | no => rw [q] at o; exact o
      | ok f => rw [q] at o; cases f <;> exact o
      | ex c' =>
        rw [q] at o
        cases c' with
        | succ m' => exact (show False from o).elim
        | zero =>
          have o : OutS X.K Wn F0 H0 F (su.ev m) D := o
          intro F' σ' H' sF st hl
          refine ⟨true, by rw [eA]; exact ex, fun _ a ha => ⟨⟨rfl, rfl⟩, ?_⟩, fun z => Bool.noConfusion z⟩
          have il : i < σ'.length := by rw [hl]; exact (List.getElem?_eq_some_iff.mp hi).1
          have rl : m = X.N.length := by rw [g.N]; exact h9
          cases su with
          | ret u v => exact ⟨List.getElem?_set_self il, o F' _ H' st (.bl _)⟩
          | asg j its =>
            refine ⟨List.getElem?_set_self il, fun p hp => ?_⟩
            obtain ⟨hj, o⟩ := OutS.put (f := fun ρ' => R.ok (Fl.nx ρ')) o
            have ij : i ≠ j := of_decide_eq_true h10
            have s' : Step F' H' (upd F' p (.tup (its.map XI.v))) (upd H' p (.tup (its.map XI.v))) := Step.new st.s hp
            refine o _ _ _ (sF.trans s'.f) ⟨?_, st.trans s', fun l xs a' e1 e2 => ?_, fun l tk o a' e1 e2 => ?_⟩
            · show Rel X.K _ _ (((σ'.set i (some (.ref a))).set j (some (.ref p))).set i none) _
              rw [List.set_comm _ _ ij.symm, List.set_set]
              refine (un_rel s'.s (by simp [hl, rl])).put hj (dv_tup_new (st.s.free hp) (XI.dv its))
            · by_cases lj : l = j
              · subst lj
                rw [List.getElem?_set_self hj] at e1
                cases e1
              · rw [List.getElem?_set_ne (Ne.symm lj), List.getElem?_replicate] at e1
                split at e1 <;> cases e1
            · by_cases lj : l = j
              · subst lj
                rw [List.getElem?_set_self hj] at e1
                cases e1
              · rw [List.getElem?_set_ne (Ne.symm lj), List.getElem?_replicate] at e1
                split at e1 <;> cases e1
  · cases hc
/-! ### dicts by pairs of numbers, neighbours put together -/
theorem rdKV_ok {ρ : MT.Env} {i : Nat} {kvs : List (List Int × Int)} (h : rdKV ρ i = .ok kvs) : ρ[i]? = some (.obj none (.dic kvs)) := by
  unfold rdKV at h
  split at h
  · rename_i kvs' e
    cases h
    exact e
  · cases h
theorem rdKV_ex (ρ : MT.Env) (i c : Nat) : rdKV ρ i ≠ .ex c := by
  unfold rdKV
  split <;> exact fun h => nomatch h
theorem s_dnew (g : Good C cl Wn k xv X) (hb : C.blk = false) {i : Nat} {x : Stmt} (hc : chkS C (.dnew i) x = true) : PS X x (tS X.K cl Wn (.dnew i)) := by
  unfold chkS at hc
  split at hc
  · rename_i y py pd pos
    obtain ⟨m1, m2, m3⟩ := nmOk_ok g hb hc
    refine (ps_set (pos' := py) (pos := pos) g.nd m1 m2 (pe_dnewT (pos := pd)) (notSwap rfl _ _ _) (.inl m3)).imp fun D σ H ⟨F0, H0, F, ρ, r, o⟩ => ?_
    have o : OutS X.K Wn F0 H0 F (guardR (ρ.all SV.nob) ((put ρ i (.obj none (.dic []))).bind fun ρ' => .ok (.nx ρ'))) D := o
    obtain ⟨hn, o⟩ := OutS.guard o
    obtain ⟨hi, o⟩ := OutS.put (f := fun ρ' => R.ok (Fl.nx ρ')) o
    exact fun p hp => o _ _ _ (Same.refl _) (r.putObj hi hp (show ObOk X.K (.dic []) (.dT []) from rfl) (List.all_eq_true.mp hn))
  · cases hc
theorem s_dput (g : Good C cl Wn k xv X) {i : Nat} {es : List E} {e : E} {x : Stmt} (hc : chkS C (.dput i es e) x = true) : PS X x (tS X.K cl Wn (.dput i es e)) := by
  unfold chkS at hc
  split at hc
  · rename_i y p xs kk pp ps z pos
    simp only [Bool.and_eq_true, decide_eq_true_eq, Bool.not_eq_true'] at hc
    obtain ⟨⟨⟨⟨c1, c2⟩, c3⟩, c4⟩, c5⟩ := hc
    have ho : PE X (.Name y p) (tVar i) := s_var g c1
    refine (ps_dput (pos' := ps) (pos := pos) (by have := g.units; omega) ho (pe_tup (x1 := kk) (pos := pp) ((sEs es).2 C Wn X g xs c2).1) ((sE e).1.pe g c5) (notSwap c4 _ _ _)).imp fun D σ H ⟨F0, H0, F, ρ, r, o⟩ => ?_
    refine ⟨F, ρ, r.rel, OutS.bindE (f := fun d => (intD d).bind fun n => (rdKV ρ i).bind fun kvs => (evEs cl es ρ).bind fun ds => match keyD (.tup ds) with
      | some key => guardR (decide (kvs.length < 16777216)) ((put ρ i (.obj none (.dic (putDT kvs key n)))).bind fun ρ' => .ok (.nx ρ'))
      | none => .no) r.st o fun F1 H1 v d eq s1 y1 o1 => ?_⟩
    cases q0 : intD d with
    | no => rw [q0] at o1; exact (show False from o1).elim
    | ex c => exact absurd q0 (intD_ex _ _)
    | ok n =>
      rw [q0] at o1
      have ed := intD_ok q0
      subst ed
      cases q1 : rdKV ρ i with
      | no => simp only [R.bind, q1] at o1; exact (show False from o1).elim
      | ex c => exact absurd q1 (rdKV_ex _ _ _)
      | ok kvs =>
        have o1 : OutS X.K Wn F0 H0 F1 ((rdKV ρ i).bind fun kvs => (evEs cl es ρ).bind fun ds => match keyD (.tup ds) with
          | some key => guardR (decide (kvs.length < 16777216)) ((put ρ i (.obj none (.dic (putDT kvs key n)))).bind fun ρ' => .ok (.nx ρ'))
          | none => .no) D := o1
        rw [q1] at o1
        have er := rdKV_ok q1
        have r1 := r.step s1
        obtain ⟨a, ho', e1, e2, e3, e4, e5⟩ := r1.rel.obj i none _ er
        have e4 : ho' = .dT (dKV kvs) := e4
        subst e4
        refine ⟨.ref a, e1, F1, ρ, r1.rel, OutS.bindE (f := fun ds => match keyD (.tup ds) with
          | some key => guardR (decide (kvs.length < 16777216)) ((put ρ i (.obj none (.dic (putDT kvs key n)))).bind fun ρ' => .ok (.nx ρ'))
          | none => .no) r1.st o1 fun F2 H2 vs ds eq2 s2 y2 o2 => ?_⟩
        have hl : vs.length ≤ sizeLine := by
          rw [y2.length, evEs_len eq2, chkEs_len c2, c3]
          decide
        refine ⟨hl, fun b hb => ?_⟩
        cases q2 : keyD (.tup ds) with
        | none => rw [q2] at o2; exact (show False from o2).elim
        | some key =>
          rw [q2] at o2
          obtain ⟨hk, o2⟩ := OutS.guard o2
          obtain ⟨hi, o2⟩ := OutS.put (f := fun ρ' => R.ok (Fl.nx ρ')) o2
          have ek := keyD_vs q2 y2
          have st : Step F2 H2 (upd F2 b (.tup vs)) (upd H2 b (.tup vs)) := Step.new s2.s hb
          have r2 := (r1.step s2).step st
          have eb : upd H2 b (.tup vs) b = some (.tup ((key.map Sum.inl : List L2.Key).map kV)) := by rw [upd_same, ek]
          have ea : upd H2 b (.tup vs) a = some (.dT (dKV kvs)) := st.h _ _ (s2.h _ _ e3)
          have kl : (dKV kvs).length < sizeLine := by
            have : kvs.length < 16777216 := of_decide_eq_true hk
            unfold dKV
            rw [List.length_map]
            exact this
          refine ⟨a, _, rfl, DPut.t ea eb kl, ?_⟩
          rw [y1.iInv, putDT_put]
          exact o2 _ _ _ st.f (r2.updObj er e1 rfl)
  · cases hc
theorem s_retd (g : Good C cl Wn k xv X) {i : Nat} {x : Stmt} (hc : chkS C (.retd i) x = true) : PS X x (tS X.K cl Wn (.retd i)) := by
  unfold chkS at hc
  split at hc
  · rename_i y p pos
    refine (ps_ret (s_var g hc)).imp fun D σ H ⟨F0, H0, F, ρ, r, o⟩ => ?_
    have o : OutS X.K Wn F0 H0 F ((rdKV ρ i).bind fun kvs => .ok (.rt (.dct kvs))) D := o
    cases q1 : rdKV ρ i with
    | no => rw [q1] at o; exact (show False from o).elim
    | ex c => exact absurd q1 (rdKV_ex _ _ _)
    | ok kvs =>
      rw [q1] at o
      have er := rdKV_ok q1
      obtain ⟨a, ho', e1, e2, e3, e4, e5⟩ := r.rel.obj i none _ er
      have e4 : ho' = .dT (dKV kvs) := e4
      subst e4
      exact ⟨.ref a, e1, o _ _ H (r.st.freeze (r.newO i none _ a er e1) e5 e3) (.dct (.inl upd_same))⟩
  · cases hc
theorem getLast_sp {xs : List D} {d : D} (h : xs.getLast? = some d) : xs = xs.dropLast ++ [d] ∧ xs[xs.length - 1]? = some d := by
  have hne : xs ≠ [] := fun e => by rw [e] at h; cases h
  have e := List.dropLast_concat_getLast hne
  rw [List.getLast?_eq_some_getLast hne] at h
  have h := Option.some.inj h
  rw [h] at e
  refine ⟨e.symm, ?_⟩
  have l : 0 < xs.length := List.length_pos_iff.mpr hne
  rw [← h, List.getLast_eq_getElem, List.getElem?_eq_getElem (by omega)]
theorem DVs.dropLast {K : PySem.W.Frag} {F : Hp} {vs : List V} {ds : List D} (h : DVs K F vs ds) : DVs K F vs.dropLast ds.dropLast := by
  rw [List.dropLast_eq_take, List.dropLast_eq_take, h.length]
  exact h.take _
theorem s_apop (g : Good C cl Wn k xv X) {i w z : Nat} {x : Stmt} (hc : chkS C (.apop i w z) x = true) : PS X x (tS X.K cl Wn (.apop i w z)) := by
  unfold chkS at hc
  split at hc
  · rename_i e pos
    unfold apopC at hc
    split at hc
    · rename_i y p nm ap w' wp y2 p2 nm2 ap2 cp2 ix sp op x' xp bp kk tp cp
      simp only [Bool.and_eq_true, decide_eq_true_eq, Bool.not_eq_true'] at hc
      obtain ⟨⟨⟨⟨⟨⟨⟨⟨⟨⟨rfl, rfl⟩, c3⟩, c4⟩, rfl⟩, c6⟩, c7⟩, c8⟩, c9⟩, c10⟩, c11⟩ := hc
      have hy : PE X (.Name y p) (tVar i) := s_var g c7
      have hy2 : PE X (.Name y2 p2) (tVar i) := s_var g c8
      have hw : PE X (.Name w' wp) (tVar w) := s_var g c9
      have hx : PE X (.Name x' xp) (tVar z) := s_var g c10
      have hpop := pe_bm0 PySem.F.plainAttrs_list PySem.F.slot_list_pop PySem.F.type_list_pop (mt_pop (X := X)) hy2 (attrBase rfl _ _ _) c4
      have hadd := pe_op (pos := bp) (op_bin (X := X) .add) (pe_ix (pos := sp) (ix_D (X := X)) hpop ((sE (.c (.int 1))).1.pe g c11) (plainIx c6)) hx
      refine (ps_expr (pe_bm PySem.F.plainAttrs_list PySem.F.slot_list_append PySem.F.type_list_append (mt_append (X := X)) hy (pa_cons (pe_tup (x1 := kk) (pos := tp) (pa_cons hw (pa_cons hadd pa_nil))) pa_nil) (attrBase rfl _ _ _) rfl c3 rfl rfl) (notSwap rfl _ _ _)).imp fun D σ H ⟨F0, H0, F, ρ, r, o⟩ => ?_
      have o : OutS X.K Wn F0 H0 F ((getOwn ρ i).bind fun xs => (rd ρ w).bind fun dw => (rd ρ z).bind fun dx => match xs.getLast? with
        | some (.tup [_, v]) => (binD .add v dx).bind fun u => guardR (decide (xs.length < 16777216)) ((put ρ i (.own (xs.dropLast ++ [.tup [dw, u]]))).bind fun ρ' => .ok (.nx ρ'))
        | _ => .no) D := o
      obtain ⟨xs, eo, o⟩ := OutS.own o
      obtain ⟨a, vs, e1, e2, e3, h⟩ := r.rel.own i xs eo
      cases qw : rd ρ w with
      | no => rw [qw] at o; exact (show False from o).elim
      | ex c => unfold rd at qw; split at qw <;> cases qw
      | ok dw =>
      rw [qw] at o
      cases qz : rd ρ z with
      | no => simp only [R.bind, qz] at o; exact (show False from o).elim
      | ex c => unfold rd at qz; split at qz <;> cases qz
      | ok dz =>
      have o : OutS X.K Wn F0 H0 F ((rd ρ z).bind fun dx => match xs.getLast? with
        | some (.tup [_, v]) => (binD .add v dx).bind fun u => guardR (decide (xs.length < 16777216)) ((put ρ i (.own (xs.dropLast ++ [.tup [dw, u]]))).bind fun ρ' => .ok (.nx ρ'))
        | _ => .no) D := o
      rw [qz] at o
      have o : OutS X.K Wn F0 H0 F (match xs.getLast? with
        | some (.tup [_, v]) => (binD .add v dz).bind fun u => guardR (decide (xs.length < 16777216)) ((put ρ i (.own (xs.dropLast ++ [.tup [dw, u]]))).bind fun ρ' => .ok (.nx ρ'))
        | _ => .no) D := o
      split at o
      · rename_i d0 d1 ql
        obtain ⟨spl, lst⟩ := getLast_sp ql
        have rdv : ∀ {j : Nat} {d : MT.D}, rd ρ j = .ok d → ∃ v, σ[j]? = some (some v) ∧ DV X.K F v d := fun {j d} q => by
          unfold rd at q
          split at q
          · rename_i d' q'
            cases q
            exact r.rel.val j d q'
          · cases q
        obtain ⟨vw, ew, yw⟩ := rdv qw
        obtain ⟨vz, ez, yz⟩ := rdv qz
        obtain ⟨vl, el, yl⟩ := h.get (i := xs.length - 1) lst
        have tyl : tyV X.K "list" (.ref a) H := .inl ⟨rfl, vs, SqL.of e2⟩
        refine ⟨.ref a, e1, tyl, vw, ew, .ref a, e1, tyl, a, vs, vl, rfl, rfl, e2, by rw [h.length]; exact el, ?_⟩
        have r1 := r.upd (ds := xs.dropLast) eo e1 h.dropLast
        have f1 : F a = none := e3
        refine ⟨F, _, r1.rel, ?_⟩
        show Out Wn F (L2.upd H a (.lst vs.dropLast)) σ (R.ok (MT.D.int 1)) _ _
        intro F2 H2 v1 s2 y1
        have y1 : DV X.K F2 v1 (.int 1) := y1
        refine ⟨F2, .tup [d0, d1], .int 1, s2.s, .inl (yl.mono s2.f), .inl y1, ?_⟩
        show OutP X.K F2 H2 (R.ok d1) _
        intro F3 H3 v3 s3 y3
        have st3 := s2.trans s3
        refine ⟨vz, ez, F3, d1, dz, s3.s, .inl y3, .inl (yz.mono st3.f), ?_⟩
        cases qb : binD .add d1 dz with
        | no => rw [qb] at o; exact (show False from o).elim
        | ex c => exact absurd qb (binD_ex _ _ _ c)
        | ok u =>
        rw [qb] at o
        obtain ⟨hl, o⟩ := OutS.guard o
        obtain ⟨hi, o⟩ := OutS.put (f := fun ρ' => R.ok (Fl.nx ρ')) o
        intro F4 H4 v4 s4 y4
        have st4 := st3.trans s4
        refine ⟨by show 2 ≤ sizeLine; decide, fun q hq => ?_⟩
        have s5 : Step F4 H4 (upd F4 q (.tup [vw, v4])) (upd H4 q (.tup [vw, v4])) := Step.new s4.s hq
        have st5 := st4.trans s5
        have dv : DV X.K (upd F4 q (.tup [vw, v4])) (.ref q) (.tup [dw, u]) := dv_tup_new (s4.s.free hq) (.cons (yw.mono st4.f) (.cons y4 .nil))
        have ha : upd H4 q (.tup [vw, v4]) a = some (.lst vs.dropLast) := st5.h _ _ upd_same
        have hlen : vs.dropLast.length < 16777216 := by
          have : xs.length < 16777216 := of_decide_eq_true hl
          rw [List.length_dropLast, h.length]
          omega
        refine ⟨a, vs.dropLast, .ref q, rfl, rfl, ha, hlen, ?_⟩
        have r5 := (r1.step st5).upd (i := i) (xs := xs.dropLast) (ds := xs.dropLast ++ [.tup [dw, u]]) (vs := vs.dropLast ++ [.ref q]) (List.getElem?_set_self hi) e1 ((h.dropLast.mono st5.f).append (.cons dv .nil))
        rw [List.set_set] at r5
        exact o _ _ _ st5.f r5
      · exact (show False from o).elim
    · cases hc
  · cases hc
theorem seq_read {s : S} {ss : List S} {D : Ends} {σ : L2.St} {H : Hp} {K : PySem.W.Frag} (h : tSs K cl Wn (s :: ss) D σ H) : tSeq (tS K cl Wn s) (tSs K cl Wn ss) D σ H := by
  obtain ⟨F0, H0, F, ρ, r, o⟩ := h
  refine ⟨F0, H0, F, ρ, r, ?_⟩
  have o : OutS K Wn F0 H0 F ((evS cl s ρ).bind fun f => match f with
    | .nx ρ' => evSs cl ss ρ'
    | f => .ok f) D := o
  cases q : evS cl s ρ with
  | no => rw [q] at o; exact o
  | ex c => rw [q] at o; exact o
  | ok f =>
    rw [q] at o
    cases f with
    | nx ρ1 => exact fun F1 σ1 H1 s1 r1 => ⟨F0, H0, F1, ρ1, r1, OutS.mono s1 o⟩
    | ct ρ1 => exact o
    | rt d => exact o
theorem s_consS {s : S} {ss : List S} (hs : ∀ (C : SC) (Wn : WN) (X : Cx), Good C cl Wn k xv X → C.blk = false → ∀ x, chkS C s x = true → PS X x (tS X.K cl Wn s)) (hss : IHB cl k xv ss) (nf : ∀ C xs, chkSs C (s :: ss) xs = (match xs with
    | x :: r => chkS C s x && chkSs C ss r
    | [] => false)) : IHB cl k xv (s :: ss) := by
  intro C Wn X g hb xs hc
  rw [nf] at hc
  cases xs with
  | nil => cases hc
  | cons x r =>
    have hc : (chkS C s x && chkSs C ss r) = true := hc
    simp only [Bool.and_eq_true] at hc
    exact (pss_cons (hs C Wn X g hb x hc.1) (hss C Wn X g hb r hc.2)).imp fun D σ H h => seq_read h
end
end MT
namespace MT
open PySem L2
/-! ### rows parted by empty ones -/
/-- where the walk stands: the outer list at a, the last inner one at b -/
structure GrpAt (K : PySem.W.Frag) (F0 H0 F : Hp) (σ : L2.St) (H : Hp) (i : Nat) (gs : List (List (List Nat))) (cur : List (List Nat)) : Prop where
  st : Step F0 H0 F H
  at_ : ∃ a b gvs cvs, σ[i]? = some (some (.ref a)) ∧ H a = some (.lst (gvs ++ [.ref b])) ∧ H b = some (.lst cvs) ∧ a ≠ b ∧ F a = none ∧ F b = none ∧ H0 a = none ∧ H0 b = none ∧ DVs K F gvs (gs.map lstS) ∧ DVs K F cvs (cur.map .str)
section
variable {K : PySem.W.Frag} {F0 H0 F F' H H' : Hp} {σ σ' : L2.St} {i : Nat} {gs : List (List (List Nat))} {cur : List (List Nat)}
theorem GrpAt.step (h : GrpAt K F0 H0 F σ H i gs cur) (s : Step F H F' H') (e : σ'[i]? = σ[i]?) : GrpAt K F0 H0 F' σ' H' i gs cur := by
  obtain ⟨st, a, b, gvs, cvs, e1, e2, e3, ne, f1, f2, z1, z2, d1, d2⟩ := h
  exact ⟨st.trans s, a, b, gvs, cvs, e.trans e1, s.h _ _ e2, s.h _ _ e3, ne, (s.n a _ e2).trans f1, (s.n b _ e3).trans f2, z1, z2, d1.mono s.f, d2.mono s.f⟩
theorem set_same {α : Type} : ∀ {xs : List α} {i : Nat} {x : α}, xs[i]? = some x → xs.set i x = xs
  | [], _, _, h => by simp at h
  | y :: ys, 0, x, h => by
    have e : y = x := by simpa using h
    rw [e]; rfl
  | y :: ys, i + 1, x, h => by
    show y :: ys.set i x = y :: ys
    rw [set_same (by simpa using h)]
/-- one slot alone is told -/
theorem one_rel {m r : Nat} {v : V} {d : D} (s : Same F H) (h : σ.length = m) (e : σ[r]? = some (some v)) (y : DV K F v d) : Rel K F ((List.replicate m .un).set r (.val d)) σ H := by
  have hr : r < σ.length := (List.getElem?_eq_some_iff.mp e).1
  have := (un_rel (K := K) s h).put (i := r) (by simpa [← h] using hr) y
  rw [set_same e] at this
  exact this
end
section
variable {cl : CL} {k : Nat} {xv : Nat → Value} {C : SC} {Wn : WN} {X : Cx}
theorem grp_eq {m v : Nat} (hv : v < m) (s : List Nat) : evT cl (.cmp .eq (.v v) (.c (.str []))) ((List.replicate m .un).set v (.val (.str s))) = .ok (s == []) := by
  have e : rdB ((List.replicate m .un).set v (.val (.str s))) v = .ok (.str s) := by
    unfold rdB
    rw [List.getElem?_set_self (by simpa using hv)]
  show ((rdB ((List.replicate m .un).set v (.val (.str s))) v).bind fun x => (R.ok (D.str [])).bind fun y => cmpD .eq x y).bind truth = _
  rw [e]
  rfl
theorem strsD_get : ∀ {xs : List D} {ss : List (List Nat)}, strsD xs = some ss → xs = ss.map .str
  | [], ss, h => by cases h; rfl
  | .str s :: r, ss, h => by
    have h : (strsD r).map (s :: ·) = some ss := h
    cases q : strsD r with
    | none => rw [q] at h; cases h
    | some t =>
      rw [q] at h
      cases h
      rw [strsD_get q]; rfl
  | .non :: _, _, h => by cases h
  | .bl _ :: _, _, h => by cases h
  | .int _ :: _, _, h => by cases h
  | .tup _ :: _, _, h => by cases h
  | .lst _ :: _, _, h => by cases h
  | .scr _ :: _, _, h => by cases h
  | .dct _ :: _, _, h => by cases h
theorem s_grp (g : Good C cl Wn k xv X) (hb : C.blk = false) {i r v : Nat} {xs : List Stmt} (hc : grpC C i r v xs = true) : PSs X xs (tSs X.K cl Wn [.grp i r v]) := by
  unfold grpC at hc
  split at hc
  · rename_i y py pl1 pl2 ps tg it c y2 p2 n1 a1 pl3 c1 pe1 y3 p3 ix psb n2 a2 w p4 c2 pe2 pif pfor y4 p5 pret
    simp only [Bool.and_eq_true, Bool.not_eq_true', decide_eq_true_eq] at hc
    obtain ⟨⟨⟨⟨⟨⟨⟨⟨⟨⟨⟨⟨⟨⟨⟨⟨⟨h1, h2⟩, h3⟩, h4⟩, h5⟩, h6⟩, h7⟩, h8⟩, h9⟩, h10⟩, h11⟩, rfl⟩, rfl⟩, h14⟩, h15⟩, h16⟩, h17⟩, h18⟩ := hc
    obtain ⟨m1, m2, m3⟩ := nmOk_ok g hb h1
    have q1 := ps_set (pos' := py) (pos := ps) g.nd m1 m2 (pe_lst (pos := pl2) (pa_cons (pe_lst (pos := pl1) pa_nil) pa_nil)) (notSwap rfl _ _ _) (.inl m3)
    have i6 : PE X (.Name y2 p2) (tVar i) := s_var g h6
    have i7 : PE X (.Name y3 p3) (tVar i) := s_var g h7
    have i8 : PE X (.Name y4 p5) (tVar i) := s_var g h8
    have i9 : PE X (.Name w p4) (tVar v) := s_var g h9
    have b1 := ps_expr (pos := pe1) (pe_bm (apos := a1) (cpos := c1) PySem.F.plainAttrs_list PySem.F.slot_list_append PySem.F.type_list_append (mt_append (X := X)) i6 (pa_cons (pe_lst (pos := pl3) pa_nil) pa_nil) (attrBase rfl _ _ _) rfl h14 rfl rfl) (notSwap rfl _ _ _)
    have b2 := ps_expr (pos := pe2) (pe_bm (apos := a2) (cpos := c2) PySem.F.plainAttrs_list PySem.F.slot_list_append PySem.F.type_list_append (mt_append (X := X)) (pe_ix (pos := psb) (ix_list (X := X)) i7 ((sE (.neg (.c (.int 1)))).1.pe g h10) (plainIx h11)) (pa_cons i9 pa_nil) (attrBase rfl _ _ _) rfl h15 rfl rfl) (notSwap rfl _ _ _)
    have bd := pss_one (ps_if (pos := pif) ((sE (.cmp .eq (.v v) (.c (.str [])))).1.pt g h5 rfl) (pss_one b1) (pss_one b2))
    have q2 := ps_for (pos := pfor) (g.pass hb) g.calm (s_iter g (tg := tg) (ik := .seq) (es := [.v r]) (sEs [.v r]).1 h3) (s_tg g (.nm v) tg h2) bd (notSet h4 X.env)
    refine (pss_cons q1 (pss_cons q2 (pss_one (ps_ret (pos := pret) i8)))).imp fun D σ H ⟨F0, H0, F, ρ, rel, o⟩ => ?_
    have o : OutS X.K Wn F0 H0 F (((rd ρ r).bind fun d => match d with
      | .lst xs => (ofO (strsD xs)).bind fun ss => guardR (decide (i < ρ.length) && decide (v < ρ.length) && decide (ss.length < 16777215)) (R.ok (Fl.rt (.lst ((grpL ss).map lstS))))
      | _ => R.no).bind fun f => match f with
        | Fl.nx ρ' => evSs cl [] ρ'
        | f => R.ok f) D := o
    unfold rd at o
    cases er : ρ[r]? with
    | none => rw [er] at o; exact (show False from o).elim
    | some sv =>
    rw [er] at o
    cases sv with
    | un => exact (show False from o).elim
    | own _ => exact (show False from o).elim
    | obj _ _ => exact (show False from o).elim
    | val d =>
    cases d <;> first
      | exact (show False from o).elim
      | skip
    rename_i xs
    cases es : strsD xs with
    | none => simp only [R.bind, es, ofO] at o; exact (show False from o).elim
    | some ss =>
    simp only [R.bind, es, ofO] at o
    by_cases hg : (decide (i < ρ.length) && decide (v < ρ.length) && decide (ss.length < 16777215)) = true
    case neg =>
      rw [Bool.not_eq_true] at hg
      rw [hg] at o
      exact (show False from o).elim
    rw [hg] at o
    have o : ∀ F' v H, Step F0 H0 F' H → DV X.K F' v (.lst ((grpL ss).map lstS)) → D.rt v H := o
    simp only [Bool.and_eq_true, decide_eq_true_eq] at hg
    obtain ⟨⟨hi, hv⟩, hs⟩ := hg
    obtain ⟨rv, er1, er2⟩ := rel.rel.val r _ er
    have exs := strsD_get es
    have len := rel.rel.len
    -- found = [[]]
    refine ⟨by decide, fun b hb0 => ⟨(by decide : 1 ≤ sizeLine), fun a ha0 => ?_⟩⟩
    have sb := rel.rel.sub
    have stp : Step F H F (upd (upd H b (.lst [])) a (.lst [.ref b])) := by
      refine ((Step.refl sb).side hb0 (sb.free hb0)).side ?_ ?_
      · exact (same_new hb0 _).free ha0
      · exact sb.free ((same_new hb0 (.lst [])).free ha0)
    have ab : a ≠ b := fun e => by rw [e, upd_same] at ha0; cases ha0
    have ha1 : H a = none := (same_new hb0 (.lst [])).free ha0
    have st0 : Step F0 H0 F H := rel.st
    have hil : i < σ.length := len ▸ hi
    have gr : GrpAt X.K F0 H0 F (σ.set i (some (.ref a))) (upd (upd H b (.lst [])) a (.lst [.ref b])) i [] [] := by
      refine ⟨st0.trans stp, a, b, [], [], List.getElem?_set_self hil, upd_same, ?_, ab, sb.free ha1, sb.free hb0, st0.h.free ha1, st0.h.free hb0, .nil, .nil⟩
      rw [upd_ne (Ne.symm ab), upd_same]
    have el : (σ.set i (some (.ref a))).length = ρ.length := by rw [List.length_set, len]
    refine ⟨F, _, one_rel stp.s el (by rw [List.getElem?_set_ne h17]; exact er1) er2, ?_⟩
    have eev : (evEs cl [.v r] ((List.replicate ρ.length .un).set r (.val (.lst xs)))).bind (itD .seq) = .ok xs := by
      have hr : r < ρ.length := (List.getElem?_eq_some_iff.mp er).1
      have e : rd ((List.replicate ρ.length .un).set r (.val (.lst xs))) r = .ok (.lst xs) := by
        unfold rd
        rw [List.getElem?_set_self (by simpa using hr)]
      show (((rd ((List.replicate ρ.length .un).set r (.val (.lst xs))) r).bind fun d => (R.ok []).bind fun ds => R.ok (d :: ds))).bind (itD .seq) = _
      rw [e]; rfl
    rw [eev]
    intro F1 H1 J s1 ⟨Src, wk, src⟩
    have g1 := gr.step (σ' := σ.set i (some (.ref a))) s1 rfl
    have lxs : xs.length = ss.length := by rw [exs, List.length_map]
    refine ⟨fun j m σ H => m = xs.length - j ∧ j ≤ xs.length ∧ ∃ F gs cur, Same F1 F ∧ GrpAt X.K F0 H0 F σ H i gs cur ∧ σ.length = ρ.length ∧ (ss.take j).foldl grpStep ([], []) = (gs, cur) ∧ gs.length ≤ j ∧ cur.length ≤ j,
      ⟨xs.length, by simp, Nat.zero_le _, F1, [], [], Same.refl _, g1, el, by simp, Nat.le_refl _, Nat.le_refl _⟩, ?_⟩
    rintro j m σ2 H2 ⟨rfl, hj, F2, gs, cur, sf, gr2, l2, fo, lg, lc⟩
    have src2 := wk.mono F1 F2 src sf
    by_cases hlt : j < xs.length
    · refine .inr ⟨wk.go j F2 H2 gr2.st.s src2 hlt, fun σ H => j + 1 ≤ xs.length ∧ ∃ F gs cur, Same F1 F ∧ GrpAt X.K F0 H0 F σ H i gs cur ∧ σ.length = ρ.length ∧ (ss.take (j + 1)).foldl grpStep ([], []) = (gs, cur) ∧ gs.length ≤ j + 1 ∧ cur.length ≤ j + 1, fun σ' H' h => ⟨xs.length - (j + 1), by omega, rfl, h.1, h.2⟩, fun rw_ H3 hy => ?_⟩
      obtain ⟨d, ed, F3, s3, yd⟩ := wk.yld j F2 H2 rw_ H3 gr2.st.s src2 hlt hy
      have hjs : j < ss.length := lxs ▸ hlt
      have edd : d = .str ss[j] := by
        rw [exs, List.getElem?_map, List.getElem?_eq_getElem hjs] at ed
        exact (Option.some.inj ed).symm
      subst edd
      have tk : ss.take (j + 1) = ss.take j ++ [ss[j]] := by rw [List.take_succ, List.getElem?_eq_getElem hjs]; rfl
      refine ⟨F3, List.replicate ρ.length .un, _, un_rel s3.s l2, yd, ?_⟩
      have eb : bindT (.nm v) (.str ss[j]) (List.replicate ρ.length .un) = .ok ((List.replicate ρ.length .un).set v (.val (.str ss[j]))) := by
        show MT.put _ _ _ = _
        unfold MT.put
        rw [if_pos (by simpa using hv)]
      rw [eb]
      intro σ4 rel4 l4 kp
      have kpi : σ4[i]? = σ2[i]? := kp i (by show i ∉ [v]; simpa using h16)
      have gr3 := gr2.step (σ' := σ4) s3 kpi
      have ev : σ4[v]? = some (some rw_) ∨ True := .inr trivial
      obtain ⟨rw2, erw, yrw⟩ := rel4.val v _ (List.getElem?_set_self (by simpa using hv))
      refine ⟨F3, _, rel4, ?_⟩
      rw [grp_eq hv]
      intro F4 H4 bb s4 ebb
      have gr4 := gr3.step (σ' := σ4) s4 rfl
      obtain ⟨st4, a4, b4, gvs, cvs, e1, e2, e3, ne, f1, f2, z1, z2, d1, d2⟩ := gr4
      have lgv : gvs.length = gs.length := by rw [d1.length, List.length_map]
      have lcv : cvs.length = cur.length := by rw [d2.length, List.length_map]
      have s14 := (sf.trans s3.f).trans s4.f
      have rel5 := rel4.step s4
      subst ebb
      cases hb2 : (ss[j] == []) with
      | true =>
        have ess : ss[j] = [] := eq_of_beq hb2
        refine ⟨.ref a4, e1, .inl ⟨rfl, _, SqL.of e2⟩, by decide, fun c hc0 => ?_⟩
        have ca : c ≠ a4 := fun q => by rw [q, e2] at hc0; cases hc0
        have cb : c ≠ b4 := fun q => by rw [q, e3] at hc0; cases hc0
        have fc : F4 c = none := st4.s.free hc0
        have h0c : H0 c = none := st4.h.free hc0
        refine ⟨a4, gvs ++ [.ref b4], .ref c, rfl, rfl, by rw [upd_ne (Ne.symm ca)]; exact e2, by rw [List.length_append, lgv]; simp only [List.length_singleton]; show gs.length + 1 < 16777216; omega, ?_⟩
        have sF : Same F4 (L2.upd F4 b4 (.lst cvs)) := same_new f2 _
        have s5 : Step F0 H0 (L2.upd F4 b4 (.lst cvs)) H4 := st4.freeze z2 f2 e3
        have fa : (L2.upd F4 b4 (.lst cvs)) a4 = none := by rw [upd_ne ne]; exact f1
        have fcc : (L2.upd F4 b4 (.lst cvs)) c = none := by rw [upd_ne cb]; exact fc
        refine ⟨hlt, L2.upd F4 b4 (.lst cvs), gs ++ [cur], [], s14.trans sF, ⟨(s5.side h0c fcc).side z1 fa, a4, c, gvs ++ [.ref b4], [], e1, upd_same, ?_, fun q => ca q.symm, fa, fcc, z1, h0c, ?_, .nil⟩, l4.trans l2, ?_, by simp; omega, by simp⟩
        · rw [upd_ne ca, upd_same]
        · rw [List.map_append]
          exact (d1.mono sF).append (.cons (.lst (.inl upd_same) (d2.mono sF)) .nil)
        · rw [tk, List.foldl_append, fo]
          show grpStep (gs, cur) ss[j] = _
          unfold grpStep
          rw [if_pos ess]
      | false =>
        have ess : ss[j] ≠ [] := fun e => by rw [e] at hb2; simp at hb2
        refine ⟨.ref a4, e1, F4, _, rel5, ?_⟩
        show Out _ _ _ _ (R.ok (MT.D.int (-1))) _ _
        intro F5 H5 wv s5 y5
        have y5 : DV X.K F5 wv (.int (-1)) := y5
        have ew := y5.iInv
        subst ew
        have e2' := s5.h _ _ e2
        have e3' := s5.h _ _ e3
        refine ⟨a4, gvs ++ [.ref b4], -1, .ref b4, rfl, rfl, SqL.of e2', atI_last _ _, .inl ⟨rfl, _, SqL.of e3'⟩, rw2, erw, ?_⟩
        refine ⟨b4, cvs, rw2, rfl, rfl, e3', by rw [lcv]; show cur.length < 16777216; omega, ?_⟩
        have f1' := (s5.n a4 _ e2).trans f1
        have f2' := (s5.n b4 _ e3).trans f2
        refine ⟨hlt, F5, gs, cur ++ [ss[j]], s14.trans s5.f, ⟨(st4.trans s5).side z2 f2', a4, b4, gvs, cvs ++ [rw2], e1, ?_, upd_same, ne, f1', f2', z1, z2, d1.mono s5.f, ?_⟩, l4.trans l2, ?_, by omega, by simp; omega⟩
        · rw [upd_ne ne]; exact e2'
        · rw [List.map_append]
          exact (d2.mono s5.f).append (.cons ((yrw.mono s4.f).mono s5.f) .nil)
        · rw [tk, List.foldl_append, fo]
          show grpStep (gs, cur) ss[j] = _
          unfold grpStep
          rw [if_neg ess]
    · have ei : j = xs.length := by omega
      subst ei
      refine .inl ⟨wk.stop F2 H2 gr2.st.s src2, ?_⟩
      obtain ⟨st4, a4, b4, gvs, cvs, e1, e2, e3, ne, f1, f2, z1, z2, d1, d2⟩ := gr2
      have sF : Same F2 (L2.upd F2 b4 (.lst cvs)) := same_new f2 _
      have s5 : Step F0 H0 (L2.upd F2 b4 (.lst cvs)) H2 := st4.freeze z2 f2 e3
      have fa : (L2.upd F2 b4 (.lst cvs)) a4 = none := by rw [upd_ne ne]; exact f1
      have eg : grpL ss = gs ++ [cur] := by
        unfold grpL
        rw [lxs, List.take_length] at fo
        rw [fo]; rfl
      refine ⟨.ref a4, e1, o _ _ _ (s5.freeze z1 fa e2) ?_⟩
      rw [eg, List.map_append]
      refine dv_lst_new fa ((d1.mono sF).append (.cons (.lst (.inl upd_same) (d2.mono sF)) .nil))
  · cases hc
end
end MT
namespace MT
open PySem L2
section
variable {cl : CL} {k : Nat} {xv : Nat → Value} {C : SC} {Wn : WN} {X : Cx}
mutual
theorem sS : ∀ (s : S) (C : SC) (Wn : WN) (X : Cx), Good C cl Wn k xv X → C.blk = false → ∀ x, chkS C s x = true → PS X x (tS X.K cl Wn s)
  | .asg i fr e, C, Wn, X, g, hb, x, hc => s_asg g hb hc
  | .tgt t e, C, Wn, X, g, hb, x, hc => s_tgt g hc
  | .par is es, C, Wn, X, g, hb, x, hc => s_par g hc
  | .app i e, C, Wn, X, g, hb, x, hc => s_app g hc
  | .ext i e, C, Wn, X, g, hb, x, hc => s_ext g hc
  | .sti i a e, C, Wn, X, g, hb, x, hc => s_sti g hc
  | .ret e, C, Wn, X, g, hb, x, hc => s_ret g hc
  | .iff c a b, C, Wn, X, g, hb, x, hc => s_iff (sSs a) (sSs b) g hb hc
  | .for t ik es body, C, Wn, X, g, hb, x, hc => s_for (sSs body) g hb hc
  | .whl c body, C, Wn, X, g, hb, x, hc => s_whl (sSs body) g hb hc
  | .raise c, C, Wn, X, g, hb, x, hc => s_raise g hb hc
  | .exp e, C, Wn, X, g, hb, x, hc => s_exp g hc
  | .frz i, C, Wn, X, g, hb, x, hc => by cases hc
  | .tryN body, C, Wn, X, g, hb, x, hc => s_tryN (sSs body) g hb hc
  | .tryX body i m su, C, Wn, X, g, hb, x, hc => s_tryX (sSs body) g hb hc
  | .never, C, Wn, X, g, hb, x, hc => ps_never.imp fun D σ H ⟨F0, H0, F, ρ, r, o⟩ => (show False from o)
  | .cont, C, Wn, X, g, hb, x, hc => by
    cases x <;> first
      | (cases hc; done)
      | exact ps_continue.imp fun D σ H ⟨F0, H0, F, ρ, r, o⟩ => o _ _ _ (Same.refl _) r
  | .grp i r v, C, Wn, X, g, hb, x, hc => by cases hc
  | .rpl i cts, C, Wn, X, g, hb, x, hc => by cases hc
  | .dnew i, C, Wn, X, g, hb, x, hc => s_dnew g hb hc
  | .dput i es e, C, Wn, X, g, hb, x, hc => s_dput g hc
  | .retd i, C, Wn, X, g, hb, x, hc => s_retd g hc
  | .apop i w z, C, Wn, X, g, hb, x, hc => s_apop g hc
  | .pass, C, Wn, X, g, hb, x, hc => by
    cases x <;> first
      | (cases hc; done)
      | exact ps_pass.imp fun D σ H ⟨F0, H0, F, ρ, r, o⟩ => o _ _ _ (Same.refl _) r
theorem sSs : ∀ ss : List S, IHB cl k xv ss
  | [] => by
    intro C Wn X g hb xs hc
    cases xs with
    | nil => exact pss_nil.imp fun D σ H ⟨F0, H0, F, ρ, r, o⟩ => o _ _ _ (Same.refl _) r
    | cons _ _ => cases hc
  | .frz i :: ss => by
    have ih := sSs ss
    intro C Wn X g hb xs hc
    refine (ih C Wn X g hb xs hc).imp fun D σ H ⟨F0, H0, F, ρ, r, o⟩ => ?_
    have o : OutS X.K Wn F0 H0 F ((match ρ[i]? with
      | some (.own xs) => R.ok (Fl.nx (ρ.set i (.val (.lst xs))))
      | _ => R.ok (Fl.nx ρ)).bind fun f => match f with
        | .nx ρ' => evSs cl ss ρ'
        | f => .ok f) D := o
    cases q : ρ[i]? with
    | none => rw [q] at o; exact ⟨F0, H0, F, ρ, r, o⟩
    | some v =>
      rw [q] at o
      cases v with
      | un => exact ⟨F0, H0, F, ρ, r, o⟩
      | val d => exact ⟨F0, H0, F, ρ, r, o⟩
      | own ys =>
        obtain ⟨F', sF, r'⟩ := r.frz q
        exact ⟨F0, H0, F', _, r', OutS.mono sF o⟩
      | obj tk ob => exact ⟨F0, H0, F, ρ, r, o⟩
  | .grp i r v :: ss => by
    intro C Wn X g hb xs hc
    have hc : (ss.isEmpty && grpC C i r v xs) = true := hc
    rw [Bool.and_eq_true] at hc
    have e : ss = [] := by cases ss <;> first | rfl | cases hc.1
    subst e
    exact s_grp g hb hc.2
  | .asg i fr e :: ss => s_consS (sS (.asg i fr e)) (sSs ss) fun _ _ => rfl
  | .tgt t e :: ss => s_consS (sS (.tgt t e)) (sSs ss) fun _ _ => rfl
  | .par is es :: ss => s_consS (sS (.par is es)) (sSs ss) fun _ _ => rfl
  | .app i e :: ss => s_consS (sS (.app i e)) (sSs ss) fun _ _ => rfl
  | .ext i e :: ss => s_consS (sS (.ext i e)) (sSs ss) fun _ _ => rfl
  | .sti i a e :: ss => s_consS (sS (.sti i a e)) (sSs ss) fun _ _ => rfl
  | .ret e :: ss => s_consS (sS (.ret e)) (sSs ss) fun _ _ => rfl
  | .iff c a b :: ss => s_consS (sS (.iff c a b)) (sSs ss) fun _ _ => rfl
  | .for t ik es body :: ss => s_consS (sS (.for t ik es body)) (sSs ss) fun _ _ => rfl
  | .whl c body :: ss => s_consS (sS (.whl c body)) (sSs ss) fun _ _ => rfl
  | .raise c :: ss => s_consS (sS (.raise c)) (sSs ss) fun _ _ => rfl
  | .exp e :: ss => s_consS (sS (.exp e)) (sSs ss) fun _ _ => rfl
  | .tryN body :: ss => s_consS (sS (.tryN body)) (sSs ss) fun _ _ => rfl
  | .tryX body i m su :: ss => s_consS (sS (.tryX body i m su)) (sSs ss) fun _ _ => rfl
  | .never :: ss => s_consS (sS .never) (sSs ss) fun _ _ => rfl
  | .cont :: ss => s_consS (sS .cont) (sSs ss) fun _ _ => rfl
  | .pass :: ss => s_consS (sS .pass) (sSs ss) fun _ _ => rfl
  | .rpl i cts :: ss => s_consS (sS (.rpl i cts)) (sSs ss) fun _ _ => rfl
  | .dnew i :: ss => s_consS (sS (.dnew i)) (sSs ss) fun _ _ => rfl
  | .dput i es e :: ss => s_consS (sS (.dput i es e)) (sSs ss) fun _ _ => rfl
  | .retd i :: ss => s_consS (sS (.retd i)) (sSs ss) fun _ _ => rfl
  | .apop i w z :: ss => s_consS (sS (.apop i w z)) (sSs ss) fun _ _ => rfl
end
end
end MT
namespace MT
open PySem PySem.Spec PyProof.Rows L2 CwR
section
variable {cl : CL} {k : Nat} {xv : Nat → Value} {C : SC} {Wn : WN} {X : Cx}
/-! ### return v.replace(..).replace(..) -/
def tRpl (i : Nat) (cts : List (List Nat × List Nat)) : TE := fun σ H Q => ∃ s u, σ[i]? = some (some (.str (mkS s))) ∧ rplGo cts s = some u ∧ Q (.str (mkS u)) H
theorem PET.imp {e : Expr} {t t' : TE} (h : PET X e t) (f : ∀ σ H Q, t' σ H Q → t σ H Q) : PET X e t' := fun pins s σ H Q h0 I q => h pins s σ H Q h0 I (f σ H Q q)
theorem repl_mk {s y z : List Nat} {a b : Str} (ha : a.cps.toList = y) (hb : b.cps.toList = z) (h1 : 1 ≤ a.length) : Txt.replace (mkS s) a b = mkS (StrLaws.replL y z s) := by
  refine TL.ext_tl ?_
  show (Txt.replace (mkS s) a b).cps.toList = _
  rw [StrLaws.replace_list h1, ha, hb]
  rfl
theorem pet_rpl (g : Good C cl Wn k xv X) {i : Nat} : ∀ (cts : List (List Nat × List Nat)) (x : Expr), rplC C i cts x = true → PET X x (tRpl i cts)
  | [], x, hc => by
    cases x with
    | Name y p =>
      refine PET.imp (PET.of (s_var (pos := p) g hc)) fun σ H Q ⟨s, u, e, h, q⟩ => ?_
      cases h
      exact ⟨_, e, q⟩
    | _ => cases hc
  | (y, z) :: r, x, hc => by
    unfold rplC at hc
    split at hc
    · rename_i o nm ap a j c b k' c' cp
      simp only [Bool.and_eq_true, decide_eq_true_eq, Bool.not_eq_true'] at hc
      obtain ⟨⟨⟨⟨⟨⟨⟨rfl, ha⟩, hb⟩, hab⟩, h1⟩, hl⟩, h0⟩, hr⟩ := hc
      have ih := pet_rpl g r o hr
      refine PET.imp (pet_replT (y := a) (z := b) ih hab rfl (attrBase h0 _ _ _) hl) fun σ H Q ⟨s, u, e, h, q⟩ => ?_
      have h : ((rplGo r s).bind fun x => if x.length + (x.length + 1) * z.length ≤ 16777216 then some (StrLaws.replL y z x) else none) = some u := h
      cases q2 : rplGo r s with
      | none => rw [q2] at h; cases h
      | some x =>
        rw [q2] at h
        have h : (if x.length + (x.length + 1) * z.length ≤ 16777216 then some (StrLaws.replL y z x) else none) = some u := h
        split at h
        · rename_i hz
          cases h
          refine ⟨s, x, e, q2, mkS x, rfl, ?_, ?_⟩
          · have l1 : (mkS x).length = x.length := by show x.toArray.size = _; simp
            have l2 : b.length = z.length := by rw [← hb]; show b.cps.size = _; simp
            rw [l1, l2]; exact hz
          · rw [repl_mk ha hb h1]; exact q
        · cases h
    · cases hc
end
/-- THE RULE for a def whose body gives out a token -/
theorem FunD.okT {P : Program} {w : World} {K : PySem.W.Frag} {mg : Str → Option Value} {base : Heap} {x qual : Str} {params : Arguments} {body : List Stmt} {scope : Scope} {dvs : List V} {kws : List (Str × V)} {f : Addr} {fd : FuncData} {CX : CXT} {N ps : List Str} {k : Nat} {sp : Sp} (F : FunD K x qual params body scope dvs kws f fd) (S : FnScope N ps scope) (hnc : ∀ y ∈ scope.names, y.2 ≠ .cell) (hps : 1 ≤ ps.length) (len : ∀ vs H Q E, sp vs H Q E → vs.length = ps.length)
    (hbody : ∀ (cdv : Value) (A : Around) (outer : List PySem.Env) (s : Shared) (H : Hp) (vs : List V) (Q : VK) (E : XK), Room k (A.deeper (envOfC qual scope s.heap.objs.size f cdv)) → sp vs H Q E →
      ∃ t, PSsT (cxOf CX P w K mg base N qual scope f cdv A outer s H E) body t ∧ t { nx := fun _ H' => Q .non H', rt := Q } (L2.start N vs) H) : FnOk P w K mg base CX (k + 1) f fd ps sp := by
  obtain ⟨oc, od, dV, kV, doc, pm, an, cdv, ct, osl, rfl, lk, hcd, _, _⟩ := F.ex
  exact fn_ofT lk hcd S hnc hps len fun A outer s H vs Q E hr hsp => hbody cdv A outer s H vs Q E hr hsp
end MT
namespace MT
open PySem L2 PyProof.Rows

/-! ### the defs of a law -/
structure Row where
  /-- the name it is called by, its own name -/
  bind : Str
  name : Str
  id : Nat
  st : Stmt
  N : List Str
  fn : Fn
def Row.ps (r : Row) : List Str := r.N.take r.fn.np
def fnsOf (rows : List Row) : List (Str × Nat) := rows.map fun r => (r.bind, r.id)
def tabOf (rows : List Row) : Tab := fun i => (rows.find? fun r => r.id == i).map fun r => .ir r.fn
def scOf (rows : List Row) (gcs : List (Str × D)) (free : List Str) (xi : XInfo) (r : Row) : SC := ⟨r.N, defScope r.st, fnsOf rows, gcs, free, false, xi⟩
def chkBody (C : SC) (ss : List S) : List Stmt → Bool
  | .Expr (.Constant (.str _) _ _) _ :: xs => chkSs C ss xs
  | xs => chkSs C ss xs
def scC (N ps : List Str) (sc : Scope) : Bool :=
  (sc.kind == .function) && !sc.isCoroutine && !sc.isGenerator && decide N.Nodup && decide (N.take ps.length = ps) && ps.all (fun x => lcl sc x) && sc.names.all fun y => !(y.2 == .free)
def rowC (rows : List Row) (gcs : List (Str × D)) (free : List Str) (xi : XInfo) (r : Row) : Bool :=
  (chkBody (scOf rows gcs free xi r) r.fn.body (defBody r.st) || (rplB (scOf rows gcs free xi r) r.fn.body (defBody r.st) && ((defScope r.st).names.all fun y => !(y.2 == .cell)) && decide (1 ≤ r.ps.length))) && scC r.N r.ps (defScope r.st) && decide (r.N.length = r.fn.ns) && decide (r.fn.np ≤ r.fn.ns)
theorem scC_ok {N ps : List Str} {sc : Scope} (h : scC N ps sc = true) : FnScope N ps sc := by
  unfold scC at h
  simp only [Bool.and_eq_true, Bool.not_eq_true', decide_eq_true_eq, List.all_eq_true] at h
  obtain ⟨⟨⟨⟨⟨⟨h1, h2⟩, h3⟩, h4⟩, h5⟩, h6⟩, h7⟩ := h
  exact ⟨eq_of_beq h1, h2, h3, h4, h5, fun x hx => lcl_ok (h6 x hx), fun y hy e => by
    have := h7 y hy
    rw [e] at this
    cases this⟩
theorem tab_at {rows : List Row} (hn : (rows.map (·.id)).Nodup) {r : Row} (hr : r ∈ rows) : tabOf rows r.id = some (.ir r.fn) := by
  unfold tabOf
  have : rows.find? (fun q => q.id == r.id) = some r := by
    induction rows with
    | nil => cases hr
    | cons q rows ih =>
      rw [List.map_cons, List.nodup_cons] at hn
      rcases List.mem_cons.mp hr with rfl | hr'
      · rw [List.find?_cons_of_pos]
        simp
      · rw [List.find?_cons_of_neg]
        · exact ih hn.2 hr'
        · simp only [beq_iff_eq]
          intro e
          exact hn.1 (e ▸ List.mem_map.mpr ⟨r, hr', rfl⟩)
  rw [this]
  rfl
theorem fns_mem : ∀ {rows : List Row} {n : Str} {f : Nat}, (fnsOf rows).lookup n = some f → ∃ r ∈ rows, r.bind = n ∧ r.id = f
  | [], _, _, h => by cases h
  | q :: rows, n, f, h => by
    have h : List.lookup n ((q.bind, q.id) :: fnsOf rows) = some f := h
    rw [List.lookup_cons] at h
    by_cases e : (n == q.bind) = true
    · rw [e] at h
      exact ⟨q, List.mem_cons_self, (eq_of_beq e).symm, Option.some.inj h⟩
    · rw [Bool.not_eq_true] at e
      rw [e] at h
      obtain ⟨r, hr, h1, h2⟩ := fns_mem (rows := rows) h
      exact ⟨r, List.mem_cons_of_mem _ hr, h1, h2⟩
theorem call_len {rows : List Row} (hn : (rows.map (·.id)).Nodup) {r : Row} (hr : r ∈ rows) {n : Nat} {ds : List D} (h : callN (tabOf rows) n r.id ds ≠ .no) : ds.length = r.fn.np := by
  cases n with
  | zero => exact absurd rfl h
  | succ n =>
    have e : callN (tabOf rows) (n + 1) r.id ds = evF (callN (tabOf rows) n) r.fn ds := by
      show (match tabOf rows r.id with
        | some (.ir fn) => evF (callN (tabOf rows) n) fn ds
        | some (.xt g) => g ds
        | none => .no) = _
      rw [tab_at hn hr]
    rw [e] at h
    unfold evF at h
    by_cases c : ds.length = r.fn.np
    · exact c
    · rw [if_neg c] at h
      exact absurd rfl h
theorem start_rel {K : PySem.W.Frag} {F H : Hp} {vs : List V} {ds : List D} {N : List Str} {np : Nat} (s : Same F H) (h : DVs K F vs ds) (hl : ds.length = np) (hN : np ≤ N.length) : Rel K F (MT.start np N.length ds) (L2.start N vs) H := by
  have hv := h.length
  have key : ∀ i : Nat, (MT.start np N.length ds)[i]? = (if h : i < ds.length then some (.val ds[i]) else if i < N.length then some .un else none) := fun i => by
    unfold MT.start
    by_cases c : i < ds.length
    · rw [List.getElem?_append_left (by simpa using c), dif_pos c]
      simp [c]
    · rw [List.getElem?_append_right (by simpa using c), dif_neg c]
      by_cases c2 : i < N.length
      · rw [if_pos c2, List.getElem?_replicate, if_pos (by simp; omega)]
      · rw [if_neg c2, List.getElem?_replicate, if_neg (by simp; omega)]
  refine ⟨?_, s, fun i d e => ?_, fun i xs e => ?_, fun i j xs ys a e => ?_, fun i tk o e => ?_, fun i j tk tk' o o' e => ?_⟩
  · unfold MT.start L2.start
    simp [hv, hl]
  · rw [key] at e
    by_cases c : i < ds.length
    · rw [dif_pos c] at e
      cases e
      obtain ⟨v, e1, e2⟩ := h.get (List.getElem?_eq_getElem c)
      refine ⟨v, ?_, e2⟩
      unfold L2.start
      rw [List.getElem?_append_left (by rw [List.length_map, hv]; exact c), List.getElem?_map, e1]
      rfl
    · rw [dif_neg c] at e
      split at e <;> cases e
  · rw [key] at e
    by_cases c : i < ds.length
    · rw [dif_pos c] at e; cases e
    · rw [dif_neg c] at e
      split at e <;> cases e
  · rw [key] at e
    by_cases c : i < ds.length
    · rw [dif_pos c] at e; cases e
    · rw [dif_neg c] at e
      split at e <;> cases e
  · rw [key] at e
    by_cases c : i < ds.length
    · rw [dif_pos c] at e; cases e
    · rw [dif_neg c] at e
      split at e <;> cases e
  · rw [key] at e
    by_cases c : i < ds.length
    · rw [dif_pos c] at e; cases e
    · rw [dif_neg c] at e
      split at e <;> cases e
theorem start_own {np ns : Nat} {ds : List D} {i : Nat} {xs : List D} : (MT.start np ns ds)[i]? ≠ some (.own xs) := by
  intro e
  unfold MT.start at e
  by_cases c : i < (ds.map SV.val).length
  · rw [List.getElem?_append_left c, List.getElem?_map] at e
    cases q : ds[i]? with
    | none => rw [q] at e; cases e
    | some d => rw [q] at e; cases e
  · rw [List.getElem?_append_right (by omega), List.getElem?_replicate] at e
    split at e <;> cases e
theorem start_obj {np ns : Nat} {ds : List D} {i : Nat} {tk : Option Nat} {o : Ob} : (MT.start np ns ds)[i]? ≠ some (.obj tk o) := by
  intro e
  unfold MT.start at e
  by_cases c : i < (ds.map SV.val).length
  · rw [List.getElem?_append_left c, List.getElem?_map] at e
    cases q : ds[i]? with
    | none => rw [q] at e; cases e
    | some d => rw [q] at e; cases e
  · rw [List.getElem?_append_right (by omega), List.getElem?_replicate] at e
    split at e <;> cases e
theorem body_ok {C : SC} {cl : CL} {Wn : WN} {k : Nat} {xv : Nat → Value} {X : Cx} (g : Good C cl Wn k xv X) (hb : C.blk = false) {ss : List S} {xs : List Stmt} (hc : chkBody C ss xs = true) : PSs X xs (tSs X.K cl Wn ss) := by
  unfold chkBody at hc
  split at hc
  · exact (pss_cons ps_doc (sSs ss C Wn X g hb _ hc)).imp fun D σ H h => h
  · exact sSs ss C Wn X g hb _ hc

def rplK (cts : List (List Nat × List Nat)) : D → R Fl
  | .str s => (match rplGo cts s with
    | some u => .ok (.rt (.str u))
    | none => .no)
  | _ => .no
theorem rplK_s (cts : List (List Nat × List Nat)) (s : List Nat) : rplK cts (.str s) = match rplGo cts s with
    | some u => .ok (.rt (.str u))
    | none => .no := rfl
theorem bnd1 {α β : Type} (a : α) (f : α → R β) : R.bind (.ok a) f = f a := rfl
theorem evSs_rpl {cl : CL} {ρ : MT.Env} {i : Nat} {cts : List (List Nat × List Nat)} : evSs cl [.rpl i cts] ρ = (rd ρ i).bind (rplK cts) := by
  have e : evS cl (.rpl i cts) ρ = (rd ρ i).bind (rplK cts) := by
    have h : ∀ r : R D, (r.bind fun d => match d with
      | .str s => (ofO (rplGo cts s)).bind fun u => R.ok (Fl.rt (D.str u))
      | _ => R.no) = r.bind (rplK cts) := fun r => by
      cases r with
      | ok d =>
        cases d <;> first
          | rfl
          | skip
        rename_i s
        show (ofO (rplGo cts s)).bind (fun u => R.ok (Fl.rt (D.str u))) = _
        rw [bnd1, rplK_s]
        cases rplGo cts s <;> rfl
      | ex c => rfl
      | no => rfl
    exact h _
  show (evS cl (.rpl i cts) ρ).bind _ = _
  rw [e]
  cases rd ρ i with
  | ok d =>
    cases d <;> first
      | rfl
      | skip
    rename_i s
    rw [bnd1, rplK_s]
    cases rplGo cts s <;> rfl
  | ex c => rfl
  | no => rfl
theorem rd_noex {ρ : MT.Env} {i : Nat} (c : Nat) : rd ρ i ≠ .ex c := by
  unfold rd
  split <;> exact fun e => nomatch e
theorem rd_val {K : PySem.W.Frag} {F H : Hp} {ρ : MT.Env} {σ : L2.St} {i : Nat} {d : D} (r : Rel K F ρ σ H) (h : rd ρ i = .ok d) : ∃ v, σ[i]? = some (some v) ∧ DV K F v d := by
  unfold rd at h
  split at h
  · rename_i d' q
    cases h
    exact r.val i d q
  · cases h
section
variable {P : Program} {w : World} {K : PySem.W.Frag} {mg : Str → Option Value} {base : Heap}
/-- what the head tells of a row -/
structure RowAt (K : PySem.W.Frag) (mg : Str → Option Value) (r : Row) (a : Addr) (fd : FuncData) : Prop where
  fun_ : FunD K r.name r.name (defArgs r.st) (defBody r.st) (defScope r.st) [] [] a fd
  glo : mg r.bind = some (.ref a)
  binds : Binds K fd r.ps []
/-- every def keeps its promise, as deep as there is room -/
theorem rows_ok {rows : List Row} {gcs : List (Str × D)} {free : List Str} {xi : XInfo} (xv : Nat → Value) (hxf : XFacts xi K mg xv) (htd : TFacts xi K w mg) (hn : (rows.map (·.id)).Nodup) (hc : ∀ r ∈ rows, rowC rows gcs free xi r = true) (hr : ∀ r ∈ rows, ∃ a fd, RowAt K mg r a fd)
    (hf : ∀ x ∈ free, mg x = none) (hg : ∀ n s, gcs.lookup n = some (.str s) → ∃ t, mg n = some (.str (mkS s) t)) :
    ∀ (n : Nat) (r : Row), r ∈ rows → ∀ a fd, RowAt K mg r a fd → FnOk P w K mg base (CX P w) n a fd r.ps (spF K (callN (tabOf rows) n) xv r.ps.length r.id)
  | 0, r, hm, a, fd, at_ => ⟨fun vs H Q E ⟨hl, _⟩ => hl, fun A outer s H args us vs Q E _ _ _ _ ⟨_, F, ds, _, _, h⟩ => (show False from h).elim⟩
  | n + 1, r, hm, a, fd, at_ => by
    have c := hc r hm
    unfold rowC at c
    simp only [Bool.and_eq_true, decide_eq_true_eq] at c
    obtain ⟨⟨⟨c1, c2⟩, c3⟩, c4⟩ := c
    have S := scC_ok c2
    have pl : r.ps.length = r.fn.np := by
      unfold Row.ps
      rw [List.length_take]
      omega
    have good : ∀ (cdv : Value) (A : Around) (outer : List PySem.Env) (s : Shared) (H : Hp) (E : XK), Room n (A.deeper (envOfC r.name (defScope r.st) s.heap.objs.size a cdv)) → Good (scOf rows gcs free xi r) (callN (tabOf rows) n) (fun c σ H => E (xv c) none H) n xv (cxOf (CX P w) P w K mg base r.N r.name (defScope r.st) a cdv A outer s H E) := fun cdv A outer s H E hroom => {
      calm := rfl
      N := rfl
      nd := S.nd
      sc := rfl
      fl := fun _ _ => rfl
      room := hroom
      fns := fun m f e => by
        obtain ⟨q, hq, rfl, rfl⟩ := fns_mem e
        obtain ⟨a', fd', at'⟩ := hr q hq
        have c' := hc q hq
        unfold rowC at c'
        simp only [Bool.and_eq_true, decide_eq_true_eq] at c'
        have pl' : q.ps.length = q.fn.np := by
          unfold Row.ps
          rw [List.length_take]
          omega
        refine ⟨a', fd', q.ps, at'.glo, at'.fun_.kp, at'.binds, rows_ok xv hxf htd hn hc hr hf hg n q hq a' fd' at', fun ds d e => ?_, fun ds c e => ?_⟩
        · rw [pl']; exact call_len hn hq (n := n) (by rw [e]; simp)
        · rw [pl']; exact call_len hn hq (n := n) (by rw [e]; simp)
      free := fun x hx => hf x (List.contains_iff_mem.mp hx)
      gcs := hg
      takes := fun _ u s' hx => by
        obtain ⟨a1, B, sI, pins, σ, H1, cls, d, x1, x2, x3, x4, x5, x6, x7, x8, c, y1, y2, y3⟩ := hx
        subst y1 y2
        exact takes_of (E := E) rfl rfl rfl rfl u s' ⟨a1, B, sI, pins, σ, H1, _, none, x1, x2, x3, x4, x5, x6, x7, x8, y3⟩
      pa := fun σ0 => passAt (fun u s' hx => by
        obtain ⟨a1, B, sI, pins, σ, H1, cls, d, x1, x2, x3, x4, x5, x6, x7, x8, c, y1, y2, y3⟩ := hx
        subst y1 y2
        exact takes_of (E := E) rfl rfl rfl rfl u s' ⟨a1, B, sI, pins, σ, H1, _, none, x1, x2, x3, x4, x5, x6, x7, x8, y3⟩) σ0
      xf := hxf
      stk := fun _ => ⟨rfl, rfl⟩
      pass := fun _ => passes_of rfl
      td := htd }
    have callE : ∀ ds, callN (tabOf rows) (n + 1) r.id ds = evF (callN (tabOf rows) n) r.fn ds := fun ds => by
      show (match tabOf rows r.id with
        | some (.ir fn) => evF (callN (tabOf rows) n) fn ds
        | some (.xt g) => g ds
        | none => .no) = _
      rw [tab_at hn hm]
    rw [Bool.or_eq_true] at c1
    rcases c1 with c1 | c1
    · refine at_.fun_.ok S (fun vs H Q E h => h.1) fun cdv A outer s H vs Q E hroom h => ?_
      obtain ⟨hl, F, ds, sb, dv, h⟩ := h
      refine ⟨_, body_ok (good cdv A outer s H E hroom) rfl c1, F, H, F, MT.start r.fn.np r.fn.ns ds, ⟨?_, Step.refl sb, fun i xs a e => absurd e start_own, fun i tk o a e => absurd e start_obj⟩, ?_⟩
      · rw [← c3]
        have hd : ds.length = r.fn.np := by rw [← dv.length, hl, pl]
        exact start_rel sb dv hd (by omega)
      · rw [callE] at h
        unfold evF at h
        have hd : ds.length = r.fn.np := by rw [← dv.length, hl, pl]
        rw [if_pos hd] at h
        cases q : evSs (callN (tabOf rows) n) r.fn.body (MT.start r.fn.np r.fn.ns ds) with
        | no => rw [q] at h; exact h
        | ex c => rw [q] at h; exact fun F' σ H' _ s' => h F' H' s'
        | ok f =>
          rw [q] at h
          cases f with
          | nx ρ => exact fun F' σ H' s' r' => h F' .non H' r'.st .non
          | ct ρ => exact (show False from h).elim
          | rt d => exact fun F' v H' s' y => h F' v H' s' y
    · simp only [Bool.and_eq_true, decide_eq_true_eq, List.all_eq_true, Bool.not_eq_true'] at c1
      obtain ⟨⟨d1, d2⟩, d3⟩ := c1
      refine FunD.okT at_.fun_ S (fun y hy e => by have := d2 y hy; rw [e] at this; cases this) d3 (fun vs H Q E h => h.1) fun cdv A outer s H vs Q E hroom h => ?_
      obtain ⟨hl, F, ds, sb, dv, h⟩ := h
      have hd : ds.length = r.fn.np := by rw [← dv.length, hl, pl]
      rw [callE] at h
      unfold evF at h
      rw [if_pos hd] at h
      have rel := start_rel (N := r.N) sb dv hd (by omega)
      rw [c3] at rel
      unfold rplB at d1
      split at d1
      · rename_i i cts e p q1 q2
        rw [Bool.and_eq_true] at d1
        rw [q2]
        refine ⟨_, CwR.psst_one (CwR.pst_ret (pet_rpl (good cdv A outer s H E hroom) cts e d1.2)), ?_⟩
        rw [q1, evSs_rpl] at h
        cases q : rd (MT.start r.fn.np r.fn.ns ds) i with
        | no => rw [q] at h; exact (show False from h).elim
        | ex c => exact absurd q (rd_noex c)
        | ok d0 =>
          rw [q] at h
          cases d0 <;> first
            | exact (show False from h).elim
            | skip
          rename_i s0
          obtain ⟨v, e1, e2⟩ := rd_val rel q
          cases e2
          rw [bnd1, rplK_s] at h
          cases q3 : rplGo cts s0 with
          | none => rw [q3] at h; exact (show False from h).elim
          | some u =>
            rw [q3] at h
            exact ⟨s0, u, e1, q3, h F _ H (Step.refl sb) (.str u)⟩
      · cases d1
/-- no exception leaves -/
theorem FnOk.calm0 {k : Nat} {a : Addr} {fd : FuncData} {ps : List Str} {sp : Sp} (h : FnOk P w K mg base (CX P w) k a fd ps sp) : FnOk P w K mg base CX0 k a fd ps (fun vs H Q _ => sp vs H Q fun _ _ _ => False) :=
  ⟨fun vs H Q E q => h.len vs H Q _ q, fun A outer s H args us vs Q E hr he hb hv hs => codeAny_mono (h.run A outer s H args us vs Q (fun _ _ _ => False) hr he hb hv hs) fun r s' hq => by
    cases r with
    | ok f => cases f <;> exact hq
    | error e =>
      obtain ⟨_, _, _, _, _, _, _, _, _, _, _, _, z⟩ := hq
      exact z.elim⟩
end

/-! ### the head -/
def dOf (r : Row) : He.DefD := ⟨(r.bind, none), r.name, r.name, defArgs r.st, defBody r.st, defScope r.st, [], []⟩
def gFa (p : Str × D) : He.Fa := match p.2 with
  | .str s => .str p.1 (mkS s)
  | _ => .free p.1
def faOf (rows : List Row) (gcs : List (Str × D)) (free : List Str) : List He.Fa := (rows.map fun r => .glo r.bind) ++ (free.map .free ++ gcs.map gFa)
def BindsR (r : Row) : Prop := ∀ (kV doc pm : Value) (an : Option Addr) (cdv ct : Value) (us : List Value), us.length = r.ps.length → bindArgs (PySem.W.fnOf r.name r.name (defArgs r.st) (defBody r.st) (defScope r.st) .none kV doc pm an cdv ct) ⟨us, []⟩ = pure (r.ps.zip us)
theorem lookup_mem : ∀ {gcs : List (Str × D)} {n : Str} {d : D}, gcs.lookup n = some d → (n, d) ∈ gcs
  | [], _, _, h => by cases h
  | (m, e) :: gcs, n, d, h => by
    rw [List.lookup_cons] at h
    by_cases c : (n == m) = true
    · rw [c] at h
      rw [eq_of_beq c, ← Option.some.inj h]
      exact List.mem_cons_self
    · rw [Bool.not_eq_true] at c
      rw [c] at h
      exact List.mem_cons_of_mem _ (lookup_mem h)
/-! what is asked of the classes of exceptions -/
def isc (K : PySem.W.Frag) (A : Addr) : Bool := He.eqO (PySem.W.findIn K (.ref A) "__getattribute__") (some (some (.builtin "BaseException.__getattribute__"))) && (He.eqO (PySem.W.findIn K (.ref A) "__getattr__") (some none) && (decide (PySem.W.subIn K (.ref A) (.type "BaseException") = some true) && (PySem.W.hasDictIn K A &&
  (He.eqO (PySem.W.findIn K (.ref A) "__class__") (some (some (.builtin "object.__class__"))) && (He.eqO (PySem.W.specialIn K (.builtin "object.__class__") "__get__") (some (some (.builtin "getset_descriptor.__get__"))) && (decide (PySem.W.takesIn K (.builtin "object.__class__") = some true) && decide (PySem.W.mroIn K A (.type "object") = some true)))))))
theorem isc_ok {K : PySem.W.Frag} {A : Addr} (h : isc K A = true) : ExcC K A := by
  unfold isc at h
  simp only [Bool.and_eq_true, decide_eq_true_eq] at h
  obtain ⟨h1, h2, h3, h4, h5, h6, h7, h8⟩ := h
  exact ⟨He.eqO_ok h1, He.eqO_ok h2, h3, h4, He.eqO_ok h5, He.eqO_ok h6, h7, h8⟩
def askOk (K : PySem.W.Frag) (A : Addr) (p : Str × Bool) : Bool :=
  if p.1 = ("ValueError" : Str) then (He.Fa.free "ValueError").ok K && decide (PySem.W.kitOne K (.ref A) (.type "ValueError") = some p.2) else (He.Fa.glo p.1).ok K && decide (PySem.W.kitOne K (.ref A) (.ref (He.ga K p.1)) = some p.2)
def xiOk (xi : XInfo) (K : PySem.W.Frag) : Bool := !xi.on || ((He.Fa.glo xi.cls).ok K && ((He.Fa.exc xi.cls).ok K && (isc K (He.ga K xi.cls) && ((He.Fa.glo xi.ctch).ok K && ((He.Fa.exm xi.cls xi.ctch true).ok K && xi.asks.all (askOk K (He.ga K xi.cls)))))))
theorem xi_facts {K : PySem.W.Frag} {h : Heap} {mg : Str → Option Value} {xi : XInfo} (X : K.In h) (G : h.Ns mainGlobals mg) (c : xiOk xi K = true) : XFacts xi K mg (fun _ => .ref (He.ga K xi.cls)) := by
  intro on
  unfold xiOk at c
  rw [on] at c
  simp only [Bool.not_true, Bool.false_or, Bool.and_eq_true] at c
  obtain ⟨c1, c2, c3, c4, c5, c6⟩ := c
  obtain ⟨e1, e2, e3, e4⟩ := He.exc_ok c2
  refine ⟨_, rfl, He.glo_ok X G c1, e1, e2, e3, e4, isc_ok c3, ⟨_, He.glo_ok X G c4, He.exm_ok c5⟩, fun z v hz => ?_⟩
  have q := List.all_eq_true.mp c6 _ hz
  unfold askOk at q
  by_cases e : z = ("ValueError" : Str)
  · rw [if_pos e] at q
    simp only [Bool.and_eq_true, decide_eq_true_eq] at q
    subst e
    exact ⟨.type "ValueError", .ty "ValueError", q.2, fun u r => r, rfl, .inr ⟨He.free_ok X G q.1, by decide +kernel⟩⟩
  · rw [if_neg e] at q
    simp only [Bool.and_eq_true, decide_eq_true_eq] at q
    exact ⟨_, .ref (He.ga K z), q.2, fun u r => r, rfl, .inl (He.glo_ok X G q.1)⟩
/-! the tables of the top -/
def tabV (t : Str × List (List Nat × List Nat)) : List (Str × He.Dv) := t.2.map fun q => (mkS q.1, He.Dv.str (mkS q.2))
def tabsB (xi : XInfo) (K : PySem.W.Frag) : Bool := xi.tabs.all fun t => (He.Fa.glo t.1).ok K && He.valsB K (He.ga K t.1) (tabV t)
def tabsO (xi : XInfo) (K : PySem.W.Frag) : List (Option (List (Option (Str × Int)))) := xi.tabs.map fun t => He.dicW K (He.ga K t.1)
def tabsW (xi : XInfo) (w : World) : List (Option (List (Option (Str × Int)))) := xi.tabs.map fun t => some (He.keysIn w.params (t.2.map fun q => mkS q.1))
structure XOk (w : World) (xi : XInfo) (K : PySem.W.Frag) : Prop where
  x : xiOk xi K = true
  b : tabsB xi K = true
  o : tabsO xi K = tabsW xi w
theorem lookup_memT {β : Type} : ∀ {l : List (Str × β)} {n : Str} {d : β}, l.lookup n = some d → (n, d) ∈ l
  | [], _, _, h => by cases h
  | (m, e) :: l, n, d, h => by
    rw [List.lookup_cons] at h
    by_cases c : (n == m) = true
    · rw [c] at h
      rw [eq_of_beq c, ← Option.some.inj h]
      exact List.mem_cons_self
    · rw [Bool.not_eq_true] at c
      rw [c] at h
      exact List.mem_cons_of_mem _ (lookup_memT h)
theorem td_facts {K : PySem.W.Frag} {h : Heap} {mg : Str → Option Value} {w : World} {xi : XInfo} (X : K.In h) (G : h.Ns mainGlobals mg) (c : XOk w xi K) : TFacts xi K w mg := by
  intro n kvs e
  have hm := lookup_memT e
  have hb := List.all_eq_true.mp c.b _ hm
  rw [Bool.and_eq_true] at hb
  have ho : He.dicW K (He.ga K n) = some (He.keysIn w.params (kvs.map fun q => mkS q.1)) := by
    obtain ⟨i, hi, ei⟩ := List.mem_iff_getElem.mp hm
    have e2 : (tabsO xi K)[i]? = (tabsW xi w)[i]? := by rw [c.o]
    unfold tabsO tabsW at e2
    rw [List.getElem?_map, List.getElem?_map, List.getElem?_eq_getElem hi, ei] at e2
    exact Option.some.inj e2
  obtain ⟨es, m, kd⟩ := He.dicW_ok ho
  refine ⟨_, He.glo_ok X G hb.1, fun q hq => ?_⟩
  obtain ⟨u, h1, h2⟩ := He.valsB_ok hb.2 (q := (mkS q.1, He.Dv.str (mkS q.2))) (List.mem_map.mpr ⟨q, hq, rfl⟩)
  exact ⟨es, m, u, kd.at_, kd.lit, h1, h2⟩
abbrev AlX : Type := He.AlD × (Bool × (Bool × List (Option (List (Option (Str × Int))))))
def obsXG (n : Nat) (fa : List He.Fa) (fn : List He.DefD) (xi : XInfo) (g : Addr → Option Obj) : AlX := (He.obsD fa fn (He.frG g (He.asD g n)), (xiOk xi (He.frG g (He.asD g n)), (tabsB xi (He.frG g (He.asD g n)), tabsO xi (He.frG g (He.asD g n)))))
def hookX (n : Nat) (fa : List He.Fa) (fn : List He.DefD) (xi : XInfo) : PySem.W.Hook where
  α := AlX
  obs := fun s => obsXG n fa fn xi s.heap.get?
  val := fun w => (He.valD fn, (true, (true, tabsW xi w)))
  says := fun w h => ∃ K : PySem.W.Frag, K.In h ∧ He.SaysD fa fn K ∧ XOk w xi K
  of := fun _ _ e => ⟨_, He.frG_in, congrArg (fun z : AlX => z.1) e, congrArg (fun z : AlX => z.2.1) e, congrArg (fun z : AlX => z.2.2.1) e, congrArg (fun z : AlX => z.2.2.2) e⟩
  keeps := fun _ _ _ ⟨K, hK, c⟩ k => ⟨K, PySem.W.Frag.In.keeps hK k, c⟩
theorem obsXG_eq {n : Nat} {fa : List He.Fa} {fn : List He.DefD} {xi : XInfo} {g : Addr → Option Obj} {s : Shared} (h : ∀ a, g a = s.heap.get? a) : obsXG n fa fn xi g = (hookX n fa fn xi).obs s := by
  have e : g = s.heap.get? := funext h
  rw [e] <;> rfl
theorem law_facts {P : Program} {w : World} {K : PySem.W.Frag} {h : Heap} {mg : Str → Option Value} {f : Addr} {rows : List Row} {gcs : List (Str × D)} {free : List Str} {xi : XInfo} (X : K.In h) (G : h.Ns mainGlobals mg)
    (c : He.SaysD (faOf rows gcs free) (rows.map dOf) K) (cx : XOk w xi K) (hn : (rows.map (·.id)).Nodup) (hc : ∀ r ∈ rows, rowC rows gcs free xi r = true) (hb : ∀ r ∈ rows, BindsR r) {r : Row} (hr : r ∈ rows) {x : Str} (hx : r.ps = [x]) (hf : mg r.bind = some (.ref f)) (n : Nat) :
    ∃ fd : FuncData, (∀ (s : Shared) (v : Value), BindsTo s fd ⟨[v], []⟩ [(x, v)]) ∧ ∀ base : Heap, K.In base → base.Ns mainGlobals mg → FnOk P w K mg base CX0 n f fd [x] (fun vs H Q _ => spF K (callN (tabOf rows) n) (fun _ => .ref (He.ga K xi.cls)) 1 r.id vs H Q fun _ _ _ => False) := by
  have facts : ∀ q ∈ faOf rows gcs free, q.ok K = true := fun q hq => by
    obtain ⟨i, hi, e⟩ := List.mem_iff_getElem.mp hq
    exact c.fact i (f := q) (by rw [List.getElem?_eq_getElem hi, e])
  have at_ : ∀ q ∈ rows, ∃ fd, RowAt K mg q (He.ga K q.bind) fd := fun q hq => by
    have hq' : dOf q ∈ rows.map dOf := List.mem_map.mpr ⟨q, hq, rfl⟩
    obtain ⟨i, hi, e⟩ := List.mem_iff_getElem.mp hq'
    obtain ⟨fd, F⟩ := c.def_ i (d := dOf q) (by rw [List.getElem?_eq_getElem hi, e])
    exact ⟨fd, F, He.glo_ok X G (facts _ (List.mem_append_left _ (List.mem_map.mpr ⟨q, hq, rfl⟩))), FunD.bindsN (ps := q.ps) F (hb q hq)⟩
  obtain ⟨fd, A⟩ := at_ r hr
  have e : f = He.ga K r.bind := by
    have := hf.symm.trans A.glo
    cases this
    rfl
  subst e
  have b := FunD.bindsA (ps := r.ps) A.fun_ (hb r hr)
  refine ⟨fd, fun s v => ?_, fun base _ _ => ?_⟩
  · have := b s [v] (by rw [hx]; rfl)
    rw [hx] at this
    exact this
  · have := rows_ok (P := P) (w := w) (base := base) (fun _ => .ref (He.ga K xi.cls)) (xi_facts X G cx.x) (td_facts X G cx) hn hc (fun q hq => let ⟨fd, A⟩ := at_ q hq; ⟨_, fd, A⟩)
      (fun y hy => He.free_ok X G (facts _ (List.mem_append_right _ (List.mem_append_left _ (List.mem_map.mpr ⟨y, hy, rfl⟩)))))
      (fun m s e => He.str_ok X G (facts (gFa (m, .str s)) (List.mem_append_right _ (List.mem_append_right _ (List.mem_map.mpr ⟨_, lookup_mem e, rfl⟩))))) n r hr _ fd A
    have := FnOk.calm0 this
    rw [hx] at this
    exact this
/-- the promise at the law's call -/
theorem law_sp {K : PySem.W.Frag} {T : Tab} {n id : Nat} {xv : Nat → Value} {H : Hp} {a : Addr} {ns : List Int} (hS : SqL K H a (ns.map V.int)) (h : callN T n id [.scr ns] = .ok (.bl true)) :
    spF K (callN T n) xv 1 id [.ref a] H (fun v _ => v = .bl true) fun _ _ _ => False := by
  refine ⟨rfl, H, [.scr ns], Same.refl _, .cons (.scr hS) .nil, ?_⟩
  rw [h]
  intro F' v H' _ y
  exact y.bInv
end MT
namespace MT
open L2
/-! ### the evaluator, by rules -/
section
variable {cl : CL} {ρ : Env}
@[simp] theorem bnd_ok {α β : Type} (a : α) (f : α → R β) : R.bind (.ok a) f = f a := rfl
@[simp] theorem bnd_no {α β : Type} (f : α → R β) : R.bind (.no : R α) f = .no := rfl
@[simp] theorem bnd_ex {α β : Type} (c : Nat) (f : α → R β) : R.bind (.ex c : R α) f = .ex c := rfl
@[simp] theorem guardR_t {α : Type} (r : R α) : guardR true r = r := rfl
@[simp] theorem evE_c (d : D) : evE cl (.c d) ρ = .ok d := rfl
@[simp] theorem evE_v (i : Nat) : evE cl (.v i) ρ = rd ρ i := rfl
@[simp] theorem evE_bin (o : BO) (a b : E) : evE cl (.bin o a b) ρ = (bor ρ a (evE cl a ρ)).bind fun x => (bor ρ b (evE cl b ρ)).bind fun y => binD o x y := rfl
@[simp] theorem evE_cmp (o : CO) (a b : E) : evE cl (.cmp o a b) ρ = (bor ρ a (evE cl a ρ)).bind fun x => (bor ρ b (evE cl b ρ)).bind fun y => cmpD o x y := rfl
@[simp] theorem evE_chain (o o' : CO) (a b c : E) : evE cl (.chain o o' a b c) ρ = (evE cl a ρ).bind fun x => (evE cl b ρ).bind fun y => (cmpD o x y).bind (andK ((evE cl c ρ).bind fun z => cmpD o' y z)) := rfl
@[simp] theorem evE_and (a b : E) : evE cl (.and a b) ρ = (evE cl a ρ).bind (andK (evE cl b ρ)) := rfl
@[simp] theorem evE_or (a b : E) : evE cl (.or a b) ρ = (evE cl a ρ).bind (orK (evE cl b ρ)) := rfl
@[simp] theorem evE_not (a : E) : evE cl (.not a) ρ = (bor ρ a (evE cl a ρ)).bind fun x => (truth x).bind fun b => .ok (.bl !b) := rfl
@[simp] theorem evE_neg (a : E) : evE cl (.neg a) ρ = (evE cl a ρ).bind fun x => (intD x).bind fun i => .ok (.int (-i)) := rfl
@[simp] theorem evE_ife (t a b : E) : evE cl (.ife t a b) ρ = (evT cl t ρ).bind fun c => if c = true then evE cl a ρ else evE cl b ρ := rfl
@[simp] theorem evE_tup (es : List E) : evE cl (.tup es) ρ = (evEs cl es ρ).bind fun ds => .ok (.tup ds) := rfl
@[simp] theorem evE_lst (es : List E) : evE cl (.lst es) ρ = (evEs cl es ρ).bind fun ds => .ok (.lst ds) := rfl
@[simp] theorem evE_idx (a i : E) : evE cl (.idx a i) ρ = (bor ρ a (evE cl a ρ)).bind fun x => (evE cl i ρ).bind fun y => idxD x y := rfl
@[simp] theorem evE_slLo (a l : E) : evE cl (.slLo a l) ρ = (bor ρ a (evE cl a ρ)).bind fun x => (evE cl l ρ).bind fun y => (intD y).bind fun i => slD x (some i) none := rfl
@[simp] theorem evE_slHi (a h : E) : evE cl (.slHi a h) ρ = (bor ρ a (evE cl a ρ)).bind fun x => (evE cl h ρ).bind fun y => (intD y).bind fun i => slD x none (some i) := rfl
@[simp] theorem evE_slLH (a l h : E) : evE cl (.slLH a l h) ρ = (bor ρ a (evE cl a ρ)).bind fun x => (evE cl l ρ).bind fun y => (intD y).bind fun i => (evE cl h ρ).bind fun z => (intD z).bind fun j => slD x (some i) (some j) := rfl
@[simp] theorem evE_call (f : Nat) (es : List E) : evE cl (.call f es) ρ = (evEs cl es ρ).bind fun ds => cl f ds := rfl
@[simp] theorem evE_pr (p : Pr) (es : List E) : evE cl (.pr p es) ρ = (evBs cl es ρ).bind fun ds => prD p ds := rfl
@[simp] theorem evE_me (p : Pr) (o : E) (es : List E) : evE cl (.me p o es) ρ = (bor ρ o (evE cl o ρ)).bind fun x => strK ((evBs cl es ρ).bind fun ds => prD p (x :: ds)) x := rfl
@[simp] theorem evE_lc (t : Tg) (k : IK) (es cond : List E) (el : E) : evE cl (.lc t k es cond el) ρ = (evEs cl es ρ).bind fun ds => (itD k ds).bind fun xs => (noEx (lcGo t (evC cl cond) (evE cl el) (wipeE ρ t.slots) xs)).bind fun ys => guardR (sz ys.length) (.ok (.lst ys)) := rfl
@[simp] theorem evEs_nil : evEs cl [] ρ = .ok [] := rfl
@[simp] theorem evEs_cons (e : E) (es : List E) : evEs cl (e :: es) ρ = (evE cl e ρ).bind fun d => (evEs cl es ρ).bind fun ds => .ok (d :: ds) := rfl
@[simp] theorem evBs_nil : evBs cl [] ρ = .ok [] := rfl
@[simp] theorem evBs_cons (e : E) (es : List E) : evBs cl (e :: es) ρ = (bor ρ e (evE cl e ρ)).bind fun d => (evBs cl es ρ).bind fun ds => .ok (d :: ds) := rfl
@[simp] theorem evC_nil : evC cl [] = fun _ => .ok true := rfl
theorem evC_one (e : E) : evC cl [e] ρ = (evT cl e ρ).bind fun b => if b = true then .ok true else .ok false := rfl
@[simp] theorem evT_and (a b : E) : evT cl (.and a b) ρ = (evT cl a ρ).bind fun x => if x = true then evT cl b ρ else .ok false := rfl
@[simp] theorem evT_or (a b : E) : evT cl (.or a b) ρ = (evT cl a ρ).bind fun x => if x = true then .ok true else evT cl b ρ := rfl
@[simp] theorem evT_not (a : E) : evT cl (.not a) ρ = (evT cl a ρ).bind fun x => .ok !x := rfl
@[simp] theorem evT_v (i : Nat) : evT cl (.v i) ρ = (rdB ρ i).bind truth := rfl
@[simp] theorem evT_cmp (o : CO) (a b : E) : evT cl (.cmp o a b) ρ = (evE cl (.cmp o a b) ρ).bind truth := rfl
@[simp] theorem evT_chain (o o' : CO) (a b c : E) : evT cl (.chain o o' a b c) ρ = (evE cl (.chain o o' a b c) ρ).bind truth := rfl
@[simp] theorem evT_pr (p : Pr) (es : List E) : evT cl (.pr p es) ρ = (evE cl (.pr p es) ρ).bind truth := rfl
@[simp] theorem evT_me (p : Pr) (o : E) (es : List E) : evT cl (.me p o es) ρ = (evE cl (.me p o es) ρ).bind truth := rfl
@[simp] theorem evT_call (f : Nat) (es : List E) : evT cl (.call f es) ρ = (evE cl (.call f es) ρ).bind truth := rfl
@[simp] theorem evT_idx (a i : E) : evT cl (.idx a i) ρ = (evE cl (.idx a i) ρ).bind truth := rfl
@[simp] theorem bor_v (i : Nat) (r : R D) : bor ρ (.v i) r = rdB ρ i := rfl
@[simp] theorem bor_c (d : D) (r : R D) : bor ρ (.c d) r = r := rfl
@[simp] theorem bor_bin (o : BO) (a b : E) (r : R D) : bor ρ (.bin o a b) r = r := rfl
@[simp] theorem bor_cmp (o : CO) (a b : E) (r : R D) : bor ρ (.cmp o a b) r = r := rfl
@[simp] theorem bor_call (f : Nat) (es : List E) (r : R D) : bor ρ (.call f es) r = r := rfl
@[simp] theorem bor_pr (p : Pr) (es : List E) (r : R D) : bor ρ (.pr p es) r = r := rfl
@[simp] theorem bor_me (p : Pr) (o : E) (es : List E) (r : R D) : bor ρ (.me p o es) r = r := rfl
@[simp] theorem bor_tup (es : List E) (r : R D) : bor ρ (.tup es) r = r := rfl
@[simp] theorem bor_lst (es : List E) (r : R D) : bor ρ (.lst es) r = r := rfl
@[simp] theorem bor_idx (a i : E) (r : R D) : bor ρ (.idx a i) r = r := rfl
@[simp] theorem bor_slLo (a i : E) (r : R D) : bor ρ (.slLo a i) r = r := rfl
@[simp] theorem bor_slHi (a i : E) (r : R D) : bor ρ (.slHi a i) r = r := rfl
@[simp] theorem bor_slLH (a i j : E) (r : R D) : bor ρ (.slLH a i j) r = r := rfl
@[simp] theorem bor_lc (t : Tg) (k : IK) (es cond : List E) (el : E) (r : R D) : bor ρ (.lc t k es cond el) r = r := rfl
@[simp] theorem bor_not (a : E) (r : R D) : bor ρ (.not a) r = r := rfl
@[simp] theorem bor_and (a b : E) (r : R D) : bor ρ (.and a b) r = r := rfl
@[simp] theorem bor_or (a b : E) (r : R D) : bor ρ (.or a b) r = r := rfl
@[simp] theorem bor_ife (t a b : E) (r : R D) : bor ρ (.ife t a b) r = r := rfl
@[simp] theorem bor_neg (a : E) (r : R D) : bor ρ (.neg a) r = r := rfl
@[simp] theorem evSs_nil : evSs cl [] ρ = .ok (.nx ρ) := rfl
theorem evSs_cons (s : S) (ss : List S) : evSs cl (s :: ss) ρ = (evS cl s ρ).bind fun f => match f with
  | .nx ρ' => evSs cl ss ρ'
  | f => .ok f := rfl
/-- a statement that goes on -/
theorem ss_nx {s : S} {ss : List S} {ρ' : Env} {r : R Fl} (h : evS cl s ρ = .ok (.nx ρ')) (h2 : evSs cl ss ρ' = r) : evSs cl (s :: ss) ρ = r := by rw [evSs_cons, h]; exact h2
theorem ss_rt {s : S} {ss : List S} {d : D} (h : evS cl s ρ = .ok (.rt d)) : evSs cl (s :: ss) ρ = .ok (.rt d) := by rw [evSs_cons, h]; rfl
@[simp] theorem evS_asg (i : Nat) (fr : Bool) (e : E) : evS cl (.asg i fr e) ρ = (evE cl e ρ).bind fun d => (put ρ i (svOf fr d)).bind fun ρ' => .ok (.nx ρ') := rfl
@[simp] theorem evS_tgt (t : Tg) (e : E) : evS cl (.tgt t e) ρ = (evE cl e ρ).bind fun d => (bindT t d ρ).bind fun ρ' => .ok (.nx ρ') := rfl
@[simp] theorem evS_ret (e : E) : evS cl (.ret e) ρ = (bor ρ e (evE cl e ρ)).bind fun d => .ok (.rt d) := rfl
@[simp] theorem evS_iff (c : E) (a b : List S) : evS cl (.iff c a b) ρ = (evT cl c ρ).bind fun x => if x = true then evSs cl a ρ else evSs cl b ρ := rfl
@[simp] theorem evS_for (t : Tg) (k : IK) (es : List E) (body : List S) : evS cl (.for t k es body) ρ = (evEs cl es ρ).bind fun ds => (itD k ds).bind fun xs => forGo t (evSs cl body) xs ρ := rfl
@[simp] theorem evS_app (i : Nat) (e : E) : evS cl (.app i e) ρ = (getOwn ρ i).bind fun xs => (evE cl e ρ).bind fun d => guardR (decide (xs.length < 16777216)) ((put ρ i (.own (xs ++ [d]))).bind fun ρ' => .ok (.nx ρ')) := rfl
@[simp] theorem evS_ext (i : Nat) (e : E) : evS cl (.ext i e) ρ = (getOwn ρ i).bind fun xs => (evE cl e ρ).bind fun d => match d with
    | .lst ys => guardR (sz (xs.length + ys.length)) ((put ρ i (.own (xs ++ ys))).bind fun ρ' => .ok (.nx ρ'))
    | _ => .no := rfl
@[simp] theorem evS_cont : evS cl .cont ρ = .ok (.ct ρ) := rfl
@[simp] theorem evS_pass : evS cl .pass ρ = .ok (.nx ρ) := rfl
@[simp] theorem evS_par (is : List Nat) (es : List E) : evS cl (.par is es) ρ = (evEs cl es ρ).bind fun ds => (putAll ρ is ds).bind fun ρ' => .ok (.nx ρ') := rfl
@[simp] theorem svOf_f (d : D) : svOf false d = .val d := by cases d <;> rfl
@[simp] theorem svOf_t (xs : List D) : svOf true (.lst xs) = .own xs := rfl
@[simp] theorem noEx_k {α : Type} (a : α) : noEx (.ok a : R α) = .ok a := rfl
@[simp] theorem slots_nm (i : Nat) : (Tg.nm i).slots = [i] := rfl
end
/-- a call, as deep as need be -/
def At (T : Tab) (k : Nat) (f : Nat) (ds : List D) (r : R D) : Prop := ∀ n, k ≤ n → callN T n f ds = r
theorem At.mono {T : Tab} {k m f : Nat} {ds : List D} {r : R D} (h : At T k f ds r) (hk : k ≤ m) : At T m f ds r := fun n hn => h n (Nat.le_trans hk hn)
theorem At.step {T : Tab} {k f : Nat} {fn : Fn} {ds : List D} {r : R D} (hT : T f = some (.ir fn)) (h : ∀ n, k ≤ n → evF (callN T n) fn ds = r) : At T (k + 1) f ds r := fun n hn => by
  cases n with
  | zero => exact absurd hn (by omega)
  | succ n =>
    show (match T f with
      | some (.ir fn) => evF (callN T n) fn ds
      | some (.xt g) => g ds
      | none => .no) = r
    rw [hT]
    exact h n (by omega)
theorem evF_rt {cl : CL} {fn : Fn} {ds : List D} {d : D} (hl : ds.length = fn.np) (h : evSs cl fn.body (start fn.np fn.ns ds) = .ok (.rt d)) : evF cl fn ds = .ok d := by
  unfold evF
  rw [if_pos hl, h]
  rfl
theorem evF_st {cl : CL} {fn : Fn} {ds : List D} {d : D} {ρ : Env} (hl : ds.length = fn.np) (hs : start fn.np fn.ns ds = ρ) (h : evSs cl fn.body ρ = .ok (.rt d)) : evF cl fn ds = .ok d := evF_rt hl (by rw [hs]; exact h)
/-! ### operations, by rules -/
@[simp] theorem add_ii (i j : Int) : binD .add (.int i) (.int j) = .ok (.int (i + j)) := rfl
@[simp] theorem sub_ii (i j : Int) : binD .sub (.int i) (.int j) = .ok (.int (i - j)) := rfl
theorem mul_ii {i j : Int} (h : (smallI i || smallI j) = true) : binD .mul (.int i) (.int j) = .ok (.int (i * j)) := by
  show guardR (smallI i || smallI j) (R.ok (D.int (i * j))) = _
  rw [h]; rfl
theorem mod_ii {i j : Int} (h : 0 < j) : binD .mod (.int i) (.int j) = .ok (.int (i % j)) := by
  show guardR (decide (0 < j)) (R.ok (D.int (i % j))) = _
  rw [decide_eq_true h]; rfl
theorem fdiv_ii {i j : Int} (h : 0 < j ∧ j < 1073741824) : binD .fdiv (.int i) (.int j) = .ok (.int (i / j)) := by
  show guardR (decide (0 < j ∧ j < 1073741824)) (R.ok (D.int (i / j))) = _
  rw [decide_eq_true h]; rfl
theorem sz_of {n : Nat} (h : n ≤ 16777216) : sz n = true := decide_eq_true h
theorem add_ss {s t : List Nat} (h : s.length + t.length ≤ 16777216) : binD .add (.str s) (.str t) = .ok (.str (s ++ t)) := by
  show guardR (sz (s.length + t.length)) (R.ok (D.str (s ++ t))) = _
  rw [sz_of h]; rfl
theorem add_tt {s t : List D} (h : s.length + t.length ≤ 16777216) : binD .add (.tup s) (.tup t) = .ok (.tup (s ++ t)) := by
  show guardR (sz (s.length + t.length)) (R.ok (D.tup (s ++ t))) = _
  rw [sz_of h]; rfl
theorem add_ll {s t : List D} (h : s.length + t.length ≤ 16777216) : binD .add (.lst s) (.lst t) = .ok (.lst (s ++ t)) := by
  show guardR (sz (s.length + t.length)) (R.ok (D.lst (s ++ t))) = _
  rw [sz_of h]; rfl
theorem mul_si {s : List Nat} {n : Nat} (h : n < 1073741824) (h2 : s.length * n ≤ 16777216) : binD .mul (.str s) (.int n) = .ok (.str (List.replicate n s).flatten) := by
  show guardR (decide ((n : Int) < 2 ^ 30 ∧ -(2 ^ 30) < (n : Int)) && sz (s.length * (n : Int).toNat)) (R.ok (D.str (List.replicate (n : Int).toNat s).flatten)) = _
  rw [decide_eq_true (by omega), Int.toNat_natCast, sz_of h2]; rfl
@[simp] theorem eq_ii (i j : Int) : cmpD .eq (.int i) (.int j) = .ok (.bl (i == j)) := rfl
@[simp] theorem ne_ii (i j : Int) : cmpD .ne (.int i) (.int j) = .ok (.bl !(i == j)) := rfl
@[simp] theorem eq_ss (s t : List Nat) : cmpD .eq (.str s) (.str t) = .ok (.bl (s == t)) := rfl
@[simp] theorem ne_ss (s t : List Nat) : cmpD .ne (.str s) (.str t) = .ok (.bl !(s == t)) := rfl
@[simp] theorem lt_ii (i j : Int) : cmpD .lt (.int i) (.int j) = .ok (.bl (decide (i < j))) := rfl
@[simp] theorem le_ii (i j : Int) : cmpD .le (.int i) (.int j) = .ok (.bl (decide (i ≤ j))) := rfl
@[simp] theorem gt_ii (i j : Int) : cmpD .gt (.int i) (.int j) = .ok (.bl (decide (j < i))) := rfl
@[simp] theorem ge_ii (i j : Int) : cmpD .ge (.int i) (.int j) = .ok (.bl (decide (j ≤ i))) := rfl
@[simp] theorem is_non (x : D) : cmpD .is x .non = .ok (.bl (isNon x)) := by cases x <;> rfl
@[simp] theorem isnot_non (x : D) : cmpD .isnot x .non = .ok (.bl !(isNon x)) := by cases x <;> rfl
@[simp] theorem is_bb (a b : Bool) : cmpD .is (.bl a) (.bl b) = .ok (.bl (a == b)) := rfl
@[simp] theorem isnot_bb (a b : Bool) : cmpD .isnot (.bl a) (.bl b) = .ok (.bl !(a == b)) := rfl
@[simp] theorem in_sc (c : Nat) (t : List Nat) : cmpD .isin (.str [c]) (.str t) = .ok (.bl (decide (c ∈ t))) := rfl
@[simp] theorem notin_sc (c : Nat) (t : List Nat) : cmpD .notin (.str [c]) (.str t) = .ok (.bl !(decide (c ∈ t))) := rfl
@[simp] theorem truth_b (b : Bool) : truth (.bl b) = .ok b := rfl
@[simp] theorem truth_l (xs : List D) : truth (.lst xs) = .ok !xs.isEmpty := rfl
@[simp] theorem truth_t (xs : List D) : truth (.tup xs) = .ok !xs.isEmpty := rfl
@[simp] theorem andK_t (r : R D) : andK r (.bl true) = r := rfl
@[simp] theorem andK_f (r : R D) : andK r (.bl false) = .ok (.bl false) := rfl
@[simp] theorem orK_t (r : R D) : orK r (.bl true) = .ok (.bl true) := rfl
@[simp] theorem orK_f (r : R D) : orK r (.bl false) = r := rfl
@[simp] theorem strK_s (r : R D) (s : List Nat) : strK r (.str s) = r := rfl
@[simp] theorem intD_i (i : Int) : intD (.int i) = .ok i := rfl
theorem ixN_nat {n j : Nat} (h : j < n) : ixN n (j : Int) = some j := by
  unfold ixN
  rw [if_pos (by omega), if_pos (by omega), Int.toNat_natCast]
theorem idx_t {xs : List D} {j : Nat} {d : D} (h : xs[j]? = some d) : idxD (.tup xs) (.int j) = .ok d := by
  have hj : j < xs.length := (List.getElem?_eq_some_iff.mp h).1
  show (match (ixN xs.length j).bind fun j => xs[j]? with
    | some d => R.ok d
    | none => R.no) = _
  rw [ixN_nat hj, Option.bind_some, h]
theorem idx_l {xs : List D} {j : Nat} {d : D} (h : xs[j]? = some d) : idxD (.lst xs) (.int j) = .ok d := by
  have hj : j < xs.length := (List.getElem?_eq_some_iff.mp h).1
  show (match (ixN xs.length j).bind fun j => xs[j]? with
    | some d => R.ok d
    | none => R.no) = _
  rw [ixN_nat hj, Option.bind_some, h]
theorem idx_scr {xs : List Int} {j : Nat} {d : Int} (h : xs[j]? = some d) : idxD (.scr xs) (.int j) = .ok (.int d) := by
  have hj : j < xs.length := (List.getElem?_eq_some_iff.mp h).1
  show (match (ixN xs.length j).bind fun j => xs[j]? with
    | some d => R.ok (D.int d)
    | none => R.no) = _
  rw [ixN_nat hj, Option.bind_some, h]
theorem idx_s {s : List Nat} {j c : Nat} (hz : s.length ≤ 16777216) (h : s[j]? = some c) : idxD (.str s) (.int j) = .ok (.str [c]) := by
  have hj : j < s.length := (List.getElem?_eq_some_iff.mp h).1
  show guardR (sz s.length) (match (ixN s.length j).bind fun j => s[j]? with
    | some c => R.ok (D.str [c])
    | none => R.no) = _
  rw [sz_of hz, ixN_nat hj, Option.bind_some, h]
  rfl
@[simp] theorem len_t (xs : List D) : prD .len [.tup xs] = .ok (.int xs.length) := rfl
@[simp] theorem len_l (xs : List D) : prD .len [.lst xs] = .ok (.int xs.length) := rfl
@[simp] theorem len_scr (xs : List Int) : prD .len [.scr xs] = .ok (.int xs.length) := rfl
theorem len_s {s : List Nat} (h : s.length ≤ 16777216) : prD .len [.str s] = .ok (.int s.length) := by
  show guardR (sz s.length) (R.ok (D.int s.length)) = _
  rw [sz_of h]; rfl
@[simp] theorem tuple_l (xs : List D) : prD .tuple [.lst xs] = .ok (.tup xs) := rfl
@[simp] theorem int_b (b : Bool) : prD .int [.bl b] = .ok (.int (if b = true then 1 else 0)) := rfl
theorem rng1_n {n : Nat} (h : n < 1073741824) : itD .rng1 [.int n] = .ok ((List.range n).map fun (k : Nat) => .int k) := by
  show guardR (decide (-(2 ^ 30) < (n : Int) ∧ (n : Int) < 2 ^ 30)) (R.ok ((List.range (n : Int).toNat).map fun (k : Nat) => D.int k)) = _
  rw [decide_eq_true (by omega), Int.toNat_natCast]
  rfl
theorem rng1_i {i : Int} (h0 : 0 ≤ i) (h : i < 1073741824) : itD .rng1 [.int i] = .ok ((List.range i.toNat).map fun (k : Nat) => .int k) := by
  have := rng1_n (n := i.toNat) (by omega)
  rw [Int.toNat_of_nonneg h0] at this
  exact this
theorem rng2_n {a b : Nat} (h : a < 1073741824) (h2 : b < 1073741824) : itD .rng2 [.int a, .int b] = .ok ((List.range (b - a)).map fun (k : Nat) => .int (a + k)) := by
  show guardR (decide (-(2 ^ 30) < (a : Int) ∧ (a : Int) < 2 ^ 30 ∧ -(2 ^ 30) < (b : Int) ∧ (b : Int) < 2 ^ 30)) (R.ok ((List.range ((b : Int) - a).toNat).map fun (k : Nat) => D.int (a + k))) = _
  rw [decide_eq_true (by omega), show ((b : Int) - a).toNat = b - a by omega]
  rfl
theorem joinL_nil : ∀ xs : List (List Nat), TL.joinL [] xs = xs.flatten
  | [] => rfl
  | [x] => by simp [TL.joinL]
  | x :: y :: r => by
    show x ++ ([] ++ TL.joinL [] (y :: r)) = _
    rw [joinL_nil (y :: r)]
    simp
theorem flat_one : ∀ s : List Nat, (s.map fun c => [c]).flatten = s
  | [] => rfl
  | c :: s => by rw [List.map_cons, List.flatten_cons, flat_one s]; rfl
@[simp] theorem seq_t (xs : List D) : itD .seq [.tup xs] = .ok xs := rfl
@[simp] theorem seq_l (xs : List D) : itD .seq [.lst xs] = .ok xs := rfl
@[simp] theorem seq_s (s : List Nat) : itD .seq [.str s] = .ok (s.map fun c => .str [c]) := rfl
@[simp] theorem enum_t (xs : List D) : itD .enum [.tup xs] = .ok (enumL 0 xs) := rfl
@[simp] theorem enum_l (xs : List D) : itD .enum [.lst xs] = .ok (enumL 0 xs) := rfl
theorem strsD_map : ∀ xs : List (List Nat), strsD (xs.map .str) = some xs
  | [] => rfl
  | x :: xs => by
    show (strsD (xs.map .str)).map (x :: ·) = _
    rw [strsD_map xs]; rfl
theorem join_l {s : List Nat} {xs : List (List Nat)} (h : (xs.map List.length).sum + xs.length * s.length ≤ 16777216) : prD .join [.str s, .lst (xs.map .str)] = .ok (.str (TL.joinL s xs)) := by
  show (ofO (strsD (xs.map .str))).bind (fun ys => guardR (sz ((ys.map List.length).sum + ys.length * s.length)) (R.ok (D.str (TL.joinL s ys)))) = _
  rw [strsD_map]
  show guardR (sz ((xs.map List.length).sum + xs.length * s.length)) (R.ok (D.str (TL.joinL s xs))) = _
  rw [sz_of h]; rfl
@[simp] theorem bindT_nm (i : Nat) (d : D) (ρ : Env) : bindT (.nm i) d ρ = put ρ i (.val d) := rfl
@[simp] theorem bindT_tp (ts : List Tg) (ds : List D) (ρ : Env) : bindT (.tp ts) (.tup ds) ρ = bindTs ts ds ρ := rfl
@[simp] theorem bindTs_nil (ρ : Env) : bindTs [] [] ρ = .ok ρ := rfl
@[simp] theorem bindTs_cons (t : Tg) (ts : List Tg) (d : D) (ds : List D) (ρ : Env) : bindTs (t :: ts) (d :: ds) ρ = (bindT t d ρ).bind fun ρ' => bindTs ts ds ρ' := rfl
theorem put_ok {ρ : Env} {i : Nat} {v : SV} (h : i < ρ.length) : put ρ i v = .ok (ρ.set i v) := if_pos h
theorem rdB_set {ρ : Env} {i : Nat} {d : D} (h : i < ρ.length) : rdB (ρ.set i (.val d)) i = .ok d := by
  unfold rdB
  rw [List.getElem?_set_self h]
theorem rd_set {ρ : Env} {i : Nat} {d : D} (h : i < ρ.length) : rd (ρ.set i (.val d)) i = .ok d := by
  unfold rd
  rw [List.getElem?_set_self h]
theorem clip_nat (n k : Nat) : clip n (k : Int) = min k n := by
  unfold clip
  rw [if_neg (by omega), Int.toNat_natCast]
theorem cut_hi {α : Type} (xs : List α) (k : Nat) : cutL xs none (some (k : Int)) = xs.take k := by
  unfold cutL
  simp only [clip_nat, List.drop_zero, Nat.sub_zero]
  rw [List.take_eq_take_iff]
  omega
theorem cut_lo {α : Type} (xs : List α) (k : Nat) : cutL xs (some (k : Int)) none = xs.drop k := by
  unfold cutL
  simp only [clip_nat]
  rcases Nat.lt_or_ge k xs.length with h | h
  · rw [Nat.min_eq_left (by omega)]
    exact List.take_of_length_le (by simp)
  · rw [Nat.min_eq_right h, List.drop_eq_nil_of_le (Nat.le_refl _), List.drop_eq_nil_of_le h]
    simp
theorem sl_hi (xs : List D) (k : Nat) : slD (.lst xs) none (some (k : Int)) = .ok (.lst (xs.take k)) := by
  show R.ok (D.lst (cutL xs none (some (k : Int)))) = _
  rw [cut_hi]
/-! ### comprehensions, loops -/
theorem lcGo_map {t : Tg} {cond : Env → R Bool} {el : Env → R D} {ρ : Env} {g : D → D} : ∀ {xs : List D}, (∀ x ∈ xs, ∃ ρ1, bindT t x ρ = .ok ρ1 ∧ cond ρ1 = .ok true ∧ el ρ1 = .ok (g x)) → lcGo t cond el ρ xs = .ok (xs.map g)
  | [], _ => rfl
  | x :: xs, h => by
    obtain ⟨ρ1, h1, h2, h3⟩ := h x List.mem_cons_self
    have ih := lcGo_map (xs := xs) fun y hy => h y (List.mem_cons_of_mem _ hy)
    show ((bindT t x ρ).bind fun ρ' => (cond ρ').bind fun b => if b = true then (el ρ').bind fun y => (lcGo t cond el ρ xs).bind fun ys => .ok (y :: ys) else lcGo t cond el ρ xs) = _
    rw [h1, bnd_ok, h2, bnd_ok, if_pos rfl, h3, bnd_ok, ih]
    rfl
theorem lcGo_filter {t : Tg} {cond : Env → R Bool} {el : Env → R D} {ρ : Env} {g : D → D} {p : D → Bool} : ∀ {xs : List D}, (∀ x ∈ xs, ∃ ρ1, bindT t x ρ = .ok ρ1 ∧ cond ρ1 = .ok (p x) ∧ (p x = true → el ρ1 = .ok (g x))) → lcGo t cond el ρ xs = .ok ((xs.filter p).map g)
  | [], _ => rfl
  | x :: xs, h => by
    obtain ⟨ρ1, h1, h2, h3⟩ := h x List.mem_cons_self
    have ih := lcGo_filter (p := p) (xs := xs) fun y hy => h y (List.mem_cons_of_mem _ hy)
    show ((bindT t x ρ).bind fun ρ' => (cond ρ').bind fun b => if b = true then (el ρ').bind fun y => (lcGo t cond el ρ xs).bind fun ys => .ok (y :: ys) else lcGo t cond el ρ xs) = _
    rw [h1, bnd_ok, h2, bnd_ok, ih]
    cases q : p x with
    | true =>
      rw [if_pos rfl, h3 q, List.filter_cons_of_pos (by exact q)]
      rfl
    | false =>
      rw [if_neg (by decide), List.filter_cons_of_neg (by simp [q])]
theorem forGo_P {t : Tg} {body : Env → R Fl} (P : Nat → Env → Prop) : ∀ {xs : List D} {ρ : Env} (k : Nat), P k ρ → (∀ i d ρ, xs[i]? = some d → P (k + i) ρ → ∃ ρ1, bindT t d ρ = .ok ρ1 ∧ ∃ ρ2, (body ρ1 = .ok (.nx ρ2) ∨ body ρ1 = .ok (.ct ρ2)) ∧ P (k + i + 1) ρ2) → ∃ ρ', forGo t body xs ρ = .ok (.nx ρ') ∧ P (k + xs.length) ρ'
  | [], ρ, k, h0, _ => ⟨ρ, rfl, h0⟩
  | x :: xs, ρ, k, h0, hs => by
    obtain ⟨ρ1, h1, ρ2, h2, p2⟩ := hs 0 x ρ rfl h0
    obtain ⟨ρ', e, p⟩ := forGo_P P (xs := xs) (ρ := ρ2) (k + 1) p2 fun i d ρ hd hp => by
      have := hs (i + 1) d ρ (by simpa using hd) (by rw [show k + (i + 1) = k + 1 + i by omega]; exact hp)
      rw [show k + (i + 1) + 1 = k + 1 + i + 1 by omega] at this
      exact this
    refine ⟨ρ', ?_, by rw [List.length_cons, show k + (xs.length + 1) = k + 1 + xs.length by omega]; exact p⟩
    show ((bindT t x ρ).bind fun ρ1 => (body ρ1).bind fun f => match f with
      | .nx ρ2 => forGo t body xs ρ2
      | .ct ρ2 => forGo t body xs ρ2
      | .rt d => .ok (.rt d)) = _
    rw [h1, bnd_ok]
    rcases h2 with h2 | h2
    · rw [h2]; exact e
    · rw [h2]; exact e
theorem for_ss {cl : CL} {t : Tg} {k : IK} {es : List E} {body rest : List S} {ρ ρ' : Env} {ds xs : List D} {r : R Fl} (he : evEs cl es ρ = .ok ds) (hi : itD k ds = .ok xs) (hf : forGo t (evSs cl body) xs ρ = .ok (.nx ρ')) (hr : evSs cl rest ρ' = r) :
    evSs cl (.for t k es body :: rest) ρ = r := ss_nx (by rw [evS_for, he, bnd_ok, hi, bnd_ok]; exact hf) hr
@[simp] theorem evS_frz {cl : CL} {ρ : Env} (i : Nat) : evS cl (.frz i) ρ = match ρ[i]? with
    | some (.own xs) => .ok (.nx (ρ.set i (.val (.lst xs))))
    | _ => .ok (.nx ρ) := rfl
theorem lc_ev {cl : CL} {ρ ρ' : Env} {t : Tg} {k : IK} {es cond : List E} {el : E} {ds xs ys : List D} (he : evEs cl es ρ = .ok ds) (hi : itD k ds = .ok xs) (hw : wipeE ρ t.slots = ρ') (hg : lcGo t (evC cl cond) (evE cl el) ρ' xs = .ok ys) (hz : ys.length ≤ 16777216) :
    evE cl (.lc t k es cond el) ρ = .ok (.lst ys) := by
  rw [evE_lc, he, bnd_ok, hi, bnd_ok, hw, hg, noEx_k, bnd_ok, sz_of hz, guardR_t]
theorem es_1 {cl : CL} {ρ : Env} {e : E} {d : D} (h : evE cl e ρ = .ok d) : evEs cl [e] ρ = .ok [d] := by
  rw [evEs_cons, h, bnd_ok, evEs_nil, bnd_ok]
theorem es_2 {cl : CL} {ρ : Env} {e f : E} {d g : D} (h : evE cl e ρ = .ok d) (h2 : evE cl f ρ = .ok g) : evEs cl [e, f] ρ = .ok [d, g] := by
  rw [evEs_cons, h, bnd_ok, es_1 h2, bnd_ok]
def nv : E → Bool
  | .v _ => false
  | _ => true
theorem bor_nv {ρ : Env} {e : E} {r : R D} (h : nv e = true) : bor ρ e r = r := by cases e <;> first | rfl | cases h
theorem bs_1 {cl : CL} {ρ : Env} {e : E} {d : D} (hv : nv e = true) (h : evE cl e ρ = .ok d) : evBs cl [e] ρ = .ok [d] := by
  rw [evBs_cons, bor_nv hv, h, bnd_ok, evBs_nil, bnd_ok]
theorem bs_v {cl : CL} {ρ : Env} {i : Nat} {d : D} (h : rdB ρ i = .ok d) : evBs cl [.v i] ρ = .ok [d] := by
  rw [evBs_cons, bor_v, h, bnd_ok, evBs_nil, bnd_ok]
theorem bs_2 {cl : CL} {ρ : Env} {e f : E} {d g : D} (hv : nv e = true) (hw : nv f = true) (h : evE cl e ρ = .ok d) (h2 : evE cl f ρ = .ok g) : evBs cl [e, f] ρ = .ok [d, g] := by
  rw [evBs_cons, bor_nv hv, h, bnd_ok, bs_1 hw h2, bnd_ok]
theorem pr_1 {cl : CL} {ρ : Env} {p : Pr} {e : E} {d r : D} (hv : nv e = true) (h : evE cl e ρ = .ok d) (h2 : prD p [d] = .ok r) : evE cl (.pr p [e]) ρ = .ok r := by
  rw [evE_pr, bs_1 hv h, bnd_ok, h2]
theorem pr_v {cl : CL} {ρ : Env} {p : Pr} {i : Nat} {d r : D} (h : rdB ρ i = .ok d) (h2 : prD p [d] = .ok r) : evE cl (.pr p [.v i]) ρ = .ok r := by
  rw [evE_pr, bs_v h, bnd_ok, h2]
theorem pr_2 {cl : CL} {ρ : Env} {p : Pr} {e f : E} {d g r : D} (hv : nv e = true) (hw : nv f = true) (h : evE cl e ρ = .ok d) (h1 : evE cl f ρ = .ok g) (h2 : prD p [d, g] = .ok r) : evE cl (.pr p [e, f]) ρ = .ok r := by
  rw [evE_pr, bs_2 hv hw h h1, bnd_ok, h2]
theorem me_1 {cl : CL} {ρ : Env} {p : Pr} {o e : E} {s : List Nat} {d r : D} (hv : nv o = true) (hw : nv e = true) (ho : evE cl o ρ = .ok (.str s)) (h : evE cl e ρ = .ok d) (h2 : prD p [.str s, d] = .ok r) : evE cl (.me p o [e]) ρ = .ok r := by
  rw [evE_me, bor_nv hv, ho, bnd_ok, strK_s, bs_1 hw h, bnd_ok, h2]
theorem me_v {cl : CL} {ρ : Env} {p : Pr} {o : E} {i : Nat} {s : List Nat} {d r : D} (hv : nv o = true) (ho : evE cl o ρ = .ok (.str s)) (h : rdB ρ i = .ok d) (h2 : prD p [.str s, d] = .ok r) : evE cl (.me p o [.v i]) ρ = .ok r := by
  rw [evE_me, bor_nv hv, ho, bnd_ok, strK_s, bs_v h, bnd_ok, h2]
theorem asg_ss {cl : CL} {ρ : Env} {i : Nat} {e : E} {d : D} {rest : List S} {r : R Fl} (h : evE cl e ρ = .ok d) (hi : i < ρ.length) (hr : evSs cl rest (ρ.set i (.val d)) = r) : evSs cl (.asg i false e :: rest) ρ = r :=
  ss_nx (by rw [evS_asg, h, bnd_ok, svOf_f, put_ok hi, bnd_ok]) hr
theorem app_ss {cl : CL} {ρ : Env} {i : Nat} {e : E} {d : D} {xs : List D} {rest : List S} {r : R Fl} (ho : ρ[i]? = some (.own xs)) (h : evE cl e ρ = .ok d) (hl : xs.length < 16777216) (hr : evSs cl rest (ρ.set i (.own (xs ++ [d]))) = r) : evSs cl (.app i e :: rest) ρ = r :=
  ss_nx (by
    have hi : i < ρ.length := (List.getElem?_eq_some_iff.mp ho).1
    have hg : getOwn ρ i = .ok xs := by unfold getOwn; rw [ho]
    rw [evS_app, hg, bnd_ok, h, bnd_ok, decide_eq_true hl, guardR_t, put_ok hi, bnd_ok]) hr
theorem call_1 {cl : CL} {ρ : Env} {f : Nat} {e : E} {d r : D} (h : evE cl e ρ = .ok d) (h2 : cl f [d] = .ok r) : evE cl (.call f [e]) ρ = .ok r := by
  rw [evE_call, es_1 h, bnd_ok, h2]
theorem call_2 {cl : CL} {ρ : Env} {f : Nat} {e e2 : E} {d d2 r : D} (h : evE cl e ρ = .ok d) (h1 : evE cl e2 ρ = .ok d2) (h2 : cl f [d, d2] = .ok r) : evE cl (.call f [e, e2]) ρ = .ok r := by
  rw [evE_call, es_2 h h1, bnd_ok, h2]
theorem iff_no {cl : CL} {ρ : Env} {c : E} {th rest : List S} {r : R Fl} (h1 : evT cl c ρ = .ok false) (h2 : evSs cl rest ρ = r) : evSs cl (.iff c th [] :: rest) ρ = r := ss_nx (by rw [evS_iff, h1]; rfl) h2
theorem or_ff {cl : CL} {ρ : Env} {a b : E} (h1 : evT cl a ρ = .ok false) (h2 : evT cl b ρ = .ok false) : evT cl (.or a b) ρ = .ok false := by rw [evT_or, h1, bnd_ok, if_neg (by decide), h2]
theorem es_c {cl : CL} {ρ : Env} {e : E} {es : List E} {d : D} {ds : List D} (h : evE cl e ρ = .ok d) (h2 : evEs cl es ρ = .ok ds) : evEs cl (e :: es) ρ = .ok (d :: ds) := by rw [evEs_cons, h, bnd_ok, h2, bnd_ok]
theorem lst_e {cl : CL} {ρ : Env} {es : List E} {ds : List D} (h : evEs cl es ρ = .ok ds) : evE cl (.lst es) ρ = .ok (.lst ds) := by rw [evE_lst, h, bnd_ok]
theorem tup_e {cl : CL} {ρ : Env} {es : List E} {ds : List D} (h : evEs cl es ρ = .ok ds) : evE cl (.tup es) ρ = .ok (.tup ds) := by rw [evE_tup, h, bnd_ok]
theorem bin_e {cl : CL} {ρ : Env} {o : BO} {a b : E} {x y r : D} (ha : bor ρ a (evE cl a ρ) = .ok x) (hb : bor ρ b (evE cl b ρ) = .ok y) (h : binD o x y = .ok r) : evE cl (.bin o a b) ρ = .ok r := by rw [evE_bin, ha, bnd_ok, hb, bnd_ok, h]
theorem cmp_e {cl : CL} {ρ : Env} {o : CO} {a b : E} {x y r : D} (ha : bor ρ a (evE cl a ρ) = .ok x) (hb : bor ρ b (evE cl b ρ) = .ok y) (h : cmpD o x y = .ok r) : evE cl (.cmp o a b) ρ = .ok r := by rw [evE_cmp, ha, bnd_ok, hb, bnd_ok, h]
theorem cmp_t {cl : CL} {ρ : Env} {o : CO} {a b : E} {x y : D} {r : Bool} (ha : bor ρ a (evE cl a ρ) = .ok x) (hb : bor ρ b (evE cl b ρ) = .ok y) (h : cmpD o x y = .ok (.bl r)) : evT cl (.cmp o a b) ρ = .ok r := by rw [evT_cmp, cmp_e ha hb h]; rfl
theorem not_t {cl : CL} {ρ : Env} {a : E} {b : Bool} (h : evT cl a ρ = .ok b) : evT cl (.not a) ρ = .ok !b := by rw [evT_not, h]; rfl
theorem or_t {cl : CL} {ρ : Env} {a b : E} {x y : Bool} (h : evT cl a ρ = .ok x) (h2 : x = false → evT cl b ρ = .ok y) (hy : x = true → y = true) : evT cl (.or a b) ρ = .ok y := by
  rw [evT_or, h, bnd_ok]
  cases x with
  | true => rw [if_pos rfl, hy rfl]
  | false => rw [if_neg (by decide), h2 rfl]
theorem iff_yes {cl : CL} {ρ : Env} {c : E} {th el rest : List S} {d : D} (h1 : evT cl c ρ = .ok true) (h2 : evSs cl th ρ = .ok (.rt d)) : evSs cl (.iff c th el :: rest) ρ = .ok (.rt d) := ss_rt (by rw [evS_iff, h1]; exact h2)
theorem iff_nx {cl : CL} {ρ ρ' : Env} {c : E} {b : Bool} {th el rest : List S} {r : R Fl} (h1 : evT cl c ρ = .ok b) (h2 : evSs cl (if b = true then th else el) ρ = .ok (.nx ρ')) (hr : evSs cl rest ρ' = r) : evSs cl (.iff c th el :: rest) ρ = r := ss_nx (by rw [evS_iff, h1, bnd_ok]; cases b <;> exact h2) hr
theorem ret_ss {cl : CL} {ρ : Env} {e : E} {d : D} {rest : List S} (h : bor ρ e (evE cl e ρ) = .ok d) : evSs cl (.ret e :: rest) ρ = .ok (.rt d) := ss_rt (by rw [evS_ret, h]; rfl)
end MT
namespace MT
def ir_changes_changed : Fn := ⟨2, 6, [
  .asg 2 false (.tup []),
  .asg 3 false (.c (.int 0)),
  .for (.tp [(.nm 4), (.nm 5)]) .seq [(.v 1)] [.iff (.cmp .eq (.v 4) (.c (.str [105, 110]))) [.asg 2 false (.bin .add (.v 2) (.v 5))] [.iff (.cmp .eq (.v 4) (.c (.str [107, 101, 101, 112]))) [.asg 2 false (.bin .add (.v 2) (.slLH (.v 0) (.v 3) (.bin .add (.v 3) (.v 5))))] [], .asg 3 false (.bin .add (.v 3) (.v 5))]],
  .iff (.cmp .ne (.v 3) (.pr .len [(.v 0)])) [.raise 0] [],
  .ret (.v 2)]⟩
def ir_changes_table : Fn := ⟨2, 5, [
  .dnew 2,
  .for (.nm 3) .rrng1 [(.bin .add (.pr .len [(.v 0)]) (.c (.int 1)))] [.for (.nm 4) .rrng1 [(.bin .add (.pr .len [(.v 1)]) (.c (.int 1)))] [.iff (.or (.cmp .eq (.v 3) (.pr .len [(.v 0)])) (.cmp .eq (.v 4) (.pr .len [(.v 1)]))) [.dput 2 [(.v 3), (.v 4)] (.bin .sub (.bin .add (.bin .sub (.pr .len [(.v 0)]) (.v 3)) (.pr .len [(.v 1)])) (.v 4))] [.iff (.cmp .eq (.idx (.v 0) (.v 3)) (.idx (.v 1) (.v 4))) [.dput 2 [(.v 3), (.v 4)] (.dgt 2 [(.bin .add (.v 3) (.c (.int 1))), (.bin .add (.v 4) (.c (.int 1)))])] [.dput 2 [(.v 3), (.v 4)] (.bin .add (.c (.int 1)) (.pr .min2 [(.dgt 2 [(.bin .add (.v 3) (.c (.int 1))), (.v 4)]), (.dgt 2 [(.v 3), (.bin .add (.v 4) (.c (.int 1)))])]))]]]],
  .retd 2]⟩
def ir_changes_joined : Fn := ⟨1, 4, [
  .asg 1 true (.lst []),
  .for (.tp [(.nm 2), (.nm 3)]) .seq [(.v 0)] [.iff (.and (.v 1) (.cmp .eq (.idx (.idx (.v 1) (.neg (.c (.int 1)))) (.c (.int 0))) (.v 2))) [.apop 1 2 3] [.app 1 (.tup [(.v 2), (.v 3)])]],
  .ret (.pr .tuple [(.v 1)])]⟩
def ir_changes_changes : Fn := ⟨2, 6, [
  .asg 2 false (.call 64 [(.v 0), (.v 1)]),
  .asg 3 true (.lst []),
  .asg 4 false (.c (.int 0)),
  .asg 5 false (.c (.int 0)),
  .whl (.or (.cmp .lt (.v 4) (.pr .len [(.v 0)])) (.cmp .lt (.v 5) (.pr .len [(.v 1)]))) [.iff (.and (.cmp .lt (.v 4) (.pr .len [(.v 0)])) (.and (.cmp .lt (.v 5) (.pr .len [(.v 1)])) (.cmp .eq (.idx (.v 0) (.v 4)) (.idx (.v 1) (.v 5))))) [.app 3 (.tup [(.c (.str [107, 101, 101, 112])), (.c (.int 1))]), .asg 4 false (.bin .add (.v 4) (.c (.int 1))), .asg 5 false (.bin .add (.v 5) (.c (.int 1)))] [.iff (.or (.cmp .eq (.v 5) (.pr .len [(.v 1)])) (.and (.cmp .lt (.v 4) (.pr .len [(.v 0)])) (.cmp .le (.dgt 2 [(.bin .add (.v 4) (.c (.int 1))), (.v 5)]) (.dgt 2 [(.v 4), (.bin .add (.v 5) (.c (.int 1)))])))) [.app 3 (.tup [(.c (.str [111, 117, 116])), (.c (.int 1))]), .asg 4 false (.bin .add (.v 4) (.c (.int 1)))] [.app 3 (.tup [(.c (.str [105, 110])), (.tup [(.idx (.v 1) (.v 5))])]), .asg 5 false (.bin .add (.v 5) (.c (.int 1)))]]],
  .frz 3,
  .ret (.call 63 [(.v 3)])]⟩
def ir_changes_how_many : Fn := ⟨1, 3, [
  .ret (.bin .add (.pr .sum [(.lc (.tp [(.nm 1), (.nm 2)]) .seq [(.v 0)] [(.cmp .eq (.v 1) (.c (.str [111, 117, 116])))] (.v 2))]) (.pr .sum [(.lc (.tp [(.nm 1), (.nm 2)]) .seq [(.v 0)] [(.cmp .eq (.v 1) (.c (.str [105, 110])))] (.pr .len [(.v 2)]))]))]⟩
def ir_law_cell : Fn := ⟨2, 2, [
  .iff (.cmp .lt (.v 1) (.pr .len [(.v 0)])) [.ret (.idx (.v 0) (.v 1))] [],
  .ret (.c (.int 0))]⟩
def ir_law_mix : Fn := ⟨3, 4, [
  .asg 3 false (.bin .mod (.bin .mul (.v 0) (.c (.int 48271))) (.v 1)),
  .ret (.bin .mod (.bin .mod (.bin .mul (.v 3) (.bin .add (.v 3) (.c (.int 7)))) (.v 1)) (.v 2))]⟩
def ir_law_alike : Fn := ⟨2, 4, [
  .asg 2 false (.tup [(.tup [(.c (.str [114, 117, 108, 101]))]), (.tup [(.c (.str [112, 97, 114])), (.tup [(.tup [(.c (.str [116, 101, 120, 116])), (.c (.str [97]))])])]), (.tup [(.c (.str [112, 97, 114])), (.tup [(.tup [(.c (.str [116, 101, 120, 116])), (.c (.str [98]))])])]), (.tup [(.c (.str [99, 111, 100, 101])), (.tup [(.c (.str [97]))])])]),
  .ret (.pr .tuple [(.lc (.nm 3) .rng1 [(.call 32 [(.v 0), (.c (.int 9767)), (.bin .add (.v 1) (.c (.int 1)))])] [] (.idx (.v 2) (.call 32 [(.bin .add (.v 0) (.bin .mul (.c (.int 7)) (.v 3))), (.c (.int 9769)), (.c (.int 4))])))])]⟩
def ir_law_far : Fn := ⟨2, 2, [
  .ret (.call 62 [(.call 61 [(.v 0), (.v 1)])])]⟩
def ir_law_k29 : Fn := ⟨1, 10, [
  .for (.nm 1) .rng1 [(.c (.int 10))] [.asg 2 false (.bin .add (.call 4 [(.v 0), (.bin .mod (.v 1) (.c (.int 9)))]) (.bin .mul (.c (.int 61)) (.v 1))), .par [5, 6, 7] [(.call 1 [(.v 2), (.c (.int 8))]), (.call 1 [(.bin .add (.v 2) (.c (.int 5))), (.c (.int 8))]), (.call 1 [(.bin .add (.v 2) (.c (.int 9))), (.c (.int 8))])], .asg 3 false (.call 12 [(.v 5), (.v 6)]), .iff (.or (.cmp .ne (.v 3) (.call 12 [(.v 6), (.v 5)])) (.cmp .gt (.v 3) (.bin .add (.call 12 [(.v 5), (.v 7)]) (.call 12 [(.v 7), (.v 6)])))) [.ret (.c (.bl false))] [], .iff (.or (.not (.chain .le .le (.pr .abs [(.bin .sub (.pr .len [(.v 5)]) (.pr .len [(.v 6)]))]) (.v 3) (.bin .add (.pr .len [(.v 5)]) (.pr .len [(.v 6)])))) (.cmp .ne (.bin .mod (.bin .add (.bin .add (.v 3) (.pr .len [(.v 5)])) (.pr .len [(.v 6)])) (.c (.int 2))) (.c (.int 0)))) [.ret (.c (.bl false))] [], .iff (.or (.cmp .ne (.call 12 [(.bin .add (.v 7) (.v 5)), (.bin .add (.v 7) (.v 6))]) (.v 3)) (.cmp .ne (.call 12 [(.bin .add (.v 5) (.v 7)), (.bin .add (.v 6) (.v 7))]) (.v 3))) [.ret (.c (.bl false))] [], .iff (.or (.cmp .ne (.call 12 [(.rev (.v 5)), (.rev (.v 6))]) (.v 3)) (.or (.cmp .ne (.call 12 [(.v 5), (.v 5)]) (.c (.int 0))) (.cmp .ne (.call 12 [(.tup []), (.v 5)]) (.pr .len [(.v 5)])))) [.ret (.c (.bl false))] [], .iff (.cmp .ne (.call 60 [(.call 60 [(.v 5), (.call 61 [(.v 5), (.v 6)])]), (.call 61 [(.v 6), (.v 5)])]) (.v 5)) [.ret (.c (.bl false))] [], .iff (.cmp .ne (.lc (.tp [(.nm 8), (.nm 9)]) .seq [(.call 61 [(.v 5), (.v 6)])] [(.cmp .notin (.v 8) (.tup [(.c (.str [107, 101, 101, 112])), (.c (.str [111, 117, 116])), (.c (.str [105, 110]))]))] (.c (.int 1))) (.lst [])) [.ret (.c (.bl false))] [], .asg 4 false (.bin .add (.call 61 [(.v 5), (.v 6)]) (.call 61 [(.v 7), (.v 5)])), .iff (.or (.cmp .ne (.call 60 [(.bin .add (.v 5) (.v 7)), (.v 4)]) (.bin .add (.v 6) (.v 5))) (.cmp .ne (.call 62 [(.v 4)]) (.bin .add (.v 3) (.call 12 [(.v 7), (.v 5)])))) [.ret (.c (.bl false))] []],
  .ret (.c (.bl true))]⟩
def ir_docs_is_address : Fn := ⟨1, 2, [
  .ret (.and (.call 75 [(.v 0)]) (.pr .all [(.lc (.nm 1) .seq [(.v 0)] [] (.cmp .isin (.v 1) (.c (.str [97, 98, 99, 100, 101, 102, 103, 104, 105, 106, 107, 108, 109, 110, 111, 112, 113, 114, 115, 116, 117, 118, 119, 120, 121, 122, 48, 49, 50, 51, 52, 53, 54, 55, 56, 57, 58, 47, 46, 45, 35, 63, 61]))))]))]⟩
def ir_docs_is_block : Fn := ⟨2, 5, [
  .iff (.or (.not (.pr (.isT false false false true false) [(.v 0)])) (.or (.cmp .eq (.pr .len [(.v 0)]) (.c (.int 0))) (.not (.pr (.isT false false true false false) [(.idx (.v 0) (.c (.int 0)))])))) [.ret (.c (.bl false))] [],
  .asg 2 false (.idx (.v 0) (.c (.int 0))),
  .iff (.cmp .eq (.v 2) (.c (.str [104, 101, 97, 100]))) [.asg 3 false (.and (.cmp .eq (.pr .len [(.v 0)]) (.c (.int 3))) (.and (.pr (.isT false true false false false) [(.idx (.v 0) (.c (.int 1)))]) (.not (.pr (.isT true false false false false) [(.idx (.v 0) (.c (.int 1)))])))), .ret (.and (.v 3) (.and (.chain .le .le (.c (.int 1)) (.idx (.v 0) (.c (.int 1))) (.c (.int 3))) (.call 71 [(.idx (.v 0) (.c (.int 2)))])))] [],
  .iff (.cmp .eq (.v 2) (.c (.str [112, 97, 114]))) [.ret (.and (.cmp .eq (.pr .len [(.v 0)]) (.c (.int 2))) (.call 71 [(.idx (.v 0) (.c (.int 1)))]))] [],
  .iff (.cmp .eq (.v 2) (.c (.str [114, 117, 108, 101]))) [.ret (.cmp .eq (.pr .len [(.v 0)]) (.c (.int 1)))] [],
  .iff (.cmp .eq (.v 2) (.c (.str [99, 111, 100, 101]))) [.iff (.or (.cmp .ne (.pr .len [(.v 0)]) (.c (.int 2))) (.or (.not (.pr (.isT false false false true false) [(.idx (.v 0) (.c (.int 1)))])) (.cmp .eq (.pr .len [(.idx (.v 0) (.c (.int 1)))]) (.c (.int 0))))) [.ret (.c (.bl false))] [], .ret (.pr .all [(.lc (.nm 4) .seq [(.idx (.v 0) (.c (.int 1)))] [] (.pr (.isT false false true false false) [(.v 4)]))])] [],
  .iff (.cmp .eq (.v 2) (.c (.str [113, 117, 111, 116, 101]))) [.ret (.and (.cmp .gt (.v 1) (.c (.int 0))) (.and (.cmp .eq (.pr .len [(.v 0)]) (.c (.int 2))) (.and (.call 69 [(.idx (.v 0) (.c (.int 1))), (.bin .sub (.v 1) (.c (.int 1)))]) (.cmp .gt (.pr .len [(.idx (.v 0) (.c (.int 1)))]) (.c (.int 0))))))] [],
  .ret (.call 73 [(.v 0), (.c (.int 3))])]⟩
def ir_docs_is_doc : Fn := ⟨1, 1, [
  .ret (.call 69 [(.v 0), (.c (.int 3))])]⟩
def ir_docs_is_doc_in : Fn := ⟨2, 3, [
  .ret (.and (.pr (.isT false false false true false) [(.v 0)]) (.pr .all [(.lc (.nm 2) .seq [(.v 0)] [] (.call 67 [(.v 2), (.v 1)]))]))]⟩
def ir_docs_is_item : Fn := ⟨2, 2, [
  .iff (.or (.not (.pr (.isT false false false true false) [(.v 0)])) (.or (.cmp .ne (.pr .len [(.v 0)]) (.c (.int 2))) (.not (.call 71 [(.idx (.v 0) (.c (.int 0)))])))) [.ret (.c (.bl false))] [],
  .ret (.or (.cmp .is (.idx (.v 0) (.c (.int 1))) (.c .non)) (.call 73 [(.idx (.v 0) (.c (.int 1))), (.v 1)]))]⟩
def ir_docs_is_line : Fn := ⟨1, 1, [
  .ret (.call 72 [(.v 0), (.tup [])])]⟩
def ir_docs_is_line_in : Fn := ⟨2, 4, [
  .iff (.or (.not (.pr (.isT false false false true false) [(.v 0)])) (.or (.cmp .eq (.pr .len [(.v 0)]) (.c (.int 0))) (.not (.pr .all [(.lc (.nm 3) .seq [(.v 0)] [] (.call 74 [(.v 3), (.v 1)]))])))) [.ret (.c (.bl false))] [],
  .ret (.not (.pr .any [(.lc (.nm 2) .rng2 [(.c (.int 1)), (.pr .len [(.v 0)])] [] (.and (.cmp .eq (.idx (.idx (.v 0) (.bin .sub (.v 2) (.c (.int 1)))) (.c (.int 0))) (.c (.str [116, 101, 120, 116]))) (.cmp .eq (.idx (.idx (.v 0) (.v 2)) (.c (.int 0))) (.c (.str [116, 101, 120, 116])))))]))]⟩
def ir_docs_is_list : Fn := ⟨2, 3, [
  .iff (.or (.cmp .eq (.v 1) (.c (.int 0))) (.or (.not (.pr (.isT false false false true false) [(.v 0)])) (.or (.cmp .ne (.pr .len [(.v 0)]) (.c (.int 3))) (.cmp .ne (.idx (.v 0) (.c (.int 0))) (.c (.str [108, 105, 115, 116])))))) [.ret (.c (.bl false))] [],
  .iff (.or (.not (.pr (.isT false false true false false) [(.idx (.v 0) (.c (.int 1)))])) (.or (.cmp .notin (.idx (.v 0) (.c (.int 1))) (.tup [(.c (.str [100, 111, 116, 115])), (.c (.str [99, 111, 117, 110, 116]))])) (.not (.pr (.isT false false false true false) [(.idx (.v 0) (.c (.int 2)))])))) [.ret (.c (.bl false))] [],
  .ret (.and (.cmp .gt (.pr .len [(.idx (.v 0) (.c (.int 2)))]) (.c (.int 0))) (.pr .all [(.lc (.nm 2) .seq [(.idx (.v 0) (.c (.int 2)))] [] (.call 70 [(.v 2), (.bin .sub (.v 1) (.c (.int 1)))]))]))]⟩
def ir_docs_is_piece : Fn := ⟨2, 2, [
  .iff (.or (.not (.pr (.isT false false false true false) [(.v 0)])) (.or (.cmp .notin (.pr .len [(.v 0)]) (.tup [(.c (.int 2)), (.c (.int 3))])) (.not (.pr (.isT false false true false false) [(.idx (.v 0) (.c (.int 0)))])))) [.ret (.c (.bl false))] [],
  .iff (.cmp .isin (.idx (.v 0) (.c (.int 0))) (.tup [(.c (.str [116, 101, 120, 116])), (.c (.str [99, 111, 100, 101]))])) [.ret (.and (.cmp .eq (.pr .len [(.v 0)]) (.c (.int 2))) (.call 75 [(.idx (.v 0) (.c (.int 1)))]))] [],
  .iff (.or (.cmp .notin (.idx (.v 0) (.c (.int 0))) (.tup [(.c (.str [115, 116, 114, 111, 110, 103])), (.c (.str [115, 108, 97, 110, 116])), (.c (.str [108, 105, 110, 107]))])) (.cmp .isin (.idx (.v 0) (.c (.int 0))) (.v 1))) [.ret (.c (.bl false))] [],
  .iff (.or (.cmp .ne (.cmp .eq (.pr .len [(.v 0)]) (.c (.int 3))) (.cmp .eq (.idx (.v 0) (.c (.int 0))) (.c (.str [108, 105, 110, 107])))) (.and (.cmp .eq (.pr .len [(.v 0)]) (.c (.int 3))) (.not (.call 66 [(.idx (.v 0) (.c (.int 2)))])))) [.ret (.c (.bl false))] [],
  .ret (.call 72 [(.idx (.v 0) (.c (.int 1))), (.bin .add (.v 1) (.tup [(.idx (.v 0) (.c (.int 0)))]))])]⟩
def ir_docs_is_words : Fn := ⟨1, 1, [
  .ret (.and (.pr (.isT false false true false false) [(.v 0)]) (.cmp .gt (.pr .len [(.v 0)]) (.c (.int 0))))]⟩
def ir_docs_plain : Fn := ⟨1, 2, [
  .ret (.me .join (.c (.str [])) [(.lc (.nm 1) .seq [(.v 0)] [] (.call 81 [(.v 1)]))])]⟩
def ir_docs_plain_piece : Fn := ⟨1, 1, [
  .iff (.cmp .isin (.idx (.v 0) (.c (.int 0))) (.tup [(.c (.str [116, 101, 120, 116])), (.c (.str [99, 111, 100, 101]))])) [.ret (.idx (.v 0) (.c (.int 1)))] [],
  .iff (.cmp .eq (.idx (.v 0) (.c (.int 0))) (.c (.str [108, 105, 110, 107]))) [.ret (.bin .add (.bin .add (.bin .add (.call 80 [(.idx (.v 0) (.c (.int 1)))]) (.c (.str [32, 60]))) (.idx (.v 0) (.c (.int 2)))) (.c (.str [62])))] [],
  .ret (.call 80 [(.idx (.v 0) (.c (.int 1)))])]⟩
def ir_law_address : Fn := ⟨1, 3, [
  .asg 1 false (.c (.str [97, 98, 99, 100, 101, 102, 103, 104, 105, 106, 107, 108, 109, 110, 111, 112, 113, 114, 115, 116, 117, 118, 119, 120, 121, 122, 48, 49, 50, 51, 52, 53, 54, 55, 56, 57, 58, 47, 46, 45, 35, 63, 61])),
  .ret (.me .join (.c (.str [])) [(.lc (.nm 2) .rng1 [(.bin .add (.c (.int 1)) (.call 32 [(.v 0), (.c (.int 9929)), (.c (.int 6))]))] [] (.idx (.v 1) (.call 32 [(.bin .add (.v 0) (.bin .mul (.c (.int 5)) (.v 2))), (.c (.int 9931)), (.c (.int 43))])))])]⟩
def ir_law_block : Fn := ⟨2, 6, [
  .asg 2 false (.call 32 [(.v 0), (.idx (.tup [(.c (.int 9743)), (.c (.int 9739)), (.c (.int 9733)), (.c (.int 9859))]) (.v 1)), (.c (.int 8))]),
  .iff (.cmp .lt (.v 2) (.c (.int 2))) [.ret (.tup [(.c (.str [104, 101, 97, 100])), (.bin .add (.c (.int 1)) (.call 32 [(.v 0), (.c (.int 9857)), (.c (.int 3))])), (.call 25 [(.bin .add (.v 0) (.c (.int 1))), (.tup [])])])] [],
  .iff (.cmp .eq (.v 2) (.c (.int 2))) [.ret (.tup [(.c (.str [114, 117, 108, 101]))])] [],
  .iff (.cmp .eq (.v 2) (.c (.int 3))) [.asg 3 false (.lst [(.c (.str [])), (.c (.str [45, 45, 45])), (.c (.str [62, 32, 97])), (.call 56 [(.bin .add (.v 0) (.c (.int 2)))]), (.c (.str [32, 32])), (.call 56 [(.bin .add (.v 0) (.c (.int 4)))])]), .ret (.tup [(.c (.str [99, 111, 100, 101])), (.pr .tuple [(.lc (.nm 5) .rng1 [(.bin .add (.c (.int 1)) (.call 32 [(.v 0), (.c (.int 9839)), (.c (.int 3))]))] [] (.idx (.v 3) (.call 32 [(.bin .add (.v 0) (.v 5)), (.c (.int 9851)), (.c (.int 6))])))])])] [],
  .iff (.cmp .eq (.v 2) (.c (.int 4))) [.ret (.call 27 [(.bin .add (.v 0) (.c (.int 3))), (.c (.int 3))])] [],
  .iff (.and (.cmp .eq (.v 2) (.c (.int 5))) (.cmp .gt (.v 1) (.c (.int 0)))) [.asg 4 false (.bin .add (.c (.int 1)) (.call 32 [(.v 0), (.c (.int 9833)), (.c (.int 2))])), .ret (.tup [(.c (.str [113, 117, 111, 116, 101])), (.pr .tuple [(.lc (.nm 5) .rng1 [(.v 4)] [] (.call 3 [(.bin .add (.bin .add (.bin .fdiv (.v 0) (.c (.int 11))) (.bin .mul (.c (.int 19)) (.v 5))) (.c (.int 7))), (.bin .sub (.v 1) (.c (.int 1)))]))])])] [],
  .ret (.tup [(.c (.str [112, 97, 114])), (.call 25 [(.bin .add (.v 0) (.c (.int 4))), (.tup [])])])]⟩
def ir_law_deep : Fn := ⟨1, 3, [
  .asg 1 false (.tup [(.c (.str [108, 105, 115, 116])), (.c (.str [100, 111, 116, 115])), (.tup [(.tup [(.tup [(.tup [(.c (.str [116, 101, 120, 116])), (.c (.str [97]))])]), (.c .non)])])]),
  .for (.nm 2) .rng1 [(.v 0)] [.asg 1 false (.tup [(.c (.str [108, 105, 115, 116])), (.c (.str [99, 111, 117, 110, 116])), (.tup [(.tup [(.tup [(.tup [(.c (.str [116, 101, 120, 116])), (.c (.str [97]))])]), (.v 1)])])])],
  .ret (.v 1)]⟩
def ir_law_doc : Fn := ⟨2, 3, [
  .ret (.pr .tuple [(.lc (.nm 2) .rng1 [(.call 32 [(.v 0), (.c (.int 9829)), (.bin .add (.v 1) (.c (.int 1)))])] [] (.call 3 [(.bin .add (.v 0) (.bin .mul (.c (.int 23)) (.v 2))), (.c (.int 3))]))])]⟩
def ir_law_k01 : Fn := ⟨1, 9, [
  .for (.nm 1) .rng1 [(.c (.int 4))] [.asg 2 false (.bin .add (.call 4 [(.v 0), (.v 1)]) (.v 1)), .asg 3 false (.call 25 [(.v 2), (.tup [])]), .asg 4 false (.call 25 [(.bin .add (.v 2) (.c (.int 3))), (.tup [(.c (.str [115, 116, 114, 111, 110, 103]))])]), .iff (.or (.cmp .isnot (.call 71 [(.v 3)]) (.c (.bl true))) (.cmp .isnot (.call 71 [(.tup [(.tup [(.c (.str [115, 116, 114, 111, 110, 103])), (.v 4)]), (.tup [(.c (.str [115, 116, 114, 111, 110, 103])), (.v 4)])])]) (.c (.bl true)))) [.ret (.c (.bl false))] [], .for (.nm 5) .seq [(.call 35 [(.tup [(.tup [(.c (.str [116, 101, 120, 116])), (.c (.str [97]))])]), (.bin .add (.call 4 [(.v 0), (.c (.int 4))]) (.v 1))])] [.asg 8 false (.call 32 [(.v 2), (.c (.int 9811)), (.bin .add (.pr .len [(.v 3)]) (.c (.int 1)))]), .iff (.cmp .isnot (.call 71 [(.bin .add (.bin .add (.slHi (.v 3) (.v 8)) (.tup [(.v 5)])) (.slLo (.v 3) (.v 8)))]) (.c (.bl false))) [.ret (.c (.bl false))] [], .iff (.cmp .isnot (.call 71 [(.tup [(.tup [(.c (.str [115, 116, 114, 111, 110, 103])), (.bin .add (.v 4) (.tup [(.tup [(.c (.str [99, 111, 100, 101])), (.c (.str [120]))]), (.v 5)]))])])]) (.c (.bl false))) [.ret (.c (.bl false))] []], .asg 6 false (.lst [(.tup [(.tup [(.c (.str [116, 101, 120, 116])), (.c (.str [97]))]), (.tup [(.c (.str [116, 101, 120, 116])), (.c (.str [98]))])]), (.tup []), (.pr .list [(.v 3)]), (.idx (.v 3) (.c (.int 0))), (.c (.str [116, 101, 120, 116])), (.c .non)]), .for (.nm 7) .seq [(.bin .add (.v 6) (.lst [(.c (.int 0)), (.tup [(.v 3)]), (.tup [(.tup [(.c (.str [115, 116, 114, 111, 110, 103])), (.tup [(.c (.str [116, 101, 120, 116])), (.c (.str [97]))])])])]))] [.iff (.cmp .isnot (.call 71 [(.v 7)]) (.c (.bl false))) [.ret (.c (.bl false))] []], .iff (.cmp .isnot (.call 71 [(.tup [(.tup [(.c (.str [115, 116, 114, 111, 110, 103])), (.tup [(.tup [(.c (.str [99, 111, 100, 101])), (.c (.str [97]))]), (.tup [(.c (.str [116, 101, 120, 116])), (.c (.str [98]))]), (.tup [(.c (.str [116, 101, 120, 116])), (.c (.str [99]))])])])])]) (.c (.bl false))) [.ret (.c (.bl false))] [], .iff (.cmp .isnot (.call 71 [(.tup [(.tup [(.c (.str [116, 101, 120, 116])), (.c (.str [97]))]), (.tup [(.c (.str [99, 111, 100, 101])), (.c (.str [98]))]), (.tup [(.c (.str [116, 101, 120, 116])), (.c (.str [99]))]), (.tup [(.c (.str [115, 108, 97, 110, 116])), (.tup [(.tup [(.c (.str [116, 101, 120, 116])), (.c (.str [100]))])])])])]) (.c (.bl true))) [.ret (.c (.bl false))] []],
  .ret (.c (.bl true))]⟩
def ir_law_k02 : Fn := ⟨1, 9, [
  .for (.nm 1) .rng1 [(.c (.int 3))] [.asg 2 false (.bin .add (.call 4 [(.v 0), (.v 1)]) (.v 1)), .asg 3 false (.call 9 [(.v 2), (.c (.int 5))]), .asg 4 false (.tup [(.call 8 [(.c (.int 2))]), (.call 42 [(.c (.int 3))])]), .iff (.or (.cmp .isnot (.call 68 [(.v 3)]) (.c (.bl true))) (.cmp .isnot (.call 68 [(.bin .add (.v 3) (.v 4))]) (.c (.bl true)))) [.ret (.c (.bl false))] [], .asg 5 false (.call 32 [(.bin .add (.call 4 [(.v 0), (.c (.int 3))]) (.v 1)), (.c (.int 9811)), (.bin .add (.pr .len [(.v 3)]) (.c (.int 1)))]), .for (.nm 6) .seq [(.call 34 [(.bin .add (.call 4 [(.v 0), (.c (.int 4))]) (.v 1))])] [.iff (.cmp .isnot (.call 68 [(.bin .add (.bin .add (.slHi (.v 3) (.v 5)) (.tup [(.v 6)])) (.slLo (.v 3) (.v 5)))]) (.c (.bl false))) [.ret (.c (.bl false))] [], .iff (.cmp .isnot (.call 68 [(.tup [(.tup [(.c (.str [113, 117, 111, 116, 101])), (.tup [(.tup [(.c (.str [114, 117, 108, 101]))]), (.v 6)])])])]) (.c (.bl false))) [.ret (.c (.bl false))] []], .asg 7 false (.tup [(.c (.str [113, 117, 111, 116, 101])), (.tup [(.call 42 [(.c (.int 2))]), (.call 42 [(.c (.int 3))])])]), .iff (.or (.cmp .isnot (.call 68 [(.tup [(.call 42 [(.c (.int 4))])])]) (.c (.bl false))) (.cmp .isnot (.call 68 [(.bin .add (.v 3) (.tup [(.v 7)]))]) (.c (.bl false)))) [.ret (.c (.bl false))] [], .for (.nm 8) .seq [(.tup [(.pr .list [(.v 3)]), (.c .non), (.c (.str [100, 111, 99])), (.c (.int 5)), (.tup [(.c (.str [114, 117, 108, 101]))]), (.c (.bl true))])] [.iff (.cmp .isnot (.call 68 [(.v 8)]) (.c (.bl false))) [.ret (.c (.bl false))] []]],
  .ret (.cmp .is (.call 68 [(.tup [])]) (.c (.bl true)))]⟩
def ir_law_k20 : Fn := ⟨1, 11, [
  .for (.nm 1) .rng1 [(.c (.int 3))] [.asg 2 false (.bin .add (.call 4 [(.v 0), (.v 1)]) (.v 1)), .asg 3 false (.call 1 [(.v 2), (.c (.int 8))]), .asg 4 false (.call 1 [(.call 4 [(.v 0), (.bin .add (.c (.int 3)) (.v 1))]), (.c (.int 8))]), .asg 5 true (.lst [(.tup [(.v 3), (.v 4)]), (.tup [(.v 4), (.v 3)]), (.tup [(.v 3), (.v 3)]), (.tup [(.v 3), (.tup [])]), (.tup [(.tup []), (.v 3)]), (.tup [(.v 3), (.rev (.v 3))])]), .asg 6 false (.call 32 [(.v 2), (.c (.int 9811)), (.bin .add (.pr .len [(.v 3)]) (.c (.int 1)))]), .app 5 (.tup [(.v 3), (.bin .add (.bin .add (.slHi (.v 3) (.v 6)) (.slHi (.v 4) (.c (.int 2)))) (.slLo (.v 3) (.bin .add (.v 6) (.c (.int 1)))))]), .frz 5, .for (.tp [(.nm 7), (.nm 8)]) .seq [(.v 5)] [.asg 9 false (.call 61 [(.v 7), (.v 8)]), .iff (.or (.not (.pr (.isT false false false true false) [(.v 9)])) (.not (.call 46 [(.call 24 [(.v 7), (.v 9)]), (.v 8)]))) [.ret (.c (.bl false))] [], .asg 10 false (.bin .sub (.bin .add (.pr .len [(.v 7)]) (.pr .len [(.v 8)])) (.bin .mul (.c (.int 2)) (.call 28 [(.v 7), (.v 8)]))), .iff (.not (.call 46 [(.tup [(.call 62 [(.v 9)]), (.call 60 [(.v 7), (.v 9)])]), (.tup [(.v 10), (.v 8)])])) [.ret (.c (.bl false))] []]],
  .ret (.cmp .eq (.call 61 [(.tup []), (.tup [])]) (.tup []))]⟩
def ir_law_led : Fn := ⟨2, 4, [
  .asg 2 false (.tup []),
  .for (.nm 3) .seq [(.v 1)] [.iff (.or (.not (.pr (.isT false false false true false) [(.v 3)])) (.or (.cmp .ne (.pr .len [(.v 3)]) (.c (.int 2))) (.cmp .notin (.idx (.v 3) (.c (.int 0))) (.tup [(.c (.str [107, 101, 101, 112])), (.c (.str [111, 117, 116])), (.c (.str [105, 110]))])))) [.ret (.c .non)] [], .iff (.cmp .eq (.idx (.v 3) (.c (.int 0))) (.c (.str [105, 110]))) [.iff (.or (.not (.pr (.isT false false false true false) [(.idx (.v 3) (.c (.int 1)))])) (.cmp .eq (.pr .len [(.idx (.v 3) (.c (.int 1)))]) (.c (.int 0)))) [.ret (.c .non)] [], .asg 2 false (.bin .add (.v 2) (.idx (.v 3) (.c (.int 1))))] [.iff (.or (.not (.pr (.isT false true false false false) [(.idx (.v 3) (.c (.int 1)))])) (.or (.pr (.isT true false false false false) [(.idx (.v 3) (.c (.int 1)))]) (.not (.chain .le .le (.c (.int 1)) (.idx (.v 3) (.c (.int 1))) (.pr .len [(.v 0)]))))) [.ret (.c .non)] [], .iff (.cmp .eq (.idx (.v 3) (.c (.int 0))) (.c (.str [107, 101, 101, 112]))) [.asg 2 false (.bin .add (.v 2) (.slHi (.v 0) (.idx (.v 3) (.c (.int 1)))))] [], .asg 0 false (.slLo (.v 0) (.idx (.v 3) (.c (.int 1))))]],
  .iff (.cmp .ne (.v 0) (.tup [])) [.ret (.c .non)] [],
  .ret (.v 2)]⟩
def ir_law_line : Fn := ⟨2, 7, [
  .asg 2 true (.lst []),
  .for (.nm 3) .rng1 [(.bin .add (.c (.int 1)) (.call 32 [(.v 0), (.c (.int 9923)), (.c (.int 3))]))] [.asg 4 false (.bin .add (.v 0) (.bin .mul (.c (.int 13)) (.v 3))), .asg 5 false (.idx (.tup [(.c (.int 9907)), (.c (.int 9769)), (.c (.int 9767)), (.c (.int 9749))]) (.pr .len [(.v 1)])), .asg 6 false (.idx (.tup [(.c (.str [116, 101, 120, 116])), (.c (.str [116, 101, 120, 116])), (.c (.str [115, 116, 114, 111, 110, 103])), (.c (.str [115, 108, 97, 110, 116])), (.c (.str [99, 111, 100, 101])), (.c (.str [108, 105, 110, 107])), (.c (.str [116, 101, 120, 116]))]) (.call 32 [(.v 4), (.v 5), (.c (.int 7))])), .iff (.or (.cmp .isin (.v 6) (.v 1)) (.and (.cmp .eq (.v 6) (.c (.str [116, 101, 120, 116]))) (.and (.v 2) (.cmp .eq (.idx (.idx (.v 2) (.neg (.c (.int 1)))) (.c (.int 0))) (.c (.str [116, 101, 120, 116])))))) [.asg 6 false (.c (.str [99, 111, 100, 101]))] [], .iff (.cmp .isin (.v 6) (.tup [(.c (.str [116, 101, 120, 116])), (.c (.str [99, 111, 100, 101]))])) [.app 2 (.tup [(.v 6), (.call 56 [(.bin .add (.v 4) (.c (.int 1)))])])] [.iff (.cmp .eq (.v 6) (.c (.str [108, 105, 110, 107]))) [.app 2 (.tup [(.v 6), (.call 25 [(.bin .add (.v 4) (.c (.int 2))), (.bin .add (.v 1) (.tup [(.v 6)]))]), (.call 0 [(.v 4)])])] [.app 2 (.tup [(.v 6), (.call 25 [(.bin .add (.v 4) (.c (.int 3))), (.bin .add (.v 1) (.tup [(.v 6)]))])])]]],
  .ret (.pr .tuple [(.v 2)])]⟩
def ir_law_list : Fn := ⟨2, 6, [
  .asg 2 true (.lst []),
  .for (.nm 3) .rng1 [(.bin .add (.c (.int 1)) (.call 32 [(.v 0), (.c (.int 9901)), (.c (.int 3))]))] [.asg 4 false (.bin .add (.v 0) (.bin .mul (.c (.int 17)) (.v 3))), .asg 5 false (.c .non), .iff (.and (.cmp .gt (.v 1) (.c (.int 1))) (.cmp .eq (.call 32 [(.v 4), (.c (.int 9887)), (.c (.int 3))]) (.c (.int 0)))) [.asg 5 false (.call 27 [(.bin .add (.v 4) (.c (.int 5))), (.bin .sub (.v 1) (.c (.int 1)))])] [], .app 2 (.tup [(.call 25 [(.v 4), (.tup [])]), (.v 5)])],
  .iff (.cmp .eq (.call 32 [(.v 0), (.c (.int 9883)), (.c (.int 9))]) (.c (.int 0))) [.asg 2 true (.bin .add (.v 2) (.lc (.nm 3) .rng1 [(.c (.int 9))] [] (.tup [(.call 25 [(.bin .add (.v 0) (.v 3)), (.tup [])]), (.c .non)])))] [],
  .ret (.tup [(.c (.str [108, 105, 115, 116])), (.idx (.tup [(.c (.str [100, 111, 116, 115])), (.c (.str [99, 111, 117, 110, 116]))]) (.call 32 [(.v 0), (.c (.int 9871)), (.c (.int 2))])), (.pr .tuple [(.v 2)])])]⟩
def ir_law_longest : Fn := ⟨2, 7, [
  .asg 2 true (.lst [(.lc (.nm 5) .rng1 [(.bin .add (.pr .len [(.v 1)]) (.c (.int 1)))] [] (.c (.int 0)))]),
  .for (.nm 3) .seq [(.v 0)] [.asg 4 true (.lst [(.c (.int 0))]), .for (.tp [(.nm 5), (.nm 6)]) .enum [(.v 1)] [.iff (.cmp .eq (.v 3) (.v 6)) [.app 4 (.bin .add (.idx (.idx (.v 2) (.neg (.c (.int 1)))) (.v 5)) (.c (.int 1)))] [.app 4 (.pr .max2 [(.idx (.idx (.v 2) (.neg (.c (.int 1)))) (.bin .add (.v 5) (.c (.int 1)))), (.idx (.v 4) (.v 5))])]], .frz 4, .app 2 (.v 4)],
  .ret (.idx (.idx (.v 2) (.neg (.c (.int 1)))) (.neg (.c (.int 1))))]⟩
def ir_law_no_blocks : Fn := ⟨1, 4, [
  .asg 1 false (.call 25 [(.v 0), (.tup [])]),
  .asg 2 false (.tup [(.v 1), (.c .non)]),
  .asg 3 false (.lst [(.tup [(.c (.str [104, 101, 97, 100])), (.c (.int 0)), (.v 1)]), (.tup [(.c (.str [104, 101, 97, 100])), (.c (.int 4)), (.v 1)]), (.tup [(.c (.str [104, 101, 97, 100])), (.c (.bl true)), (.v 1)])]),
  .asg 3 false (.bin .add (.v 3) (.lst [(.tup [(.c (.str [104, 101, 97, 100])), (.c (.int 1))]), (.tup [(.c (.str [104, 101, 97, 100])), (.c (.int 1)), (.tup [])]), (.tup [(.c (.str [104, 101, 97, 100])), (.c (.str [49])), (.v 1)])])),
  .asg 3 false (.bin .add (.v 3) (.lst [(.tup [(.c (.str [112, 97, 114])), (.tup [])]), (.tup [(.c (.str [112, 97, 114])), (.v 1), (.v 1)]), (.tup [(.c (.str [112, 97, 114])), (.c (.str [97]))]), (.tup [(.c (.str [112, 97, 114]))])])),
  .asg 3 false (.bin .add (.v 3) (.lst [(.tup [(.c (.str [114, 117, 108, 101])), (.c (.int 1))]), (.tup [(.c (.str [114, 117, 108, 101])), (.tup [])]), (.tup [(.c (.str [119, 111, 114, 100])), (.v 1)]), (.tup [])])),
  .asg 3 false (.bin .add (.v 3) (.lst [(.tup [(.c (.str [99, 111, 100, 101])), (.tup [])]), (.tup [(.c (.str [99, 111, 100, 101])), (.lst [(.c (.str [97]))])]), (.tup [(.c (.str [99, 111, 100, 101])), (.c (.str [97]))])])),
  .asg 3 false (.bin .add (.v 3) (.lst [(.tup [(.c (.str [99, 111, 100, 101])), (.tup [(.c (.str [97])), (.c (.int 5))])]), (.tup [(.c (.str [99, 111, 100, 101])), (.tup [(.c (.str [97]))]), (.c (.int 1))]), (.tup [(.c (.str [113, 117, 111, 116, 101])), (.tup [])])])),
  .asg 3 false (.bin .add (.v 3) (.lst [(.tup [(.c (.str [113, 117, 111, 116, 101])), (.tup [(.c (.str [112, 97, 114])), (.v 1)])]), (.tup [(.c (.str [113, 117, 111, 116, 101])), (.lst [(.tup [(.c (.str [114, 117, 108, 101]))])])])])),
  .asg 3 false (.bin .add (.v 3) (.lst [(.tup [(.c (.str [113, 117, 111, 116, 101])), (.tup [(.tup [(.c (.str [114, 117, 108, 101]))])]), (.c (.int 1))]), (.tup [(.c (.str [108, 105, 115, 116])), (.c (.str [100, 111, 116, 115])), (.tup [])])])),
  .asg 3 false (.bin .add (.v 3) (.lst [(.tup [(.c (.str [108, 105, 115, 116])), (.c (.str [119, 111, 114, 100])), (.tup [(.v 2)])]), (.tup [(.c (.str [108, 105, 115, 116])), (.c (.str [100, 111, 116, 115])), (.lst [(.v 2)])])])),
  .asg 3 false (.bin .add (.v 3) (.lst [(.tup [(.c (.str [108, 105, 115, 116])), (.c (.str [100, 111, 116, 115])), (.v 2)]), (.tup [(.c (.str [108, 105, 115, 116])), (.tup [(.c (.str [100, 111, 116, 115]))]), (.tup [(.v 2)])])])),
  .asg 3 false (.bin .add (.v 3) (.lst [(.tup [(.c (.str [108, 105, 115, 116])), (.c (.str [100, 111, 116, 115])), (.tup [(.tup [(.v 1), (.tup [])])])]), (.tup [(.c (.str [108, 105, 115, 116])), (.c (.str [100, 111, 116, 115])), (.tup [(.tup [(.v 1)])])])])),
  .asg 3 false (.bin .add (.v 3) (.lst [(.tup [(.c (.str [108, 105, 115, 116])), (.c (.str [100, 111, 116, 115])), (.tup [(.tup [(.tup []), (.c .non)])])])])),
  .asg 3 false (.bin .add (.v 3) (.lst [(.tup [(.c (.str [108, 105, 115, 116])), (.c (.str [100, 111, 116, 115])), (.tup [(.tup [(.v 1), (.tup [(.c (.str [112, 97, 114])), (.v 1)])])])])])),
  .asg 3 false (.bin .add (.v 3) (.lst [(.tup [(.c (.str [108, 105, 115, 116])), (.c (.str [100, 111, 116, 115])), (.tup [(.tup [(.v 1), (.v 2)])])])])),
  .asg 3 false (.bin .add (.v 3) (.lst [(.tup [(.c (.str [108, 105, 115, 116])), (.tup [(.v 2)])])])),
  .ret (.bin .add (.v 3) (.lst [(.call 8 [(.c (.int 3))]), (.v 1), (.c (.str [114, 117, 108, 101])), (.c .non), (.c (.int 5)), (.lst [(.c (.str [114, 117, 108, 101]))]), (.lst [(.tup [(.c (.str [114, 117, 108, 101]))])]), (.tup [(.c (.str [104, 101, 97, 100])), (.c (.int 1)), (.v 1), (.v 1)]), (.tup [(.tup [(.c (.str [114, 117, 108, 101]))])])]))]⟩
def ir_law_no_pieces : Fn := ⟨2, 5, [
  .asg 2 false (.call 56 [(.v 1)]),
  .asg 3 false (.lst [(.tup [(.c (.str [116, 101, 120, 116])), (.c (.str []))]), (.tup [(.c (.str [99, 111, 100, 101])), (.c (.str []))]), (.tup [(.c (.str [116, 101, 120, 116])), (.c (.int 5))]), (.tup [(.c (.str [116, 101, 120, 116])), (.lst [(.v 2)])])]),
  .asg 3 false (.bin .add (.v 3) (.lst [(.tup [(.c (.str [116, 101, 120, 116])), (.v 2), (.c (.str [97]))]), (.tup [(.c (.str [116, 101, 120, 116]))]), (.tup [(.c (.str [119, 111, 114, 100])), (.v 2)]), (.v 2)])),
  .asg 3 false (.bin .add (.v 3) (.lst [(.tup [(.c (.str [115, 116, 114, 111, 110, 103])), (.tup [])]), (.tup [(.c (.str [115, 116, 114, 111, 110, 103])), (.v 0), (.c (.str [97]))]), (.tup [(.c (.str [115, 116, 114, 111, 110, 103])), (.v 2)])])),
  .asg 3 false (.bin .add (.v 3) (.lst [(.tup [(.c (.str [115, 108, 97, 110, 116])), (.pr .list [(.v 0)])]), (.tup [(.c (.str [115, 108, 97, 110, 116])), (.tup [(.v 0)])])])),
  .asg 3 false (.bin .add (.v 3) (.lst [(.tup [(.c (.str [108, 105, 110, 107])), (.v 0)]), (.tup [(.c (.str [108, 105, 110, 107])), (.v 0), (.c (.str []))]), (.tup [(.c (.str [108, 105, 110, 107])), (.v 0), (.c (.str [65]))])])),
  .asg 3 false (.bin .add (.v 3) (.lst [(.tup [(.c (.str [108, 105, 110, 107])), (.v 0), (.c (.str [97, 32, 98]))]), (.tup [(.c (.str [108, 105, 110, 107])), (.v 0), (.c (.int 5))])])),
  .asg 3 false (.bin .add (.v 3) (.lst [(.tup [(.c (.str [108, 105, 110, 107])), (.v 0), (.c (.str [97, 60]))]), (.tup [(.c (.str [115, 116, 114, 111, 110, 103])), (.tup [(.tup [(.c (.str [115, 116, 114, 111, 110, 103])), (.tup [(.tup [(.c (.str [116, 101, 120, 116])), (.c (.str [97]))])])])])]), (.c .non), (.c (.int 5))])),
  .asg 3 false (.bin .add (.v 3) (.lst [(.c (.bl true)), (.tup []), (.lst [(.c (.str [116, 101, 120, 116])), (.c (.str [97]))])])),
  .asg 4 false (.tup [(.c (.str [115, 108, 97, 110, 116])), (.tup [(.tup [(.c (.str [99, 111, 100, 101])), (.c (.str [97]))]), (.tup [(.c (.str [108, 105, 110, 107])), (.tup [(.tup [(.c (.str [115, 108, 97, 110, 116])), (.tup [(.tup [(.c (.str [116, 101, 120, 116])), (.c (.str [98]))])])])]), (.c (.str [97]))])])]),
  .ret (.bin .add (.v 3) (.lst [(.v 4), (.tup [(.c (.str [108, 105, 110, 107])), (.tup [(.tup [(.c (.str [115, 116, 114, 111, 110, 103])), (.tup [(.tup [(.c (.str [108, 105, 110, 107])), (.tup [(.tup [(.c (.str [116, 101, 120, 116])), (.c (.str [97]))])]), (.c (.str [98]))])])])]), (.c (.str [99]))]), (.tup [(.tup [(.c (.str [116, 101, 120, 116]))]), (.v 2)])]))]⟩
def ir_law_plain : Fn := ⟨1, 3, [
  .asg 1 false (.c (.str [])),
  .for (.nm 2) .seq [(.v 0)] [.iff (.cmp .isin (.idx (.v 2) (.c (.int 0))) (.tup [(.c (.str [116, 101, 120, 116])), (.c (.str [99, 111, 100, 101]))])) [.asg 1 false (.bin .add (.v 1) (.idx (.v 2) (.c (.int 1))))] [.asg 1 false (.bin .add (.v 1) (.call 39 [(.idx (.v 2) (.c (.int 1)))]))], .iff (.cmp .eq (.idx (.v 2) (.c (.int 0))) (.c (.str [108, 105, 110, 107]))) [.asg 1 false (.bin .add (.bin .add (.bin .add (.v 1) (.c (.str [32, 60]))) (.idx (.v 2) (.c (.int 2)))) (.c (.str [62])))] []],
  .ret (.v 1)]⟩
def ir_law_quotes : Fn := ⟨1, 3, [
  .asg 1 false (.tup [(.c (.str [112, 97, 114])), (.tup [(.tup [(.c (.str [116, 101, 120, 116])), (.c (.str [97]))])])]),
  .for (.nm 2) .rng1 [(.v 0)] [.asg 1 false (.tup [(.c (.str [113, 117, 111, 116, 101])), (.tup [(.v 1)])])],
  .ret (.v 1)]⟩
def ir_law_same : Fn := ⟨2, 4, [
  .iff (.pr (.isT false false false true false) [(.v 1)]) [.iff (.or (.not (.pr (.isT false false false true false) [(.v 0)])) (.cmp .ne (.pr .len [(.v 0)]) (.pr .len [(.v 1)]))) [.ret (.c (.bl false))] [], .ret (.pr .all [(.lc (.tp [(.nm 2), (.nm 3)]) .zip [(.v 0), (.v 1)] [] (.call 46 [(.v 2), (.v 3)]))])] [],
  .iff (.cmp .is (.v 1) (.c .non)) [.ret (.cmp .is (.v 0) (.c .non))] [],
  .iff (.or (.pr (.isT true false false false false) [(.v 1)]) (.pr (.isT true false false false false) [(.v 0)])) [.ret (.and (.pr (.isT true false false false false) [(.v 1)]) (.and (.pr (.isT true false false false false) [(.v 0)]) (.cmp .eq (.v 0) (.v 1))))] [],
  .ret (.and (.pr (.isT false true true false false) [(.v 0)]) (.cmp .eq (.v 0) (.v 1)))]⟩
def ir_law_text : Fn := ⟨1, 4, [
  .asg 1 false (.c (.str [32, 33, 34, 35, 36, 38, 39, 40, 41, 42, 43, 44, 45, 46, 47, 48, 49, 50, 51, 52, 53, 54, 55, 56, 57, 58, 59, 60, 61, 62, 63, 64, 65, 66, 67, 68, 69, 70, 71, 72, 73, 74, 75, 76, 77, 78, 79, 80, 81, 82, 83, 84, 85, 86, 87, 88, 89, 90, 91, 92, 93, 94, 95, 96, 97, 98, 99, 100, 101, 102, 103, 104, 105, 106, 107, 108, 109, 110, 111, 112, 113, 114, 115, 116, 117, 118, 119, 120, 121, 122, 123, 124, 125, 126])),
  .iff (.cmp .eq (.bin .mod (.v 0) (.c (.int 3))) (.c (.int 0))) [.asg 1 false (.c (.str [92, 42, 95, 96, 91, 93, 35, 62, 45, 124, 60, 38, 49, 32, 46]))] [],
  .asg 2 false (.bin .add (.c (.int 1)) (.call 32 [(.v 0), (.c (.int 9973)), (.c (.int 5))])),
  .iff (.cmp .eq (.call 32 [(.v 0), (.c (.int 9967)), (.c (.int 9))]) (.c (.int 0))) [.asg 2 false (.bin .add (.c (.int 1)) (.call 32 [(.v 0), (.c (.int 9949)), (.c (.int 30))]))] [],
  .ret (.me .join (.c (.str [])) [(.lc (.nm 3) .rng1 [(.v 2)] [] (.idx (.v 1) (.call 32 [(.bin .add (.v 0) (.bin .mul (.c (.int 7)) (.v 3))), (.c (.int 9941)), (.pr .len [(.v 1)])])))])]⟩
def ir_outlines_bounds : Fn := ⟨2, 7, [
  .asg 2 false (.lc (.tp [(.nm 5), (.nm 6)]) .enum [(.v 0)] [(.cmp .eq (.idx (.v 6) (.c (.int 0))) (.c (.str [104, 101, 97, 100])))] (.v 5)),
  .iff (.not (.chain .le .lt (.c (.int 0)) (.v 1) (.pr .len [(.v 2)]))) [.raise 0] [],
  .asg 3 false (.idx (.idx (.v 0) (.idx (.v 2) (.v 1))) (.c (.int 1))),
  .asg 4 false (.lc (.nm 5) .seq [(.slLo (.v 2) (.bin .add (.v 1) (.c (.int 1))))] [(.cmp .le (.idx (.idx (.v 0) (.v 5)) (.c (.int 1))) (.v 3))] (.v 5)),
  .ret (.tup [(.idx (.v 2) (.v 1)), (.pr .minD [(.v 4), (.pr .len [(.v 0)])])])]⟩
def ir_outlines_put_behind : Fn := ⟨3, 5, [
  .tgt (.tp [(.nm 3), (.nm 4)]) (.call 88 [(.v 0), (.v 1)]),
  .ret (.bin .add (.bin .add (.slHi (.v 0) (.v 4)) (.v 2)) (.slLo (.v 0) (.v 4)))]⟩
def ir_outlines_section : Fn := ⟨2, 4, [
  .tgt (.tp [(.nm 2), (.nm 3)]) (.call 88 [(.v 0), (.v 1)]),
  .ret (.slLH (.v 0) (.v 2) (.v 3))]⟩
def ir_outlines_without : Fn := ⟨2, 4, [
  .tgt (.tp [(.nm 2), (.nm 3)]) (.call 88 [(.v 0), (.v 1)]),
  .ret (.bin .add (.slHi (.v 0) (.v 2)) (.slLo (.v 0) (.v 3)))]⟩
end MT
namespace MT
def mix (c p m : Int) : Int := c * 48271 % p * (c * 48271 % p + 7) % p % m
theorem mix_nn {c p m : Int} (hm : 0 < m) : 0 ≤ mix c p m := Int.emod_nonneg _ (by omega)
theorem mix_lt {c p m : Int} (hm : 0 < m) : mix c p m < m := Int.emod_lt_of_pos _ hm
def cellS (ns : List Int) (k : Nat) : Int := ns.getD k 0
variable {T : Tab}
theorem mix_at (hT : T 32 = some (.ir ir_law_mix)) {c p m : Int} (hp : 0 < p) (hp2 : p < 100000) (hm : 0 < m) : At T 1 32 [.int c, .int p, .int m] (.ok (.int (mix c p m))) := by
  refine At.step hT fun n _ => evF_rt rfl ?_
  have h1 : 0 ≤ c * 48271 % p := Int.emod_nonneg _ (by omega)
  have h2 : c * 48271 % p < p := Int.emod_lt_of_pos _ hp
  have s1 : (smallI (c * 48271 % p) || smallI (c * 48271 % p + 7)) = true := by
    have : smallI (c * 48271 % p) = true := by unfold smallI; exact decide_eq_true (by omega)
    rw [this]; rfl
  have s2 : (smallI c || smallI 48271) = true := by
    have : smallI 48271 = true := by decide
    rw [this, Bool.or_true]
  simp [ir_law_mix, start, evSs_cons, rdB, rd, put, mul_ii s1, mul_ii s2, mod_ii hp, mod_ii hm, mix]
theorem cell_at (hT : T 4 = some (.ir ir_law_cell)) (ns : List Int) (k : Nat) : At T 1 4 [.scr ns, .int k] (.ok (.int (cellS ns k))) := by
  refine At.step hT fun n _ => evF_rt rfl ?_
  by_cases h : k < ns.length
  · have h1 : ns[k]? = some ns[k] := List.getElem?_eq_getElem h
    simp [ir_law_cell, start, evSs_cons, rdB, rd, h, idx_scr h1, cellS]
  · have h1 : ns[k]? = none := List.getElem?_eq_none (by omega)
    simp [ir_law_cell, start, evSs_cons, rdB, rd, h, cellS, h1]
def signsA : List Nat := [32, 33, 34, 35, 36, 38, 39, 40, 41, 42, 43, 44, 45, 46, 47, 48, 49, 50, 51, 52, 53, 54, 55, 56, 57, 58, 59, 60, 61, 62, 63, 64, 65, 66, 67, 68, 69, 70, 71, 72, 73, 74, 75, 76, 77, 78, 79, 80, 81, 82, 83, 84, 85, 86, 87, 88, 89, 90, 91, 92, 93, 94, 95, 96, 97, 98, 99, 100, 101, 102, 103, 104, 105, 106, 107, 108, 109, 110, 111, 112, 113, 114, 115, 116, 117, 118, 119, 120, 121, 122, 123, 124, 125, 126]
def signsB : List Nat := [92, 42, 95, 96, 91, 93, 35, 62, 45, 124, 60, 38, 49, 32, 46]
def signsC : List Nat := [97, 98, 99, 100, 101, 102, 103, 104, 105, 106, 107, 108, 109, 110, 111, 112, 113, 114, 115, 116, 117, 118, 119, 120, 121, 122, 48, 49, 50, 51, 52, 53, 54, 55, 56, 57, 58, 47, 46, 45, 35, 63, 61]
def signsOf (c : Int) : List Nat := if c % 3 = 0 then signsB else signsA
def manyOf (c : Int) : Int := if mix c 9967 9 = 0 then 1 + mix c 9949 30 else 1 + mix c 9973 5
/-- signs drawn from a row of signs -/
def drawn (sg : List Nat) (c s p : Int) (n : Nat) : List Nat := (List.range n).map fun (k : Nat) => sg.getD (mix (c + s * k) p sg.length).toNat 0
def textS (c : Int) : List Nat := drawn (signsOf c) c 7 9941 (manyOf c).toNat
def addrS (c : Int) : List Nat := drawn signsC c 5 9931 (1 + mix c 9929 6).toNat
theorem drawn_len (sg : List Nat) (c s p : Int) (n : Nat) : (drawn sg c s p n).length = n := by simp [drawn]
theorem drawn_get {sg : List Nat} (h : 0 < sg.length) (c p : Int) : sg[(mix c p sg.length).toNat]? = some (sg.getD (mix c p sg.length).toNat 0) := by
  have h1 := mix_nn (c := c) (p := p) (m := sg.length) (by omega)
  have h2 := mix_lt (c := c) (p := p) (m := sg.length) (by omega)
  have h3 : (mix c p sg.length).toNat < sg.length := by omega
  rw [List.getElem?_eq_getElem h3, List.getD_eq_getElem?_getD, List.getElem?_eq_getElem h3]
  rfl
theorem drawn_mem {sg : List Nat} (h : 0 < sg.length) {c s p : Int} {n x : Nat} (hx : x ∈ drawn sg c s p n) : x ∈ sg := by
  unfold drawn at hx
  obtain ⟨k, _, rfl⟩ := List.mem_map.mp hx
  exact List.mem_of_getElem? (drawn_get h _ _)
theorem manyOf_le (c : Int) : 1 ≤ manyOf c ∧ manyOf c ≤ 30 := by
  unfold manyOf
  have h1 := mix_nn (c := c) (p := 9949) (m := 30) (by omega)
  have h2 := mix_lt (c := c) (p := 9949) (m := 30) (by omega)
  have h3 := mix_nn (c := c) (p := 9973) (m := 5) (by omega)
  have h4 := mix_lt (c := c) (p := 9973) (m := 5) (by omega)
  split <;> omega
/-- ''.join([signs[_law_mix(cell + s * k, p, len(signs))] for k in range(n)]) -/
theorem drawn_lc {cl : CL} {cond : List E} {el : E} {ρ : Env} {v : Nat} {sg : List Nat} {c s p : Int} {n : Nat} (hn : n < 1000) (hc : ∀ ρ, evC cl cond ρ = .ok true)
    (he : ∀ k : Nat, k < n → ∃ ρ1, put (wipeE ρ [v]) v (.val (.int k)) = .ok ρ1 ∧ evE cl el ρ1 = .ok (.str [sg.getD (mix (c + s * k) p sg.length).toNat 0])) :
    lcGo (.nm v) (evC cl cond) (evE cl el) (wipeE ρ [v]) ((List.range n).map fun (k : Nat) => .int k) = .ok ((((drawn sg c s p n).map fun x => [x])).map D.str) := by
  rw [lcGo_map (g := fun d => match d with
    | .int k => .str [sg.getD (mix (c + s * k) p sg.length).toNat 0]
    | d => d)]
  · unfold drawn
    rw [List.map_map, List.map_map, List.map_map]
    rfl
  · intro x hx
    obtain ⟨k, hk, rfl⟩ := List.mem_map.mp hx
    obtain ⟨ρ1, h1, h2⟩ := he k (List.mem_range.mp hk)
    exact ⟨ρ1, h1, hc ρ1, h2⟩
theorem join_drawn (s : List Nat) (h : s.length ≤ 1000) : prD .join [.str [], .lst ((s.map fun x => [x]).map D.str)] = .ok (.str s) := by
  rw [join_l, joinL_nil, flat_one]
  rw [List.length_map, List.length_nil, Nat.mul_zero, Nat.add_zero, List.map_map]
  have : ∀ s : List Nat, (s.map (List.length ∘ fun x => [x])).sum = s.length := fun s => by
    induction s with
    | nil => rfl
    | cons a s ih => rw [List.map_cons, List.sum_cons, ih, List.length_cons]; show 1 + s.length = _; omega
  rw [this]
  omega
theorem text_at (hT : T 32 = some (.ir ir_law_mix)) (hX : T 56 = some (.ir ir_law_text)) (c : Int) : At T 2 56 [.int c] (.ok (.str (textS c))) := by
  refine At.step hX fun n hn => evF_st (ρ := [.val (.int c), .un, .un, .un]) rfl rfl ?_
  have mx : ∀ {c p m : Int}, 0 < p → p < 100000 → 0 < m → callN T n 32 [.int c, .int p, .int m] = .ok (.int (mix c p m)) := fun h1 h2 h3 => mix_at hT h1 h2 h3 n hn
  obtain ⟨m1, m2⟩ := manyOf_le c
  have hsg : 0 < (signsOf c).length := by unfold signsOf; split <;> decide
  have hsl : (signsOf c).length ≤ 16777216 := by unfold signsOf; split <;> decide
  refine ss_nx (ρ' := [.val (.int c), .val (.str signsA), .un, .un]) (by simp [put, signsA]) ?_
  refine ss_nx (ρ' := [.val (.int c), .val (.str (signsOf c)), .un, .un]) (by by_cases h : c % 3 = 0 <;> simp [evSs_cons, rdB, rd, put, mod_ii, h, signsOf, signsB]) ?_
  refine ss_nx (ρ' := [.val (.int c), .val (.str (signsOf c)), .val (.int (1 + mix c 9973 5)), .un]) (by simp [rdB, rd, put, mx]) ?_
  refine ss_nx (ρ' := [.val (.int c), .val (.str (signsOf c)), .val (.int (manyOf c)), .un]) (by by_cases h : mix c 9967 9 = 0 <;> simp [evSs_cons, rdB, rd, put, mx, h, manyOf]) ?_
  refine ss_rt ?_
  simp only [evS_ret, bor_me, evE_me, bor_c, evE_c, bnd_ok, strK_s, evBs_cons, bor_lc, evE_lc, evEs_cons, evE_v, rd, List.getElem?_cons_succ, List.getElem?_cons_zero, evEs_nil, rng1_i (i := manyOf c) (by omega) (by omega), slots_nm]
  rw [drawn_lc (sg := signsOf c) (c := c) (s := 7) (p := 9941) (by omega) (fun _ => rfl)]
  · have hz : sz (List.map D.str (List.map (fun x => [x]) (drawn (signsOf c) c 7 9941 (manyOf c).toNat))).length = true := sz_of (by rw [List.length_map, List.length_map, drawn_len]; omega)
    simp only [noEx_k, bnd_ok, hz, guardR_t, evBs_nil]
    rw [join_drawn _ (by rw [drawn_len]; omega)]
    rfl
  · intro k hk
    refine ⟨[.val (.int c), .val (.str (signsOf c)), .val (.int (manyOf c)), .val (.int k)], by simp [wipeE, put], ?_⟩
    have hi := drawn_get hsg (c + 7 * k) 9941
    have nn := mix_nn (c := c + 7 * k) (p := 9941) (m := (signsOf c).length) (by omega)
    have hi2 : idxD (.str (signsOf c)) (.int (mix (c + 7 * k) 9941 (signsOf c).length)) = .ok (.str [(signsOf c).getD (mix (c + 7 * k) 9941 (signsOf c).length).toNat 0]) := by
      have := idx_s hsl hi
      rw [Int.toNat_of_nonneg nn] at this
      exact this
    have sm : (smallI 7 || smallI k) = true := rfl
    simp only [evE_idx, bor_v, rdB, List.getElem?_cons_succ, List.getElem?_cons_zero, bnd_ok, evE_call, evEs_cons, evE_bin, bor_bin, evE_v, evE_c, bor_c, mul_ii sm, add_ii, evE_pr, evBs_cons, evBs_nil, evEs_nil, len_s hsl, mx (c := c + 7 * k) (p := 9941) (by decide) (by decide) (show (0:Int) < (signsOf c).length by omega), hi2]
theorem addr_at (hT : T 32 = some (.ir ir_law_mix)) (hX : T 0 = some (.ir ir_law_address)) (c : Int) : At T 2 0 [.int c] (.ok (.str (addrS c))) := by
  refine At.step hX fun n hn => evF_st (ρ := [.val (.int c), .un, .un]) rfl rfl ?_
  have mx : ∀ {c p m : Int}, 0 < p → p < 100000 → 0 < m → callN T n 32 [.int c, .int p, .int m] = .ok (.int (mix c p m)) := fun h1 h2 h3 => mix_at hT h1 h2 h3 n hn
  have m1 := mix_nn (c := c) (p := 9929) (m := 6) (by omega)
  have m2 := mix_lt (c := c) (p := 9929) (m := 6) (by omega)
  refine ss_nx (ρ' := [.val (.int c), .val (.str signsC), .un]) (by simp [put, signsC]) ?_
  refine ss_rt ?_
  simp only [evS_ret, bor_me, evE_me, bor_c, evE_c, bnd_ok, strK_s, evBs_cons, bor_lc, evE_lc, evEs_cons, evE_v, rd, List.getElem?_cons_succ, List.getElem?_cons_zero, evEs_nil, evE_bin, bor_call, evE_call, mx (c := c) (p := 9929) (m := 6) (by decide) (by decide) (by decide), add_ii, rng1_i (i := 1 + mix c 9929 6) (by omega) (by omega), slots_nm]
  rw [drawn_lc (sg := signsC) (c := c) (s := 5) (p := 9931) (by omega) (fun _ => rfl)]
  · have hz : sz (List.map D.str (List.map (fun x => [x]) (drawn signsC c 5 9931 (1 + mix c 9929 6).toNat))).length = true := sz_of (by rw [List.length_map, List.length_map, drawn_len]; omega)
    simp only [noEx_k, bnd_ok, hz, guardR_t, evBs_nil]
    rw [join_drawn _ (by rw [drawn_len]; omega)]
    rfl
  · intro k hk
    refine ⟨[.val (.int c), .val (.str signsC), .val (.int k)], by simp [wipeE, put], ?_⟩
    have hi := drawn_get (sg := signsC) (by decide) (c + 5 * k) 9931
    have nn := mix_nn (c := c + 5 * k) (p := 9931) (m := signsC.length) (by decide)
    have hi2 : idxD (.str signsC) (.int (mix (c + 5 * k) 9931 43)) = .ok (.str [signsC.getD (mix (c + 5 * k) 9931 signsC.length).toNat 0]) := by
      have := idx_s (s := signsC) (by decide) hi
      rw [Int.toNat_of_nonneg nn] at this
      exact this
    have sm : (smallI 5 || smallI k) = true := rfl
    simp only [evE_idx, bor_v, rdB, List.getElem?_cons_succ, List.getElem?_cons_zero, bnd_ok, evE_call, evEs_cons, evE_bin, bor_bin, evE_v, evE_c, bor_c, mul_ii sm, add_ii, evEs_nil, mx (c := c + 5 * k) (p := 9931) (m := 43) (by decide) (by decide) (by decide), hi2]
end MT
namespace MT
/-! ### lines -/
inductive Wd where | text | code | strong | slant | link
  deriving DecidableEq
def Wd.s : Wd → List Nat
  | .text => [116, 101, 120, 116]
  | .code => [99, 111, 100, 101]
  | .strong => [115, 116, 114, 111, 110, 103]
  | .slant => [115, 108, 97, 110, 116]
  | .link => [108, 105, 110, 107]
theorem Wd.s_inj {a b : Wd} (h : a.s = b.s) : a = b := by cases a <;> cases b <;> first | rfl | (exact absurd h (by decide))
theorem s_text : Wd.s .text = [116, 101, 120, 116] := rfl
theorem s_code : Wd.s .code = [99, 111, 100, 101] := rfl
theorem s_link : Wd.s .link = [108, 105, 110, 107] := rfl
inductive Pc where
  | text (s : List Nat) | code (s : List Nat) | strong (l : List Pc) | slant (l : List Pc) | link (l : List Pc) (a : List Nat)
mutual
def Pc.d : Pc → D
  | .text s => .tup [.str (Wd.s .text), .str s]
  | .code s => .tup [.str (Wd.s .code), .str s]
  | .strong l => .tup [.str (Wd.s .strong), .tup (Pc.ds l)]
  | .slant l => .tup [.str (Wd.s .slant), .tup (Pc.ds l)]
  | .link l a => .tup [.str (Wd.s .link), .tup (Pc.ds l), .str a]
def Pc.ds : List Pc → List D
  | [] => []
  | p :: ps => Pc.d p :: Pc.ds ps
end
def Pc.w : Pc → Wd
  | .text _ => .text | .code _ => .code | .strong _ => .strong | .slant _ => .slant | .link _ _ => .link
theorem Pc.ds_map : ∀ l : List Pc, Pc.ds l = l.map Pc.d
  | [] => rfl
  | p :: ps => by rw [Pc.ds, Pc.ds_map ps]; rfl
theorem Pc.ds_app (a b : List Pc) : Pc.ds (a ++ b) = Pc.ds a ++ Pc.ds b := by rw [Pc.ds_map, Pc.ds_map, Pc.ds_map, List.map_append]
theorem Pc.ds_len (a : List Pc) : (Pc.ds a).length = a.length := by rw [Pc.ds_map, List.length_map]
def wordL : List Wd := [.text, .text, .strong, .slant, .code, .link, .text]
def wordAt (i : Int) : Wd := wordL.getD i.toNat .text
def lastText (acc : List Pc) : Bool := match acc.getLast? with
  | some p => decide (p.w = .text)
  | none => false
def drawWord (wi : List Wd) (acc : List Pc) (w : Wd) : Wd := if w ∈ wi ∨ (w = .text ∧ lastText acc = true) then .code else w
def mkPc (rec : Int → List Wd → List Pc) (seed : Int) (wi : List Wd) : Wd → Pc
  | .text => .text (textS (seed + 1))
  | .code => .code (textS (seed + 1))
  | .link => .link (rec (seed + 2) (wi ++ [.link])) (addrS seed)
  | .strong => .strong (rec (seed + 3) (wi ++ [.strong]))
  | .slant => .slant (rec (seed + 3) (wi ++ [.slant]))
def primeAt (n : Nat) : Int := [9907, 9769, 9767, 9749].getD n 0
def wordOf (c : Int) (wi : List Wd) (acc : List Pc) (k : Nat) : Wd := drawWord wi acc (wordAt (mix (c + 13 * k) (primeAt wi.length) 7))
def lineGo (rec : Int → List Wd → List Pc) (c : Int) (wi : List Wd) (acc : List Pc) (k : Nat) : List Pc := acc ++ [mkPc rec (c + 13 * k) wi (wordOf c wi acc k)]
def lineN (c : Int) : Nat := (1 + mix c 9923 3).toNat
def lineS : Nat → Int → List Wd → List Pc
  | 0, _, _ => []
  | n + 1, c, wi => (List.range (lineN c)).foldl (lineGo (lineS n) c wi) []
structure WiOk (wi : List Wd) : Prop where
  nd : wi.Nodup
  mem : ∀ w ∈ wi, w = .strong ∨ w = .slant ∨ w = .link
def wiD (wi : List Wd) : List D := (wi.map Wd.s).map .str
theorem WiOk.len {wi : List Wd} (h : WiOk wi) : wi.length ≤ 3 := by
  have : wi.length ≤ [Wd.strong, .slant, .link].length := List.Nodup.length_le_of_subset h.nd fun w hw => by
    rcases h.mem w hw with rfl | rfl | rfl <;> simp
  exact this
theorem WiOk.more {wi : List Wd} (h : WiOk wi) {w : Wd} (hw : w ∉ wi) (hk : w = .strong ∨ w = .slant ∨ w = .link) : WiOk (wi ++ [w]) := by
  refine ⟨List.nodup_append.mpr ⟨h.nd, by simp, fun a ha b hb => ?_⟩, fun x hx => ?_⟩
  · rintro rfl
    rw [List.mem_singleton.mp hb] at ha
    exact hw ha
  · rcases List.mem_append.mp hx with hx | hx
    · exact h.mem x hx
    · rw [List.mem_singleton.mp hx]; exact hk
theorem wordOf_in {c : Int} {wi : List Wd} {acc : List Pc} {k : Nat} {w : Wd} (h : wordOf c wi acc k = w) (hw : w ≠ .code) : w ∉ wi := by
  unfold wordOf drawWord at h
  split at h
  · exact absurd h.symm hw
  · rename_i q
    subst h
    exact fun z => q (.inl z)
theorem in_strs (s : List Nat) (xs : List (List Nat)) : cmpD .isin (.str s) (.tup (xs.map .str)) = .ok (.bl (decide (s ∈ xs))) := by
  show (guardR (true && (xs.map D.str).all flat) (R.ok ((xs.map D.str).any fun y => D.eqv y (.str s)))).bind _ = _
  have e1 : (xs.map D.str).all flat = true := by
    rw [List.all_map]
    exact List.all_eq_true.mpr fun x _ => rfl
  rw [e1]
  have e2 : ((xs.map D.str).any fun y => D.eqv y (.str s)) = decide (s ∈ xs) := by
    rw [List.any_map]
    clear e1
    induction xs with
    | nil => rfl
    | cons x xs ih =>
      rw [List.any_cons, ih]
      show ((x == s) || decide (s ∈ xs)) = _
      by_cases h : x = s
      · subst h; simp
      · have h' : ¬ s = x := fun e => h e.symm
        simp [h, h']
  rw [e2]
  rfl
theorem mem_wi (w : Wd) (wi : List Wd) : decide (w.s ∈ wi.map Wd.s) = decide (w ∈ wi) := by
  by_cases h : w ∈ wi
  · rw [decide_eq_true h, decide_eq_true (List.mem_map.mpr ⟨w, h, rfl⟩)]
  · rw [decide_eq_false h, decide_eq_false]
    intro hm
    obtain ⟨x, hx, e⟩ := List.mem_map.mp hm
    rw [Wd.s_inj e] at hx
    exact h hx
theorem idx_last {xs : List D} {d : D} : idxD (.lst (xs ++ [d])) (.int (-1)) = .ok d := by
  have : (ixN (xs ++ [d]).length (-1)).bind (fun j => (xs ++ [d])[j]?) = some d := by
    unfold ixN
    rw [if_neg (by omega), if_pos (by simp; omega), Option.bind_some]
    have e : ((-1 : Int) + ((xs ++ [d]).length : Nat)).toNat = xs.length := by simp; omega
    rw [e]
    simp
  show (match (ixN (xs ++ [d]).length (-1)).bind fun j => (xs ++ [d])[j]? with
    | some d => R.ok d
    | none => R.no) = _
  rw [this]
theorem idx_ti {xs : List D} {i : Int} {d : D} (h0 : 0 ≤ i) (h : xs[i.toNat]? = some d) : idxD (.tup xs) (.int i) = .ok d := by
  have := idx_t h
  rw [Int.toNat_of_nonneg h0] at this
  exact this
variable {T : Tab}
structure DrL (T : Tab) : Prop where
  mix : T 32 = some (.ir ir_law_mix)
  text : T 56 = some (.ir ir_law_text)
  addr : T 0 = some (.ir ir_law_address)
  line : T 25 = some (.ir ir_law_line)
theorem Pc.head_d (p : Pc) : idxD p.d (.int 0) = .ok (.str p.w.s) := by cases p <;> rfl
theorem last_test {cl : CL} {ρ : Env} {acc : List Pc} (h : ρ[2]? = some (.own (Pc.ds acc))) : evT cl (.and (.v 2) (.cmp .eq (.idx (.idx (.v 2) (.neg (.c (.int 1)))) (.c (.int 0))) (.c (.str [116, 101, 120, 116])))) ρ = .ok (lastText acc) := by
  rcases List.eq_nil_or_concat acc with rfl | ⟨l, p, rfl⟩
  · simp [rdB, h, Pc.ds, lastText]
  · have e : Pc.ds (l ++ [p]) = Pc.ds l ++ [p.d] := by rw [Pc.ds_app]; rfl
    rw [List.concat_eq_append, e] at h
    have hw : (p.w.s == [116, 101, 120, 116]) = decide (p.w = .text) := by cases p <;> rfl
    have ne : (Pc.ds l ++ [p.d]).isEmpty = false := by simp
    simp only [evT_and, evT_v, rdB, h, bnd_ok, truth_l, ne, Bool.not_false, if_true, evT_cmp, evE_cmp, bor_idx, evE_idx, bor_v, evE_neg, evE_c, intD_i, idx_last, Pc.head_d, bor_c, eq_ss, hw, truth_b, List.concat_eq_append, lastText, List.getLast?_append, List.getLast?_singleton, Option.some_or]
theorem line_word {cl : CL} (mx : ∀ {c p m : Int}, 0 < p → p < 100000 → 0 < m → cl 32 [.int c, .int p, .int m] = .ok (.int (mix c p m))) {c : Int} {wi : List Wd} (ok : WiOk wi) {acc : List Pc} {k : Nat} {a b d : SV} {rest : List S} {r : R Fl}
    (h : evSs cl rest [.val (.int c), .val (.tup (wiD wi)), .own (Pc.ds acc), .val (.int k), .val (.int (c + 13 * k)), .val (.int (primeAt wi.length)), .val (.str (wordOf c wi acc k).s)] = r) :
    evSs cl (.asg 4 false (.bin .add (.v 0) (.bin .mul (.c (.int 13)) (.v 3))) :: .asg 5 false (.idx (.tup [(.c (.int 9907)), (.c (.int 9769)), (.c (.int 9767)), (.c (.int 9749))]) (.pr .len [(.v 1)])) :: .asg 6 false (.idx (.tup [(.c (.str [116, 101, 120, 116])), (.c (.str [116, 101, 120, 116])), (.c (.str [115, 116, 114, 111, 110, 103])), (.c (.str [115, 108, 97, 110, 116])), (.c (.str [99, 111, 100, 101])), (.c (.str [108, 105, 110, 107])), (.c (.str [116, 101, 120, 116]))]) (.call 32 [(.v 4), (.v 5), (.c (.int 7))])) :: .iff (.or (.cmp .isin (.v 6) (.v 1)) (.and (.cmp .eq (.v 6) (.c (.str [116, 101, 120, 116]))) (.and (.v 2) (.cmp .eq (.idx (.idx (.v 2) (.neg (.c (.int 1)))) (.c (.int 0))) (.c (.str [116, 101, 120, 116])))))) [.asg 6 false (.c (.str [99, 111, 100, 101]))] [] :: rest)
      [.val (.int c), .val (.tup (wiD wi)), .own (Pc.ds acc), .val (.int k), a, b, d] = r := by
  have sm : (smallI 13 || smallI k) = true := rfl
  have hlen : (wiD wi).length = wi.length := by simp [wiD]
  have hl := ok.len
  have hp : ([D.int 9907, .int 9769, .int 9767, .int 9749] : List D)[wi.length]? = some (.int (primeAt wi.length)) := by
    unfold primeAt
    match wi.length, hl with
    | 0, _ => rfl
    | 1, _ => rfl
    | 2, _ => rfl
    | 3, _ => rfl
  have pp : 0 < primeAt wi.length ∧ primeAt wi.length < 100000 := by
    unfold primeAt
    match wi.length, hl with
    | 0, _ => decide
    | 1, _ => decide
    | 2, _ => decide
    | 3, _ => decide
  have m1 := mix_nn (c := c + 13 * k) (p := primeAt wi.length) (m := 7) (by omega)
  have m2 := mix_lt (c := c + 13 * k) (p := primeAt wi.length) (m := 7) (by omega)
  have hw : ([D.str [116, 101, 120, 116], .str [116, 101, 120, 116], .str [115, 116, 114, 111, 110, 103], .str [115, 108, 97, 110, 116], .str [99, 111, 100, 101], .str [108, 105, 110, 107], .str [116, 101, 120, 116]] : List D)[(mix (c + 13 * k) (primeAt wi.length) 7).toNat]? = some (.str (wordAt (mix (c + 13 * k) (primeAt wi.length) 7)).s) := by
    unfold wordAt
    have h7 : (mix (c + 13 * k) (primeAt wi.length) 7).toNat < 7 := by omega
    match (mix (c + 13 * k) (primeAt wi.length) 7).toNat, h7 with
    | 0, _ => rfl
    | 1, _ => rfl
    | 2, _ => rfl
    | 3, _ => rfl
    | 4, _ => rfl
    | 5, _ => rfl
    | 6, _ => rfl
  refine ss_nx (ρ' := [.val (.int c), .val (.tup (wiD wi)), .own (Pc.ds acc), .val (.int k), .val (.int (c + 13 * k)), b, d]) (by simp [rdB, rd, put, mul_ii sm]) ?_
  refine ss_nx (ρ' := [.val (.int c), .val (.tup (wiD wi)), .own (Pc.ds acc), .val (.int k), .val (.int (c + 13 * k)), .val (.int (primeAt wi.length)), d]) (by simp [rdB, rd, put, hlen, idx_t hp]) ?_
  refine ss_nx (ρ' := [.val (.int c), .val (.tup (wiD wi)), .own (Pc.ds acc), .val (.int k), .val (.int (c + 13 * k)), .val (.int (primeAt wi.length)), .val (.str (wordAt (mix (c + 13 * k) (primeAt wi.length) 7)).s)]) (by simp [rdB, rd, put, mx pp.1 pp.2, idx_ti m1 hw]) ?_
  refine ss_nx ?_ h
  have lt := last_test (cl := cl) (ρ := [.val (.int c), .val (.tup (wiD wi)), .own (Pc.ds acc), .val (.int k), .val (.int (c + 13 * k)), .val (.int (primeAt wi.length)), .val (.str (wordAt (mix (c + 13 * k) (primeAt wi.length) 7)).s)]) (acc := acc) rfl
  unfold wordOf
  generalize wordAt (mix (c + 13 * k) (primeAt wi.length) 7) = w at *
  have e1 : cmpD .isin (.str w.s) (.tup (wiD wi)) = .ok (.bl (decide (w ∈ wi))) := by
    rw [wiD, in_strs, mem_wi]
  have e2 : (w.s == [116, 101, 120, 116]) = decide (w = .text) := by cases w <;> rfl
  by_cases h1 : w ∈ wi
  · have ew : drawWord wi acc w = .code := if_pos (.inl h1)
    rw [ew]
    simp [rdB, e1, h1, evSs_cons, put, s_code]
  · by_cases h2 : w = .text
    · subst h2
      rw [s_text] at e1
      cases h3 : lastText acc with
      | true =>
        have ew : drawWord wi acc .text = .code := if_pos (.inr ⟨rfl, h3⟩)
        rw [ew]
        rw [evS_iff, evT_or, evT_and, lt]
        simp [rdB, e1, h1, evSs_cons, put, s_code, s_text, h3]
      | false =>
        have ew : drawWord wi acc .text = .text := if_neg fun z => by
          rcases z with z | ⟨_, z⟩
          · exact h1 z
          · rw [h3] at z; cases z
        rw [ew]
        rw [evS_iff, evT_or, evT_and, lt]
        simp [rdB, e1, h1, evSs_cons, put, s_code, s_text, h3]
    · have ew : drawWord wi acc w = w := if_neg fun z => by
        rcases z with z | ⟨z, _⟩
        · exact h1 z
        · exact h2 z
      rw [ew]
      rw [evS_iff, evT_or, evT_and, lt]
      simp [rdB, e1, h1, evSs_cons, put, e2, h2]
theorem text_code (w : Wd) : cmpD .isin (.str w.s) (.tup [.str [116, 101, 120, 116], .str [99, 111, 100, 101]]) = .ok (.bl (decide (w = .text ∨ w = .code))) := by cases w <;> rfl
theorem is_link (w : Wd) : (w.s == [108, 105, 110, 107]) = decide (w = .link) := by cases w <;> rfl
theorem wiD_more (wi : List Wd) (w : Wd) : wiD wi ++ [.str w.s] = wiD (wi ++ [w]) := by simp [wiD]
theorem line_acc (rec : Int → List Wd → List Pc) (c : Int) (wi : List Wd) : ∀ k, ((List.range k).foldl (lineGo rec c wi) []).length = k
  | 0 => rfl
  | k + 1 => by
    rw [List.range_succ, List.foldl_append]
    show ((List.range k).foldl (lineGo rec c wi) [] ++ [_]).length = _
    rw [List.length_append, line_acc rec c wi k]
    rfl
theorem lineN_le (c : Int) : 1 ≤ lineN c ∧ lineN c ≤ 3 := by
  have h1 := mix_nn (c := c) (p := 9923) (m := 3) (by omega)
  have h2 := mix_lt (c := c) (p := 9923) (m := 3) (by omega)
  unfold lineN
  omega
theorem full_wi {wi : List Wd} (ok : WiOk wi) (hl : wi.length = 3) {w : Wd} (hk : w = .strong ∨ w = .slant ∨ w = .link) : w ∈ wi := by
  apply Classical.byContradiction
  intro hw
  have := (ok.more hw hk).len
  simp at this
  omega
theorem line_step (t : DrL T) {m n : Nat} {c : Int} {wi : List Wd} (ok : WiOk wi) (hrec : ∀ (w : Wd) (c : Int), w ∉ wi → (w = .strong ∨ w = .slant ∨ w = .link) → wi.length < 3 → At T m 25 [.int c, .tup (wiD (wi ++ [w]))] (.ok (.tup (Pc.ds (lineS n c (wi ++ [w])))))) (hm : 2 ≤ m) :
    At T (m + 1) 25 [.int c, .tup (wiD wi)] (.ok (.tup (Pc.ds (lineS (n + 1) c wi)))) := by
  refine At.step t.line fun j hj => evF_st (ρ := [.val (.int c), .val (.tup (wiD wi)), .un, .un, .un, .un, .un]) rfl rfl ?_
  have mx : ∀ {c p m : Int}, 0 < p → p < 100000 → 0 < m → callN T j 32 [.int c, .int p, .int m] = .ok (.int (mix c p m)) := fun h1 h2 h3 => mix_at t.mix h1 h2 h3 j (by omega)
  have tx : ∀ c : Int, callN T j 56 [.int c] = .ok (.str (textS c)) := fun c => text_at t.mix t.text c j (by omega)
  have ax : ∀ c : Int, callN T j 0 [.int c] = .ok (.str (addrS c)) := fun c => addr_at t.mix t.addr c j (by omega)
  obtain ⟨n1, n2⟩ := lineN_le c
  refine ss_nx (ρ' := [.val (.int c), .val (.tup (wiD wi)), .own [], .un, .un, .un, .un]) (by simp [put]) ?_
  have hit : evEs (callN T j) [(.bin .add (.c (.int 1)) (.call 32 [(.v 0), (.c (.int 9923)), (.c (.int 3))]))] [.val (.int c), .val (.tup (wiD wi)), .own [], .un, .un, .un, .un] = .ok [.int (1 + mix c 9923 3)] := by simp [rd, mx]
  have m1 := mix_nn (c := c) (p := 9923) (m := 3) (by omega)
  have m2 := mix_lt (c := c) (p := 9923) (m := 3) (by omega)
  have hr : itD .rng1 [.int (1 + mix c 9923 3)] = .ok ((List.range (lineN c)).map fun (k : Nat) => .int k) := rng1_i (by omega) (by omega)
  have loop : ∀ body : List S, body = [.asg 4 false (.bin .add (.v 0) (.bin .mul (.c (.int 13)) (.v 3))), .asg 5 false (.idx (.tup [(.c (.int 9907)), (.c (.int 9769)), (.c (.int 9767)), (.c (.int 9749))]) (.pr .len [(.v 1)])), .asg 6 false (.idx (.tup [(.c (.str [116, 101, 120, 116])), (.c (.str [116, 101, 120, 116])), (.c (.str [115, 116, 114, 111, 110, 103])), (.c (.str [115, 108, 97, 110, 116])), (.c (.str [99, 111, 100, 101])), (.c (.str [108, 105, 110, 107])), (.c (.str [116, 101, 120, 116]))]) (.call 32 [(.v 4), (.v 5), (.c (.int 7))])), .iff (.or (.cmp .isin (.v 6) (.v 1)) (.and (.cmp .eq (.v 6) (.c (.str [116, 101, 120, 116]))) (.and (.v 2) (.cmp .eq (.idx (.idx (.v 2) (.neg (.c (.int 1)))) (.c (.int 0))) (.c (.str [116, 101, 120, 116])))))) [.asg 6 false (.c (.str [99, 111, 100, 101]))] [], .iff (.cmp .isin (.v 6) (.tup [(.c (.str [116, 101, 120, 116])), (.c (.str [99, 111, 100, 101]))])) [.app 2 (.tup [(.v 6), (.call 56 [(.bin .add (.v 4) (.c (.int 1)))])])] [.iff (.cmp .eq (.v 6) (.c (.str [108, 105, 110, 107]))) [.app 2 (.tup [(.v 6), (.call 25 [(.bin .add (.v 4) (.c (.int 2))), (.bin .add (.v 1) (.tup [(.v 6)]))]), (.call 0 [(.v 4)])])] [.app 2 (.tup [(.v 6), (.call 25 [(.bin .add (.v 4) (.c (.int 3))), (.bin .add (.v 1) (.tup [(.v 6)]))])])]]] →
      ∃ ρ', forGo (.nm 3) (evSs (callN T j) body) ((List.range (lineN c)).map fun (k : Nat) => D.int k) [.val (.int c), .val (.tup (wiD wi)), .own [], .un, .un, .un, .un] = .ok (.nx ρ') ∧ ∃ a b d e, ρ' = [.val (.int c), .val (.tup (wiD wi)), .own (Pc.ds (lineS (n + 1) c wi)), a, b, d, e] := by
    intro body hbody
    obtain ⟨ρ', e, p⟩ := forGo_P (t := .nm 3) (body := evSs (callN T j) body) (fun i ρ => ∃ a b d e, ρ = [.val (.int c), .val (.tup (wiD wi)), .own (Pc.ds ((List.range i).foldl (lineGo (lineS n) c wi) [])), a, b, d, e]) (xs := (List.range (lineN c)).map fun (k : Nat) => D.int k) 0 ⟨_, _, _, _, rfl⟩ (by
      rintro i d ρ hd ⟨a, b, e, f, rfl⟩
      rw [Nat.zero_add] at *
      have hi : i < lineN c := by
        have := (List.getElem?_eq_some_iff.mp hd).1
        simpa using this
      have ed : d = .int i := by
        rw [List.getElem?_map, List.getElem?_range hi] at hd
        exact (Option.some.inj hd).symm
      subst ed
      refine ⟨_, rfl, ?_⟩
      have ha := line_acc (lineS n) c wi i
      rw [List.range_succ, List.foldl_append]
      generalize (List.range i).foldl (lineGo (lineS n) c wi) [] = acc at *
      show ∃ ρ2 : Env, _ ∧ ∃ a b d e, ρ2 = [SV.val (.int c), .val (.tup (wiD wi)), .own (Pc.ds (acc ++ [mkPc (lineS n) (c + 13 * i) wi (wordOf c wi acc i)])), a, b, d, e]
      have hal : (Pc.ds acc).length < 16777216 := by rw [Pc.ds_len, ha]; omega
      refine ⟨[.val (.int c), .val (.tup (wiD wi)), .own (Pc.ds (acc ++ [mkPc (lineS n) (c + 13 * i) wi (wordOf c wi acc i)])), .val (.int i), .val (.int (c + 13 * i)), .val (.int (primeAt wi.length)), .val (.str (wordOf c wi acc i).s)], .inl ?_, _, _, _, _, rfl⟩
      rw [hbody]
      refine line_word mx ok ?_
      rw [Pc.ds_app]
      have win := @wordOf_in c wi acc i
      generalize wordOf c wi acc i = w at *
      have tc := text_code w
      have il := is_link w
      have la : ∀ s : List Nat, binD .add (.tup (wiD wi)) (.tup [.str s]) = .ok (.tup (wiD wi ++ [.str s])) := fun s => add_tt (by
        have := ok.len
        simp [wiD]
        omega)
      have hin : ∀ w', w = w' → (w' = .strong ∨ w' = .slant ∨ w' = .link) → w' ∉ wi ∧ wi.length < 3 := fun w' e hk => by
        have h1 := win e (by rcases hk with rfl | rfl | rfl <;> decide)
        refine ⟨h1, ?_⟩
        have := ok.len
        rcases Nat.lt_or_ge wi.length 3 with h | h
        · exact h
        · exact absurd (full_wi ok (by omega) hk) h1
      refine ss_nx ?_ rfl
      cases w with
      | text => simp [rdB, rd, put, tc, evSs_cons, tx, getOwn, guardR, hal, mkPc, Pc.ds, Pc.d]
      | code => simp [rdB, rd, put, tc, evSs_cons, tx, getOwn, guardR, hal, mkPc, Pc.ds, Pc.d]
      | link =>
        obtain ⟨h1, h2⟩ := hin .link rfl (by simp)
        have rc := hrec .link (c + 13 * i + 2) h1 (by simp) h2 j hj
        rw [← wiD_more] at rc
        simp [rdB, rd, put, tc, evSs_cons, ax, getOwn, guardR, hal, mkPc, Pc.ds, Pc.d, il, la, rc]
      | strong =>
        obtain ⟨h1, h2⟩ := hin .strong rfl (by simp)
        have rc := hrec .strong (c + 13 * i + 3) h1 (by simp) h2 j hj
        rw [← wiD_more] at rc
        simp [rdB, rd, put, tc, evSs_cons, ax, getOwn, guardR, hal, mkPc, Pc.ds, Pc.d, il, la, rc]
      | slant =>
        obtain ⟨h1, h2⟩ := hin .slant rfl (by simp)
        have rc := hrec .slant (c + 13 * i + 3) h1 (by simp) h2 j hj
        rw [← wiD_more] at rc
        simp [rdB, rd, put, tc, evSs_cons, ax, getOwn, guardR, hal, mkPc, Pc.ds, Pc.d, il, la, rc])
    refine ⟨ρ', e, ?_⟩
    rw [List.length_map, List.length_range, Nat.zero_add] at p
    exact p
  obtain ⟨ρ', e, a, b, d, f, rfl⟩ := loop _ rfl
  refine ss_nx (ρ' := [.val (.int c), .val (.tup (wiD wi)), .own (Pc.ds (lineS (n + 1) c wi)), a, b, d, f]) ?_ (ss_rt ?_)
  · rw [evS_for, hit, bnd_ok, hr, bnd_ok]
    exact e
  · simp [rdB]
theorem line_at (t : DrL T) : ∀ (n : Nat) (c : Int) (wi : List Wd), WiOk wi → wi.length + n = 3 → At T (n + 3) 25 [.int c, .tup (wiD wi)] (.ok (.tup (Pc.ds (lineS (n + 1) c wi)))) := by
  intro n
  induction n with
  | zero =>
    intro c wi ok hl
    exact line_step t ok (fun w k hw hk hn => absurd hn (by omega)) (by omega)
  | succ n ih =>
    intro c wi ok hl
    refine line_step t ok (fun w c hw hk hn => ?_) (by omega)
    exact ih c (wi ++ [w]) (ok.more hw hk) (by simp; omega)
end MT
namespace MT
/-! ### the law's own sameness -/
mutual
def D.pl : D → Bool
  | .lst _ => false
  | .scr _ => false
  | .dct _ => false
  | .tup xs => decide (xs.length ≤ 16777216) && D.pls xs
  | _ => true
def D.pls : List D → Bool
  | [] => true
  | x :: xs => D.pl x && D.pls xs
end
theorem pls_mem : ∀ {xs : List D}, D.pls xs = true → ∀ x ∈ xs, x.pl = true
  | [], _, x, hx => by cases hx
  | y :: ys, h, x, hx => by
    have h : (D.pl y && D.pls ys) = true := h
    rw [Bool.and_eq_true] at h
    rcases List.mem_cons.mp hx with rfl | hx
    · exact h.1
    · exact pls_mem h.2 x hx
theorem depths_mem : ∀ {xs : List D} {x : D}, x ∈ xs → x.depth ≤ D.depths xs
  | y :: ys, x, hx => by
    show x.depth ≤ max y.depth (D.depths ys)
    rcases List.mem_cons.mp hx with rfl | hx
    · omega
    · have := depths_mem hx
      omega
theorem zipL_self : ∀ {xs : List D} {z : D}, z ∈ zipL xs xs → ∃ x ∈ xs, z = .tup [x, x]
  | [], z, h => by cases h
  | x :: xs, z, h => by
    rcases List.mem_cons.mp (show z ∈ D.tup [x, x] :: zipL xs xs from h) with rfl | h
    · exact ⟨x, List.mem_cons_self, rfl⟩
    · obtain ⟨y, hy, e⟩ := zipL_self h
      exact ⟨y, List.mem_cons_of_mem _ hy, e⟩
theorem zipL_slen : ∀ xs : List D, (zipL xs xs).length = xs.length
  | [] => rfl
  | x :: xs => by show (zipL xs xs).length + 1 = _; rw [zipL_slen xs]; rfl
theorem bls_true : ∀ n : Nat, blsD (List.replicate n (D.bl true)) = some (List.replicate n true)
  | 0 => rfl
  | n + 1 => by
    show (blsD (List.replicate n (D.bl true))).map (true :: ·) = _
    rw [bls_true n]; rfl
theorem all_true (n : Nat) : prD .all [.lst (List.replicate n (D.bl true))] = .ok (.bl true) := by
  show (ofO (blsD (List.replicate n (D.bl true)))).bind _ = _
  rw [bls_true]
  show R.ok (D.bl ((List.replicate n true).all id)) = _
  have : (List.replicate n true).all id = true := by simp
  rw [this]
@[simp] theorem isT_t (b i s l : Bool) (xs : List D) (t : Bool) : prD (.isT b i s t l) [.tup xs] = .ok (.bl t) := rfl
@[simp] theorem isT_s (b i s l : Bool) (xs : List Nat) (t : Bool) : prD (.isT b i s t l) [.str xs] = .ok (.bl s) := rfl
@[simp] theorem isT_i (b i s l : Bool) (n : Int) (t : Bool) : prD (.isT b i s t l) [.int n] = .ok (.bl i) := rfl
@[simp] theorem isT_b (b i s l : Bool) (n : Bool) (t : Bool) : prD (.isT b i s t l) [.bl n] = .ok (.bl (b || i)) := rfl
@[simp] theorem isT_n (b i s l : Bool) (t : Bool) : prD (.isT b i s t l) [.non] = .ok (.bl false) := rfl
@[simp] theorem eq_bb (a b : Bool) : cmpD .eq (.bl a) (.bl b) = .ok (.bl (a == b)) := rfl
@[simp] theorem zip_tt (xs ys : List D) : itD .zip [.tup xs, .tup ys] = .ok (zipL xs ys) := rfl
theorem map_const {α : Type} (xs : List α) (d : D) : xs.map (fun _ => d) = List.replicate xs.length d := by
  induction xs with
  | nil => rfl
  | cons x xs ih => rw [List.map_cons, ih]; rfl
variable {T : Tab}
theorem same_at (hT : T 46 = some (.ir ir_law_same)) : ∀ (k : Nat) (d : D), d.pl = true → d.depth ≤ k → At T (k + 1) 46 [d, d] (.ok (.bl true)) := by
  intro k
  induction k with
  | zero =>
    intro d hp hd
    refine At.step hT fun n _ => evF_st (ρ := [.val d, .val d, .un, .un]) rfl rfl ?_
    cases d with
    | non => simp [ir_law_same, evSs_cons, rdB, rd, isNon]
    | bl b => simp [ir_law_same, evSs_cons, rdB, rd, isNon]
    | int i => simp [ir_law_same, evSs_cons, rdB, rd, isNon]
    | str s => simp [ir_law_same, evSs_cons, rdB, rd, isNon]
    | tup xs => exact absurd (show D.depths xs + 1 ≤ 0 from hd) (by omega)
    | lst xs => cases hp
    | scr xs => cases hp
    | dct xs => cases hp
  | succ k ih =>
    intro d hp hd
    refine At.step hT fun n hn => evF_st (ρ := [.val d, .val d, .un, .un]) rfl rfl ?_
    cases d with
    | non => simp [ir_law_same, evSs_cons, rdB, rd, isNon]
    | bl b => simp [ir_law_same, evSs_cons, rdB, rd, isNon]
    | int i => simp [ir_law_same, evSs_cons, rdB, rd, isNon]
    | str s => simp [ir_law_same, evSs_cons, rdB, rd, isNon]
    | lst xs => cases hp
    | scr xs => cases hp
    | dct xs => cases hp
    | tup xs =>
      have hp : (decide (xs.length ≤ 16777216) && D.pls xs) = true := hp
      rw [Bool.and_eq_true] at hp
      have hl := of_decide_eq_true hp.1
      have hd : D.depths xs + 1 ≤ k + 1 := hd
      have lc : lcGo (.tp [.nm 2, .nm 3]) (evC (callN T n) []) (evE (callN T n) (.call 46 [(.v 2), (.v 3)])) [.val (.tup xs), .val (.tup xs), .un, .un] (zipL xs xs) = .ok (List.replicate xs.length (.bl true)) := by
        rw [lcGo_map (g := fun _ => .bl true), map_const, zipL_slen]
        intro z hz
        obtain ⟨x, hx, rfl⟩ := zipL_self hz
        refine ⟨_, rfl, rfl, ?_⟩
        have := ih x (pls_mem hp.2 x hx) (Nat.le_trans (depths_mem hx) (by omega)) n hn
        simp [rd, this]
      have hz : sz xs.length = true := sz_of hl
      simp [ir_law_same, evSs_cons, rdB, rd, wipeE, Tg.slots, Tg.slotss] at lc ⊢
      rw [lc]
      simp [hz, all_true]
end MT
namespace MT
/-! ### lists -/
def wList : List Nat := [108, 105, 115, 116]
def kindS (c : Bool) : List Nat := if c = true then [99, 111, 117, 110, 116] else [100, 111, 116, 115]
inductive It where
  | flat (l : List Pc) | deep (l : List Pc) (c : Bool) (its : List It)
mutual
def It.d : It → D
  | .flat l => .tup [.tup (Pc.ds l), .non]
  | .deep l c its => .tup [.tup (Pc.ds l), .tup [.str wList, .str (kindS c), .tup (It.ds its)]]
def It.ds : List It → List D
  | [] => []
  | p :: ps => It.d p :: It.ds ps
end
theorem It.ds_map : ∀ l : List It, It.ds l = l.map It.d
  | [] => rfl
  | p :: ps => by rw [It.ds, It.ds_map ps]; rfl
def listD (c : Bool) (its : List It) : D := .tup [.str wList, .str (kindS c), .tup (It.ds its)]
def cntOf (c : Int) : Bool := decide (mix c 9871 2 = 1)
def listN (c : Int) : Nat := (1 + mix c 9901 3).toNat
def line0 (c : Int) : List Pc := lineS 4 c []
def itemsS : Nat → Int → List It
  | 0, _ => []
  | n + 1, c => ((List.range (listN c)).map fun (k : Nat) => if 1 ≤ n ∧ mix (c + 17 * k) 9887 3 = 0 then It.deep (line0 (c + 17 * k)) (cntOf (c + 17 * k + 5)) (itemsS n (c + 17 * k + 5)) else .flat (line0 (c + 17 * k)))
      ++ if mix c 9883 9 = 0 then (List.range 9).map fun (k : Nat) => .flat (line0 (c + k)) else []
def itemAt (n : Nat) (c : Int) (k : Nat) : It := if 1 ≤ n ∧ mix (c + 17 * k) 9887 3 = 0 then It.deep (line0 (c + 17 * k)) (cntOf (c + 17 * k + 5)) (itemsS n (c + 17 * k + 5)) else .flat (line0 (c + 17 * k))
theorem listN_le (c : Int) : 1 ≤ listN c ∧ listN c ≤ 3 := by
  have h1 := mix_nn (c := c) (p := 9901) (m := 3) (by omega)
  have h2 := mix_lt (c := c) (p := 9901) (m := 3) (by omega)
  unfold listN
  omega
variable {T : Tab}
structure DrLs (T : Tab) : Prop extends DrL T where
  lst : T 27 = some (.ir ir_law_list)
structure DrD (T : Tab) : Prop extends DrLs T where
  blk : T 3 = some (.ir ir_law_block)
  doc : T 9 = some (.ir ir_law_doc)
theorem line0_at (t : DrL T) (c : Int) : At T 6 25 [.int c, .tup []] (.ok (.tup (Pc.ds (line0 c)))) := line_at t 3 c [] ⟨List.nodup_nil, fun w h => by cases h⟩ rfl
theorem cnt_idx (c : Int) : idxD (.tup [.str [100, 111, 116, 115], .str [99, 111, 117, 110, 116]]) (.int (mix c 9871 2)) = .ok (.str (kindS (cntOf c))) := by
  have m1 := mix_nn (c := c) (p := 9871) (m := 2) (by omega)
  have m2 := mix_lt (c := c) (p := 9871) (m := 2) (by omega)
  have : mix c 9871 2 = 0 ∨ mix c 9871 2 = 1 := by omega
  unfold cntOf
  rcases this with h | h <;> rw [h] <;> rfl
def listBody : List S := [.asg 4 false (.bin .add (.v 0) (.bin .mul (.c (.int 17)) (.v 3))), .asg 5 false (.c .non), .iff (.and (.cmp .gt (.v 1) (.c (.int 1))) (.cmp .eq (.call 32 [(.v 4), (.c (.int 9887)), (.c (.int 3))]) (.c (.int 0)))) [.asg 5 false (.call 27 [(.bin .add (.v 4) (.c (.int 5))), (.bin .sub (.v 1) (.c (.int 1)))])] [], .app 2 (.tup [(.call 25 [(.v 4), (.tup [])]), (.v 5)])]
theorem list_turn (t : DrLs T) {m n : Nat} (hm : 6 ≤ m) {c : Int} {k : Nat} (rec : 1 ≤ n → ∀ c : Int, callN T m 27 [.int c, .int n] = .ok (listD (cntOf c) (itemsS n c))) {xs : List D} (hx : xs.length < 100) {a b : SV} :
    evSs (callN T m) listBody [.val (.int c), .val (.int ((n + 1 : Nat) : Int)), .own xs, .val (.int k), a, b] = .ok (.nx [.val (.int c), .val (.int ((n + 1 : Nat) : Int)), .own (xs ++ [(itemAt n c k).d]), .val (.int k), .val (.int (c + 17 * k)), .val (match itemAt n c k with
      | .flat _ => .non
      | .deep _ q its => listD q its)]) := by
  have mx : ∀ {c p q : Int}, 0 < p → p < 100000 → 0 < q → callN T m 32 [.int c, .int p, .int q] = .ok (.int (mix c p q)) := fun h1 h2 h3 => mix_at t.mix h1 h2 h3 m (by omega)
  have lx := fun c => line0_at t.toDrL c m hm
  have sm : (smallI 17 || smallI k) = true := rfl
  refine asg_ss (d := .int (c + 17 * k)) ?_ (by simp) ?_
  · have mu : evE (callN T m) (.bin .mul (.c (.int 17)) (.v 3)) [.val (.int c), .val (.int ((n + 1 : Nat) : Int)), .own xs, .val (.int k), a, b] = .ok (.int (17 * k)) := mul_ii sm
    rw [evE_bin, bor_bin, mu]
    rfl
  refine asg_ss (d := .non) rfl (by simp) ?_
  have e1 : evT (callN T m) (.and (.cmp .gt (.v 1) (.c (.int 1))) (.cmp .eq (.call 32 [(.v 4), (.c (.int 9887)), (.c (.int 3))]) (.c (.int 0)))) [.val (.int c), .val (.int ((n + 1 : Nat) : Int)), .own xs, .val (.int k), .val (.int (c + 17 * k)), .val .non] = .ok (decide (1 ≤ n ∧ mix (c + 17 * k) 9887 3 = 0)) := by
    have cm := mx (c := c + 17 * k) (p := 9887) (q := 3) (by decide) (by decide) (by decide)
    by_cases h1 : 1 ≤ n
    · have g1 : decide ((1 : Int) < ((n + 1 : Nat) : Int)) = true := decide_eq_true (by omega)
      have et : evT (callN T m) (.cmp .gt (.v 1) (.c (.int 1))) [.val (.int c), .val (.int ((n + 1 : Nat) : Int)), .own xs, .val (.int k), .val (.int (c + 17 * k)), .val .non] = .ok true := by
        show R.ok (decide ((1 : Int) < ((n + 1 : Nat) : Int))) = _
        rw [g1]
      rw [evT_and, et, bnd_ok, if_pos rfl]
      have ec : evT (callN T m) (.cmp .eq (.call 32 [(.v 4), (.c (.int 9887)), (.c (.int 3))]) (.c (.int 0))) [.val (.int c), .val (.int ((n + 1 : Nat) : Int)), .own xs, .val (.int k), .val (.int (c + 17 * k)), .val .non] = .ok (mix (c + 17 * k) 9887 3 == 0) := by simp [rd, cm]
      rw [ec]
      by_cases h2 : mix (c + 17 * k) 9887 3 = 0
      · rw [decide_eq_true ⟨h1, h2⟩, h2]; rfl
      · rw [decide_eq_false (fun z => h2 z.2)]
        simp [h2]
    · have g1 : decide ((1 : Int) < ((n + 1 : Nat) : Int)) = false := decide_eq_false (by omega)
      have et : evT (callN T m) (.cmp .gt (.v 1) (.c (.int 1))) [.val (.int c), .val (.int ((n + 1 : Nat) : Int)), .own xs, .val (.int k), .val (.int (c + 17 * k)), .val .non] = .ok false := by
        show R.ok (decide ((1 : Int) < ((n + 1 : Nat) : Int))) = _
        rw [g1]
      rw [evT_and, et, bnd_ok, if_neg (by decide), decide_eq_false (fun z => h1 z.1)]
  have ln : ∀ v : D, evE (callN T m) (.tup [(.call 25 [(.v 4), (.tup [])]), (.v 5)]) [.val (.int c), .val (.int ((n + 1 : Nat) : Int)), .own xs, .val (.int k), .val (.int (c + 17 * k)), .val v] = .ok (.tup [.tup (Pc.ds (line0 (c + 17 * k))), v]) := fun v => by
    have c2 := call_2 (cl := callN T m) (ρ := [.val (.int c), .val (.int ((n + 1 : Nat) : Int)), .own xs, .val (.int k), .val (.int (c + 17 * k)), .val v]) (f := 25) (e := .v 4) (e2 := .tup []) (d := .int (c + 17 * k)) (d2 := .tup []) rfl rfl (lx _)
    rw [evE_tup, es_2 (g := v) c2 rfl, bnd_ok]
  by_cases h : 1 ≤ n ∧ mix (c + 17 * k) 9887 3 = 0
  · have ei : itemAt n c k = It.deep (line0 (c + 17 * k)) (cntOf (c + 17 * k + 5)) (itemsS n (c + 17 * k + 5)) := if_pos h
    rw [ei]
    refine ss_nx (ρ' := [.val (.int c), .val (.int ((n + 1 : Nat) : Int)), .own xs, .val (.int k), .val (.int (c + 17 * k)), .val (listD (cntOf (c + 17 * k + 5)) (itemsS n (c + 17 * k + 5)))]) ?_ ?_
    · rw [evS_iff]
      show ((evT (callN T m) _ [.val (.int c), .val (.int ((n + 1 : Nat) : Int)), .own xs, .val (.int k), .val (.int (c + 17 * k)), .val .non]).bind fun x => _) = _
      rw [e1, bnd_ok, if_pos (decide_eq_true h)]
      refine asg_ss (d := listD (cntOf (c + 17 * k + 5)) (itemsS n (c + 17 * k + 5))) ?_ (by simp) rfl
      exact call_2 (d := .int (c + 17 * k + 5)) (d2 := .int n) rfl (by
        show R.ok (D.int (((n + 1 : Nat) : Int) - 1)) = _
        rw [show ((n + 1 : Nat) : Int) - 1 = (n : Int) by omega]) (rec h.1 _)
    · exact app_ss (xs := xs) rfl (ln _) (by omega) rfl
  · have ei : itemAt n c k = .flat (line0 (c + 17 * k)) := if_neg h
    rw [ei]
    refine ss_nx (ρ' := [.val (.int c), .val (.int ((n + 1 : Nat) : Int)), .own xs, .val (.int k), .val (.int (c + 17 * k)), .val .non]) ?_ ?_
    · rw [evS_iff]
      show ((evT (callN T m) _ [.val (.int c), .val (.int ((n + 1 : Nat) : Int)), .own xs, .val (.int k), .val (.int (c + 17 * k)), .val .non]).bind fun x => _) = _
      rw [e1, bnd_ok, if_neg (by rw [decide_eq_false h]; decide)]
      rfl
    · exact app_ss (xs := xs) rfl (ln _) (by omega) rfl
theorem list_go (t : DrLs T) {m n : Nat} (rec : 1 ≤ n → ∀ c : Int, At T m 27 [.int c, .int n] (.ok (listD (cntOf c) (itemsS n c)))) (hm : 6 ≤ m) (c : Int) : At T (m + 1) 27 [.int c, .int ((n + 1 : Nat) : Int)] (.ok (listD (cntOf c) (itemsS (n + 1) c))) := by
  refine At.step t.lst fun j hj => evF_st (ρ := [.val (.int c), .val (.int ((n + 1 : Nat) : Int)), .un, .un, .un, .un]) rfl rfl ?_
  have mx : ∀ {c p q : Int}, 0 < p → p < 100000 → 0 < q → callN T j 32 [.int c, .int p, .int q] = .ok (.int (mix c p q)) := fun h1 h2 h3 => mix_at t.mix h1 h2 h3 j (by omega)
  have lx := fun c => line0_at t.toDrL c j (by omega)
  obtain ⟨n1, n2⟩ := listN_le c
  have m1 := mix_nn (c := c) (p := 9901) (m := 3) (by omega)
  have m2 := mix_lt (c := c) (p := 9901) (m := 3) (by omega)
  refine ss_nx (ρ' := [.val (.int c), .val (.int ((n + 1 : Nat) : Int)), .own [], .un, .un, .un]) rfl ?_
  obtain ⟨ρ', e, x, a, b, rfl⟩ := forGo_P (t := .nm 3) (body := evSs (callN T j) listBody) (fun i ρ => ∃ x a b, ρ = [.val (.int c), .val (.int ((n + 1 : Nat) : Int)), .own (((List.range i).map (itemAt n c)).map It.d), x, a, b])
    (xs := (List.range (listN c)).map fun (k : Nat) => .int k) (ρ := [.val (.int c), .val (.int ((n + 1 : Nat) : Int)), .own [], .un, .un, .un]) 0 ⟨_, _, _, rfl⟩ (by
      rintro i d ρ hd ⟨x, a, b, rfl⟩
      rw [Nat.zero_add]
      have hi : i < listN c := by
        have := (List.getElem?_eq_some_iff.mp hd).1
        simpa using this
      have ed : d = .int i := by
        rw [List.getElem?_map, List.getElem?_range hi] at hd
        exact (Option.some.inj hd).symm
      subst ed
      have el : ((List.range (i + 1)).map (itemAt n c)).map It.d = ((List.range i).map (itemAt n c)).map It.d ++ [(itemAt n c i).d] := by
        rw [List.range_succ, List.map_append, List.map_append]
        rfl
      rw [el]
      exact ⟨_, rfl, _, .inl (list_turn t (by omega) (fun h c => rec h c j hj) (by rw [List.length_map, List.length_map, List.length_range]; omega)), _, _, _, rfl⟩)
  rw [Nat.zero_add, List.length_map, List.length_range] at *
  refine for_ss (ds := [.int (1 + mix c 9901 3)]) (es_1 ?_) (rng1_i (by omega) (by omega)) e ?_
  · have := mx (c := c) (p := 9901) (q := 3) (by decide) (by decide) (by decide)
    simp [rd, this]
  have e2 : It.ds (itemsS (n + 1) c) = ((List.range (listN c)).map (itemAt n c)).map It.d ++ (if mix c 9883 9 = 0 then ((List.range 9).map fun (k : Nat) => It.flat (line0 (c + k))).map It.d else []) := by
    rw [It.ds_map]
    unfold itemsS
    rw [List.map_append]
    by_cases h : mix c 9883 9 = 0
    · rw [if_pos h, if_pos h]; rfl
    · rw [if_neg h, if_neg h]; rfl
  have fin : ∀ x a b, evSs (callN T j) [.ret (.tup [(.c (.str [108, 105, 115, 116])), (.idx (.tup [(.c (.str [100, 111, 116, 115])), (.c (.str [99, 111, 117, 110, 116]))]) (.call 32 [(.v 0), (.c (.int 9871)), (.c (.int 2))])), (.pr .tuple [(.v 2)])])] [.val (.int c), .val (.int ((n + 1 : Nat) : Int)), .own (It.ds (itemsS (n + 1) c)), x, a, b] = .ok (.rt (listD (cntOf c) (itemsS (n + 1) c))) := fun x a b => by
    refine ss_rt ?_
    have cm := mx (c := c) (p := 9871) (q := 2) (by decide) (by decide) (by decide)
    have c1 : evE (callN T j) (.idx (.tup [(.c (.str [100, 111, 116, 115])), (.c (.str [99, 111, 117, 110, 116]))]) (.call 32 [(.v 0), (.c (.int 9871)), (.c (.int 2))])) [.val (.int c), .val (.int ((n + 1 : Nat) : Int)), .own (It.ds (itemsS (n + 1) c)), x, a, b] = .ok (.str (kindS (cntOf c))) := by
      rw [evE_idx]
      have c0 : evE (callN T j) (.call 32 [(.v 0), (.c (.int 9871)), (.c (.int 2))]) [.val (.int c), .val (.int ((n + 1 : Nat) : Int)), .own (It.ds (itemsS (n + 1) c)), x, a, b] = .ok (.int (mix c 9871 2)) := cm
      rw [c0]
      exact cnt_idx c
    rw [evS_ret, bor_tup, evE_tup, evEs_cons, evE_c, bnd_ok, es_2 c1 (pr_v (p := .tuple) (d := .lst (It.ds (itemsS (n + 1) c))) (r := .tup (It.ds (itemsS (n + 1) c))) rfl rfl)]
    rfl
  have tst : evT (callN T j) (.cmp .eq (.call 32 [(.v 0), (.c (.int 9883)), (.c (.int 9))]) (.c (.int 0))) [.val (.int c), .val (.int ((n + 1 : Nat) : Int)), .own (((List.range (listN c)).map (itemAt n c)).map It.d), x, a, b] = .ok (mix c 9883 9 == 0) := by
    have := mx (c := c) (p := 9883) (q := 9) (by decide) (by decide) (by decide)
    simp [rd, this]
  by_cases h : mix c 9883 9 = 0
  · refine ss_nx (ρ' := [.val (.int c), .val (.int ((n + 1 : Nat) : Int)), .own (It.ds (itemsS (n + 1) c)), x, a, b]) ?_ (fin _ _ _)
    rw [evS_iff, tst, bnd_ok, if_pos (by simpa using h)]
    have lc : lcGo (.nm 3) (evC (callN T j) []) (evE (callN T j) (.tup [(.call 25 [(.bin .add (.v 0) (.v 3)), (.tup [])]), (.c .non)])) [.val (.int c), .val (.int ((n + 1 : Nat) : Int)), .own (((List.range (listN c)).map (itemAt n c)).map It.d), .un, a, b] ((List.range 9).map fun (k : Nat) => .int k) = .ok (((List.range 9).map fun (k : Nat) => It.flat (line0 (c + k))).map It.d) := by
      rw [lcGo_map (g := fun d => match d with
        | .int k => (It.flat (line0 (c + k))).d
        | d => d)]
      · rw [List.map_map, List.map_map]
        rfl
      · intro y hy
        obtain ⟨k, hk, rfl⟩ := List.mem_map.mp hy
        refine ⟨_, rfl, rfl, ?_⟩
        have c2 := call_2 (cl := callN T j) (ρ := [.val (.int c), .val (.int ((n + 1 : Nat) : Int)), .own (((List.range (listN c)).map (itemAt n c)).map It.d), .val (.int k), a, b]) (f := 25) (e := .bin .add (.v 0) (.v 3)) (e2 := .tup []) (d := .int (c + k)) (d2 := .tup []) rfl rfl (lx _)
        show evE (callN T j) _ [.val (.int c), .val (.int ((n + 1 : Nat) : Int)), .own (((List.range (listN c)).map (itemAt n c)).map It.d), .val (.int k), a, b] = _
        rw [evE_tup, es_2 (g := .non) c2 rfl, bnd_ok]
        rfl
    have L := lc_ev (cl := callN T j) (ρ := [.val (.int c), .val (.int ((n + 1 : Nat) : Int)), .own (((List.range (listN c)).map (itemAt n c)).map It.d), x, a, b]) (k := .rng1) (es_1 (evE_c (.int 9))) (rng1_n (n := 9) (by omega)) rfl lc (by rw [List.length_map, List.length_map, List.length_range]; omega)
    have hs : evE (callN T j) (.bin .add (.v 2) (.lc (.nm 3) .rng1 [(.c (.int 9))] [] (.tup [(.call 25 [(.bin .add (.v 0) (.v 3)), (.tup [])]), (.c .non)]))) [.val (.int c), .val (.int ((n + 1 : Nat) : Int)), .own (((List.range (listN c)).map (itemAt n c)).map It.d), x, a, b] = .ok (.lst (It.ds (itemsS (n + 1) c))) := by
      rw [evE_bin, bor_lc, L]
      rw [e2, if_pos h]
      show binD .add (.lst _) (.lst _) = _
      exact add_ll (by rw [List.length_map, List.length_map, List.length_map, List.length_map, List.length_range, List.length_range]; omega)
    refine ss_nx ?_ rfl
    rw [evS_asg, hs, bnd_ok, svOf_t]
    rfl
  · refine ss_nx (ρ' := [.val (.int c), .val (.int ((n + 1 : Nat) : Int)), .own (It.ds (itemsS (n + 1) c)), x, a, b]) ?_ (fin _ _ _)
    rw [evS_iff, tst, bnd_ok, if_neg (by simpa using h), e2, if_neg h, List.append_nil]
    rfl
theorem list_at (t : DrLs T) : ∀ (n : Nat) (c : Int), At T (n + 7) 27 [.int c, .int ((n + 1 : Nat) : Int)] (.ok (listD (cntOf c) (itemsS (n + 1) c))) := by
  intro n
  induction n with
  | zero => intro c; exact list_go t (fun h => absurd h (by decide)) (Nat.le_refl _) c
  | succ n ih => intro c; exact list_go t (fun _ c => ih c) (by omega) c
/-! ### blocks -/
inductive Bk where
  | head (n : Nat) (l : List Pc) | par (l : List Pc) | rule | code (rows : List (List Nat)) | list (c : Bool) (its : List It) | quote (bs : List Bk)
def wPar : List Nat := [112, 97, 114]
def wRule : List Nat := [114, 117, 108, 101]
def wQuote : List Nat := [113, 117, 111, 116, 101]
def wHd : List Nat := [104, 101, 97, 100]
mutual
def Bk.d : Bk → D
  | .head n l => .tup [.str wHd, .int n, .tup (Pc.ds l)]
  | .par l => .tup [.str wPar, .tup (Pc.ds l)]
  | .rule => .tup [.str wRule]
  | .code rows => .tup [.str (Wd.s .code), .tup (rows.map .str)]
  | .list c its => listD c its
  | .quote bs => .tup [.str wQuote, .tup (Bk.ds bs)]
def Bk.ds : List Bk → List D
  | [] => []
  | p :: ps => Bk.d p :: Bk.ds ps
end
theorem Bk.ds_map : ∀ l : List Bk, Bk.ds l = l.map Bk.d
  | [] => rfl
  | p :: ps => by rw [Bk.ds, Bk.ds_map ps]; rfl
def rows6 (c : Int) : List (List Nat) := [[], [45, 45, 45], [62, 32, 97], textS (c + 2), [32, 32], textS (c + 4)]
def codeN (c : Int) : Nat := (1 + mix c 9839 3).toNat
def codeS (c : Int) : List (List Nat) := (List.range (codeN c)).map fun (k : Nat) => (rows6 c).getD (mix (c + k) 9851 6).toNat []
def primeB (d : Nat) : Int := [9743, 9739, 9733, 9859].getD d 0
def quoteN (c : Int) : Nat := (1 + mix c 9833 2).toNat
def blockOf (rec : Option (Int → Bk)) (kind : Int) (c : Int) : Bk :=
  if kind < 2 then .head (1 + mix c 9857 3).toNat (line0 (c + 1)) else if kind = 2 then .rule else if kind = 3 then .code (codeS c)
  else if kind = 4 then .list (cntOf (c + 3)) (itemsS 3 (c + 3)) else if kind = 5 then match rec with
    | some f => .quote ((List.range (quoteN c)).map fun (k : Nat) => f (c / 11 + 19 * k + 7))
    | none => .par (line0 (c + 4))
  else .par (line0 (c + 4))
def blockS : Nat → Int → Bk
  | 0, c => blockOf none (mix c (primeB 0) 8) c
  | d + 1, c => blockOf (some (blockS d)) (mix c (primeB (d + 1)) 8) c
def docN (c : Int) (m : Nat) : Nat := (mix c 9829 (m + 1)).toNat
def docS (c : Int) (m : Nat) : List Bk := (List.range (docN c m)).map fun (k : Nat) => blockS 3 (c + 23 * k)
theorem rows6_idx (c : Int) (k : Nat) : idxD (.lst ((rows6 c).map .str)) (.int (mix (c + k) 9851 6)) = .ok (.str ((rows6 c).getD (mix (c + k) 9851 6).toNat [])) := by
  have m1 := mix_nn (c := c + k) (p := 9851) (m := 6) (by omega)
  have m2 := mix_lt (c := c + k) (p := 9851) (m := 6) (by omega)
  have hl : (mix (c + k) 9851 6).toNat < (rows6 c).length := by show _ < 6; omega
  have := idx_l (xs := (rows6 c).map .str) (j := (mix (c + k) 9851 6).toNat) (d := .str ((rows6 c).getD (mix (c + k) 9851 6).toNat [])) (by
    rw [List.getElem?_map, List.getD_eq_getElem?_getD, List.getElem?_eq_getElem hl]
    rfl)
  rw [Int.toNat_of_nonneg m1] at this
  exact this
theorem primeB_ok {d : Nat} (h : d ≤ 3) : 0 < primeB d ∧ primeB d < 100000 ∧ ([D.int 9743, .int 9739, .int 9733, .int 9859] : List D)[d]? = some (.int (primeB d)) := by
  match d, h with
  | 0, _ => exact ⟨by decide, by decide, rfl⟩
  | 1, _ => exact ⟨by decide, by decide, rfl⟩
  | 2, _ => exact ⟨by decide, by decide, rfl⟩
  | 3, _ => exact ⟨by decide, by decide, rfl⟩
theorem block_go (t : DrD T) {j d : Nat} (hj : 9 ≤ j) (hd : d ≤ 3) (rec : Option (Int → Bk)) (h0 : d = 0 → rec = none) (h1 : 1 ≤ d → ∃ f, rec = some f ∧ ∀ c : Int, callN T j 3 [.int c, .int ((d - 1 : Nat) : Int)] = .ok (f c).d) (c : Int) :
    evF (callN T j) ir_law_block [.int c, .int d] = .ok (blockOf rec (mix c (primeB d) 8) c).d := by
  refine evF_st (ρ := [.val (.int c), .val (.int d), .un, .un, .un, .un]) rfl rfl ?_
  have mx : ∀ {c p q : Int}, 0 < p → p < 100000 → 0 < q → callN T j 32 [.int c, .int p, .int q] = .ok (.int (mix c p q)) := fun h1 h2 h3 => mix_at t.mix h1 h2 h3 j (by omega)
  have lx := fun c => line0_at t.toDrL c j (by omega)
  have tx := fun c => text_at t.mix t.text c j (by omega)
  obtain ⟨p1, p2, p3⟩ := primeB_ok hd
  have k1 := mix_nn (c := c) (p := primeB d) (m := 8) (by omega)
  have k2 := mix_lt (c := c) (p := primeB d) (m := 8) (by omega)
  have hk : evE (callN T j) (.call 32 [(.v 0), (.idx (.tup [(.c (.int 9743)), (.c (.int 9739)), (.c (.int 9733)), (.c (.int 9859))]) (.v 1)), (.c (.int 8))]) [.val (.int c), .val (.int d), .un, .un, .un, .un] = .ok (.int (mix c (primeB d) 8)) := by
    have hi : evE (callN T j) (.idx (.tup [(.c (.int 9743)), (.c (.int 9739)), (.c (.int 9733)), (.c (.int 9859))]) (.v 1)) [.val (.int c), .val (.int d), .un, .un, .un, .un] = .ok (.int (primeB d)) := by
      rw [evE_idx]
      exact idx_t p3
    rw [evE_call, evEs_cons, evE_v, show rd [SV.val (.int c), .val (.int d), .un, .un, .un, .un] 0 = .ok (.int c) from rfl, bnd_ok, es_2 hi (evE_c (.int 8)), bnd_ok, bnd_ok]
    exact mx p1 p2 (by decide)
  refine asg_ss hk (by simp) ?_
  generalize mix c (primeB d) 8 = kd at *
  show evSs (callN T j) _ [.val (.int c), .val (.int d), .val (.int kd), .un, .un, .un] = _
  have nx : ∀ {cond : E} {th rest : List S} {r : R Fl}, evT (callN T j) cond [.val (.int c), .val (.int d), .val (.int kd), .un, .un, .un] = .ok false → evSs (callN T j) rest [.val (.int c), .val (.int d), .val (.int kd), .un, .un, .un] = r → evSs (callN T j) (.iff cond th [] :: rest) [.val (.int c), .val (.int d), .val (.int kd), .un, .un, .un] = r := fun h1 h2 => ss_nx (by rw [evS_iff, h1]; rfl) h2
  have yx : ∀ {cond : E} {th rest : List S} {v : D}, evT (callN T j) cond [.val (.int c), .val (.int d), .val (.int kd), .un, .un, .un] = .ok true → evSs (callN T j) th [.val (.int c), .val (.int d), .val (.int kd), .un, .un, .un] = .ok (.rt v) → evSs (callN T j) (.iff cond th [] :: rest) [.val (.int c), .val (.int d), .val (.int kd), .un, .un, .un] = .ok (.rt v) := fun h1 h2 => ss_rt (by rw [evS_iff, h1]; exact h2)
  have eqt : ∀ n : Int, evT (callN T j) (.cmp .eq (.v 2) (.c (.int n))) [.val (.int c), .val (.int d), .val (.int kd), .un, .un, .un] = .ok (kd == n) := fun n => rfl
  have ltt : evT (callN T j) (.cmp .lt (.v 2) (.c (.int 2))) [.val (.int c), .val (.int d), .val (.int kd), .un, .un, .un] = .ok (decide (kd < 2)) := rfl
  have par : evSs (callN T j) [.ret (.tup [(.c (.str [112, 97, 114])), (.call 25 [(.bin .add (.v 0) (.c (.int 4))), (.tup [])])])] [.val (.int c), .val (.int d), .val (.int kd), .un, .un, .un] = .ok (.rt (Bk.par (line0 (c + 4))).d) := by
    refine ss_rt ?_
    have c2 := call_2 (cl := callN T j) (ρ := [.val (.int c), .val (.int d), .val (.int kd), .un, .un, .un]) (f := 25) (e := .bin .add (.v 0) (.c (.int 4))) (e2 := .tup []) (d := .int (c + 4)) (d2 := .tup []) rfl rfl (lx _)
    rw [evS_ret, bor_tup, evE_tup, es_2 (evE_c (.str [112, 97, 114])) c2]
    rfl
  unfold blockOf
  by_cases a1 : kd < 2
  · rw [if_pos a1]
    refine yx (by rw [ltt, decide_eq_true a1]) (ss_rt ?_)
    have c2 := call_2 (cl := callN T j) (ρ := [.val (.int c), .val (.int d), .val (.int kd), .un, .un, .un]) (f := 25) (e := .bin .add (.v 0) (.c (.int 1))) (e2 := .tup []) (d := .int (c + 1)) (d2 := .tup []) rfl rfl (lx _)
    have m1 := mix_nn (c := c) (p := 9857) (m := 3) (by omega)
    have c1 : evE (callN T j) (.bin .add (.c (.int 1)) (.call 32 [(.v 0), (.c (.int 9857)), (.c (.int 3))])) [.val (.int c), .val (.int d), .val (.int kd), .un, .un, .un] = .ok (.int ((1 + mix c 9857 3).toNat : Int)) := by
      rw [Int.toNat_of_nonneg (by omega)]
      have := mx (c := c) (p := 9857) (q := 3) (by decide) (by decide) (by decide)
      simp [rd, this]
    rw [evS_ret, bor_tup, evE_tup, evEs_cons, evE_c, bnd_ok, es_2 c1 c2]
    rfl
  · rw [if_neg a1]
    refine nx (by rw [ltt, decide_eq_false a1]) ?_
    by_cases a2 : kd = 2
    · rw [if_pos a2]
      exact yx (by rw [eqt, a2]; rfl) (ss_rt rfl)
    · rw [if_neg a2]
      refine nx (by rw [eqt]; simp [a2]) ?_
      by_cases a3 : kd = 3
      · rw [if_pos a3]
        refine yx (by rw [eqt, a3]; rfl) ?_
        have rw6 : evE (callN T j) (.lst [(.c (.str [])), (.c (.str [45, 45, 45])), (.c (.str [62, 32, 97])), (.call 56 [(.bin .add (.v 0) (.c (.int 2)))]), (.c (.str [32, 32])), (.call 56 [(.bin .add (.v 0) (.c (.int 4)))])]) [.val (.int c), .val (.int d), .val (.int kd), .un, .un, .un] = .ok (.lst ((rows6 c).map .str)) := by
          have t2 := call_1 (cl := callN T j) (ρ := [.val (.int c), .val (.int d), .val (.int kd), .un, .un, .un]) (f := 56) (e := .bin .add (.v 0) (.c (.int 2))) (d := .int (c + 2)) rfl (tx _)
          have t4 := call_1 (cl := callN T j) (ρ := [.val (.int c), .val (.int d), .val (.int kd), .un, .un, .un]) (f := 56) (e := .bin .add (.v 0) (.c (.int 4))) (d := .int (c + 4)) rfl (tx _)
          rw [evE_lst, evEs_cons, evE_c, bnd_ok, evEs_cons, evE_c, bnd_ok, evEs_cons, evE_c, bnd_ok, evEs_cons, t2, bnd_ok, es_2 (evE_c (.str [32, 32])) t4]
          rfl
        refine asg_ss rw6 (by simp) (ss_rt ?_)
        show evS (callN T j) _ [.val (.int c), .val (.int d), .val (.int kd), .val (.lst ((rows6 c).map .str)), .un, .un] = _
        have m1 := mix_nn (c := c) (p := 9839) (m := 3) (by omega)
        have m2 := mix_lt (c := c) (p := 9839) (m := 3) (by omega)
        have lc : lcGo (.nm 5) (evC (callN T j) []) (evE (callN T j) (.idx (.v 3) (.call 32 [(.bin .add (.v 0) (.v 5)), (.c (.int 9851)), (.c (.int 6))]))) [.val (.int c), .val (.int d), .val (.int kd), .val (.lst ((rows6 c).map .str)), .un, .un] ((List.range (codeN c)).map fun (k : Nat) => .int k) = .ok ((codeS c).map .str) := by
          rw [lcGo_map (g := fun d => match d with
            | .int k => .str ((rows6 c).getD (mix (c + k) 9851 6).toNat [])
            | d => d)]
          · unfold codeS
            rw [List.map_map, List.map_map]
            rfl
          · intro y hy
            obtain ⟨k, hk, rfl⟩ := List.mem_map.mp hy
            refine ⟨_, rfl, rfl, ?_⟩
            show evE (callN T j) _ [.val (.int c), .val (.int d), .val (.int kd), .val (.lst ((rows6 c).map .str)), .un, .val (.int k)] = _
            have c3 : evE (callN T j) (.call 32 [(.bin .add (.v 0) (.v 5)), (.c (.int 9851)), (.c (.int 6))]) [.val (.int c), .val (.int d), .val (.int kd), .val (.lst ((rows6 c).map .str)), .un, .val (.int k)] = .ok (.int (mix (c + k) 9851 6)) := mx (by decide) (by decide) (by decide)
            rw [evE_idx, c3]
            exact rows6_idx c k
        have cN : evE (callN T j) (.bin .add (.c (.int 1)) (.call 32 [(.v 0), (.c (.int 9839)), (.c (.int 3))])) [.val (.int c), .val (.int d), .val (.int kd), .val (.lst ((rows6 c).map .str)), .un, .un] = .ok (.int (1 + mix c 9839 3)) := by
          have := mx (c := c) (p := 9839) (q := 3) (by decide) (by decide) (by decide)
          simp [rd, this]
        have L := lc_ev (k := .rng1) (es_1 cN) (rng1_i (by omega) (by omega)) rfl lc (by unfold codeS; rw [List.length_map, List.length_map, List.length_range]; unfold codeN; omega)
        rw [evS_ret, bor_tup, evE_tup, es_2 (evE_c (.str [99, 111, 100, 101])) (pr_1 (p := .tuple) (r := .tup ((codeS c).map .str)) rfl L rfl)]
        rfl
      · rw [if_neg a3]
        refine nx (by rw [eqt]; simp [a3]) ?_
        by_cases a4 : kd = 4
        · rw [if_pos a4]
          refine yx (by rw [eqt, a4]; rfl) (ss_rt ?_)
          have c2 := call_2 (cl := callN T j) (ρ := [.val (.int c), .val (.int d), .val (.int kd), .un, .un, .un]) (f := 27) (e := .bin .add (.v 0) (.c (.int 3))) (e2 := .c (.int 3)) (d := .int (c + 3)) (d2 := .int 3) rfl rfl (list_at t.toDrLs 2 (c + 3) j (by omega))
          rw [evS_ret, bor_call, c2]
          rfl
        · rw [if_neg a4]
          refine nx (by rw [eqt]; simp [a4]) ?_
          by_cases a5 : kd = 5
          · rw [if_pos a5]
            by_cases hd0 : 1 ≤ d
            · obtain ⟨f, rfl, rc⟩ := h1 hd0
              refine yx (by
                rw [evT_and, eqt, a5]
                show R.ok (decide ((0 : Int) < (d : Int))) = _
                rw [decide_eq_true (by omega)]) ?_
              have m1 := mix_nn (c := c) (p := 9833) (m := 2) (by omega)
              have m2 := mix_lt (c := c) (p := 9833) (m := 2) (by omega)
              have cN : evE (callN T j) (.bin .add (.c (.int 1)) (.call 32 [(.v 0), (.c (.int 9833)), (.c (.int 2))])) [.val (.int c), .val (.int d), .val (.int kd), .un, .un, .un] = .ok (.int (1 + mix c 9833 2)) := by
                have := mx (c := c) (p := 9833) (q := 2) (by decide) (by decide) (by decide)
                simp [rd, this]
              refine asg_ss cN (by simp) (ss_rt ?_)
              show evS (callN T j) _ [.val (.int c), .val (.int d), .val (.int kd), .un, .val (.int (1 + mix c 9833 2)), .un] = _
              have lc : lcGo (.nm 5) (evC (callN T j) []) (evE (callN T j) (.call 3 [(.bin .add (.bin .add (.bin .fdiv (.v 0) (.c (.int 11))) (.bin .mul (.c (.int 19)) (.v 5))) (.c (.int 7))), (.bin .sub (.v 1) (.c (.int 1)))])) [.val (.int c), .val (.int d), .val (.int kd), .un, .val (.int (1 + mix c 9833 2)), .un] ((List.range (quoteN c)).map fun (k : Nat) => .int k) = .ok (((List.range (quoteN c)).map fun (k : Nat) => f (c / 11 + 19 * k + 7)).map Bk.d) := by
                rw [lcGo_map (g := fun d => match d with
                  | .int k => (f (c / 11 + 19 * k + 7)).d
                  | d => d)]
                · rw [List.map_map, List.map_map]
                  rfl
                · intro y hy
                  obtain ⟨k, hk, rfl⟩ := List.mem_map.mp hy
                  refine ⟨_, rfl, rfl, ?_⟩
                  show evE (callN T j) _ [.val (.int c), .val (.int d), .val (.int kd), .un, .val (.int (1 + mix c 9833 2)), .val (.int k)] = _
                  have s1 : evE (callN T j) (.bin .fdiv (.v 0) (.c (.int 11))) [.val (.int c), .val (.int d), .val (.int kd), .un, .val (.int (1 + mix c 9833 2)), .val (.int k)] = .ok (.int (c / 11)) := fdiv_ii (i := c) (j := 11) (by decide)
                  have s2 : evE (callN T j) (.bin .mul (.c (.int 19)) (.v 5)) [.val (.int c), .val (.int d), .val (.int kd), .un, .val (.int (1 + mix c 9833 2)), .val (.int k)] = .ok (.int (19 * k)) := mul_ii (i := 19) (j := k) rfl
                  have s3 : evE (callN T j) (.bin .add (.bin .add (.bin .fdiv (.v 0) (.c (.int 11))) (.bin .mul (.c (.int 19)) (.v 5))) (.c (.int 7))) [.val (.int c), .val (.int d), .val (.int kd), .un, .val (.int (1 + mix c 9833 2)), .val (.int k)] = .ok (.int (c / 11 + 19 * k + 7)) := by
                    rw [evE_bin, bor_bin, evE_bin, bor_bin, s1, bnd_ok, bor_bin, s2]
                    rfl
                  have s4 : evE (callN T j) (.bin .sub (.v 1) (.c (.int 1))) [.val (.int c), .val (.int d), .val (.int kd), .un, .val (.int (1 + mix c 9833 2)), .val (.int k)] = .ok (.int ((d - 1 : Nat) : Int)) := by
                    show R.ok (D.int ((d : Int) - 1)) = _
                    rw [show (d : Int) - 1 = ((d - 1 : Nat) : Int) by omega]
                  exact call_2 s3 s4 (rc _)
              have L := lc_ev (k := .rng1) (ρ := [.val (.int c), .val (.int d), .val (.int kd), .un, .val (.int (1 + mix c 9833 2)), .un]) (es_1 (e := .v 4) rfl) (rng1_i (i := 1 + mix c 9833 2) (by omega) (by omega)) rfl lc (by rw [List.length_map, List.length_map, List.length_range]; unfold quoteN; omega)
              rw [evS_ret, bor_tup, evE_tup, es_2 (evE_c (.str [113, 117, 111, 116, 101])) (pr_1 (p := .tuple) (r := .tup (((List.range (quoteN c)).map fun (k : Nat) => f (c / 11 + 19 * k + 7)).map Bk.d)) rfl L rfl), ← Bk.ds_map]
              rfl
            · have d0 : d = 0 := by omega
              rw [h0 d0]
              refine nx ?_ par
              rw [evT_and, eqt, a5, d0]
              rfl
          · rw [if_neg a5]
            refine nx ?_ par
            rw [evT_and, eqt]
            have : (kd == 5) = false := by simp [a5]
            rw [this]
            rfl
theorem block_at (t : DrD T) : ∀ (d : Nat), d ≤ 3 → ∀ c : Int, At T (d + 10) 3 [.int c, .int d] (.ok (blockS d c).d) := by
  intro d
  induction d with
  | zero => intro hd c; exact At.step t.blk fun j hj => block_go t hj hd none (fun _ => rfl) (fun h => absurd h (by decide)) c
  | succ d ih =>
    intro hd c
    exact At.step t.blk fun j hj => block_go t (by omega) hd (some (blockS d)) (fun h => absurd h (by omega)) (fun _ => ⟨_, rfl, fun c => by
      have := ih (by omega) c j (by omega)
      rw [Nat.add_sub_cancel]
      exact this⟩) c
theorem doc_at (t : DrD T) (c : Int) (m : Nat) (hm : m < 50) : At T 14 9 [.int c, .int m] (.ok (.tup (Bk.ds (docS c m)))) := by
  refine At.step t.doc fun j hj => evF_st (ρ := [.val (.int c), .val (.int m), .un]) rfl rfl (ss_rt ?_)
  have m1 := mix_nn (c := c) (p := 9829) (m := m + 1) (by omega)
  have m2 := mix_lt (c := c) (p := 9829) (m := m + 1) (by omega)
  have cN : evE (callN T j) (.call 32 [(.v 0), (.c (.int 9829)), (.bin .add (.v 1) (.c (.int 1)))]) [.val (.int c), .val (.int m), .un] = .ok (.int (mix c 9829 (m + 1))) := mix_at t.mix (by decide) (by decide) (by omega) j (by omega)
  have lc : lcGo (.nm 2) (evC (callN T j) []) (evE (callN T j) (.call 3 [(.bin .add (.v 0) (.bin .mul (.c (.int 23)) (.v 2))), (.c (.int 3))])) [.val (.int c), .val (.int m), .un] ((List.range (docN c m)).map fun (k : Nat) => .int k) = .ok ((docS c m).map Bk.d) := by
    rw [lcGo_map (g := fun d => match d with
      | .int k => (blockS 3 (c + 23 * k)).d
      | d => d)]
    · unfold docS
      rw [List.map_map, List.map_map]
      rfl
    · intro y hy
      obtain ⟨k, hk, rfl⟩ := List.mem_map.mp hy
      refine ⟨_, rfl, rfl, ?_⟩
      show evE (callN T j) _ [.val (.int c), .val (.int m), .val (.int k)] = _
      have s2 : evE (callN T j) (.bin .mul (.c (.int 23)) (.v 2)) [.val (.int c), .val (.int m), .val (.int k)] = .ok (.int (23 * k)) := mul_ii (i := 23) (j := k) rfl
      have s3 : evE (callN T j) (.bin .add (.v 0) (.bin .mul (.c (.int 23)) (.v 2))) [.val (.int c), .val (.int m), .val (.int k)] = .ok (.int (c + 23 * k)) := by
        rw [evE_bin, bor_bin, s2]
        rfl
      exact call_2 s3 (evE_c (.int 3)) (block_at t 3 (by decide) _ j (by omega))
  have L := lc_ev (k := .rng1) (es_1 cN) (rng1_i (by omega) (by omega)) rfl lc (by unfold docS; rw [List.length_map, List.length_map, List.length_range]; unfold docN; omega)
  rw [evS_ret, bor_pr, pr_1 (p := .tuple) (r := .tup ((docS c m).map Bk.d)) rfl L rfl, ← Bk.ds_map]
  rfl
end MT
namespace MT
/-! ### sections of a doc, whatever its blocks hold -/
def isHd : D → Bool
  | .tup (.str w :: _) => w == wHd
  | _ => false
def lvl : D → Int
  | .tup (_ :: .int l :: _) => l
  | _ => 0
/-- a block: its word ahead; a head has its level behind -/
def BkD (d : D) : Prop := ∃ w r, d = .tup (.str w :: r) ∧ (w = wHd → ∃ l q, r = .int l :: q)
theorem BkD.w {d : D} (h : BkD d) : ∃ w, idxD d (.int 0) = .ok (.str w) ∧ isHd d = (w == wHd) := by
  obtain ⟨w, r, rfl, _⟩ := h
  exact ⟨w, idx_t (xs := .str w :: r) (j := 0) rfl, rfl⟩
theorem BkD.l {d : D} (h : BkD d) (hh : isHd d = true) : idxD d (.int 1) = .ok (.int (lvl d)) := by
  obtain ⟨w, r, rfl, q⟩ := h
  obtain ⟨l, q', rfl⟩ := q (eq_of_beq hh)
  exact idx_t (xs := .str w :: .int l :: q') (j := 1) rfl
def plc (k : Nat) : List D → List Nat
  | [] => []
  | d :: ds => if isHd d = true then k :: plc (k + 1) ds else plc (k + 1) ds
theorem plc_app : ∀ (A B : List D) (k : Nat), plc k (A ++ B) = plc k A ++ plc (k + A.length) B
  | [], B, k => rfl
  | a :: A, B, k => by
    show (if isHd a = true then k :: plc (k + 1) (A ++ B) else plc (k + 1) (A ++ B)) = _
    rw [plc_app A B (k + 1), List.length_cons, show k + 1 + A.length = k + (A.length + 1) by omega]
    show _ = (if isHd a = true then k :: plc (k + 1) A else plc (k + 1) A) ++ _
    split <;> rfl
theorem plc_len : ∀ (A : List D) (k : Nat), (plc k A).length = (A.filter isHd).length
  | [], k => rfl
  | a :: A, k => by
    show (if isHd a = true then k :: plc (k + 1) A else plc (k + 1) A).length = _
    by_cases h : isHd a = true
    · rw [if_pos h, List.filter_cons_of_pos h, List.length_cons, List.length_cons, plc_len A]
    · rw [if_neg h, List.filter_cons_of_neg h, plc_len A]
theorem plc_mem : ∀ {A : List D} {k p : Nat}, p ∈ plc k A → ∃ i d, p = k + i ∧ A[i]? = some d ∧ isHd d = true
  | [], k, p, h => by cases h
  | a :: A, k, p, h => by
    have h : p ∈ (if isHd a = true then k :: plc (k + 1) A else plc (k + 1) A) := h
    have tl : p ∈ plc (k + 1) A → ∃ i d, p = k + i ∧ (a :: A)[i]? = some d ∧ isHd d = true := fun h => by
      obtain ⟨i, d, e, e2, e3⟩ := plc_mem h
      exact ⟨i + 1, d, by omega, by simpa using e2, e3⟩
    by_cases hh : isHd a = true
    · rw [if_pos hh] at h
      rcases List.mem_cons.mp h with rfl | h
      · exact ⟨0, a, rfl, rfl, hh⟩
      · exact tl h
    · rw [if_neg hh] at h
      exact tl h
/-- where the n-th section stands -/
structure Dec (n : Nat) (A : List D) (H : D) (B C : List D) : Prop where
  bk : ∀ d ∈ A ++ H :: (B ++ C), BkD d
  cnt : (A.filter isHd).length = n
  hd : isHd H = true
  inn : ∀ b ∈ B, isHd b = true → lvl H < lvl b
  end_ : C = [] ∨ ∃ c r, C = c :: r ∧ isHd c = true ∧ lvl c ≤ lvl H
theorem Dec.ex (H0 : List D) : ∀ (ds : List D) (n : Nat), (∀ d ∈ ds, BkD d) → n < (ds.filter isHd).length → ∃ A H B C, ds = A ++ H :: (B ++ C) ∧ Dec n A H B C
  | [], n, _, h => by cases h
  | d :: ds, n, hb, h => by
    by_cases hd : isHd d = true
    · cases n with
      | zero =>
        have cut : ∀ xs : List D, ∃ B C, xs = B ++ C ∧ (∀ b ∈ B, isHd b = true → lvl d < lvl b) ∧ (C = [] ∨ ∃ c r, C = c :: r ∧ isHd c = true ∧ lvl c ≤ lvl d) := by
          intro xs
          induction xs with
          | nil => exact ⟨[], [], rfl, (fun b hb => by cases hb), .inl rfl⟩
          | cons x xs ih =>
            by_cases hx : isHd x = true ∧ lvl x ≤ lvl d
            · exact ⟨[], x :: xs, rfl, (fun b hb => by cases hb), .inr ⟨x, xs, rfl, hx.1, hx.2⟩⟩
            · obtain ⟨B, C, e, h1, h2⟩ := ih
              refine ⟨x :: B, C, by rw [e]; rfl, fun b hb hh => ?_, h2⟩
              rcases List.mem_cons.mp hb with rfl | hb
              · have : ¬ lvl b ≤ lvl d := fun z => hx ⟨hh, z⟩
                omega
              · exact h1 b hb hh
        obtain ⟨B, C, e, h1, h2⟩ := cut ds
        exact ⟨[], d, B, C, by rw [e]; rfl, by rw [← e]; exact hb, rfl, hd, h1, h2⟩
      | succ n =>
        rw [List.filter_cons_of_pos hd, List.length_cons] at h
        obtain ⟨A, H, B, C, e, q⟩ := Dec.ex H0 ds n (fun x hx => hb x (List.mem_cons_of_mem _ hx)) (by omega)
        refine ⟨d :: A, H, B, C, by rw [e]; rfl, by rw [List.cons_append, ← e]; exact hb, ?_, q.hd, q.inn, q.end_⟩
        rw [List.filter_cons_of_pos hd, List.length_cons, q.cnt]
    · rw [List.filter_cons_of_neg hd] at h
      obtain ⟨A, H, B, C, e, q⟩ := Dec.ex H0 ds n (fun x hx => hb x (List.mem_cons_of_mem _ hx)) h
      refine ⟨d :: A, H, B, C, by rw [e]; rfl, by rw [List.cons_append, ← e]; exact hb, ?_, q.hd, q.inn, q.end_⟩
      rw [List.filter_cons_of_neg hd, q.cnt]
theorem minI_first {x : Int} : ∀ {r : List Int}, (∀ y ∈ r, x ≤ y) → r.foldl min x = x
  | [], _ => rfl
  | y :: r, h => by
    rw [List.foldl_cons]
    have h1 := h y List.mem_cons_self
    rw [show min x y = x by omega]
    exact minI_first fun z hz => h z (List.mem_cons_of_mem _ hz)
variable {T : Tab}
theorem enum_filter : ∀ (ds : List D) (k : Nat), ((enumL k ds).filter (fun d => match d with
    | .tup [_, b] => isHd b
    | _ => false)).map (fun d => match d with
    | .tup [i, _] => i
    | d => d) = (plc k ds).map fun (i : Nat) => D.int i
  | [], _ => rfl
  | d :: ds, k => by
    have ih := enum_filter ds (k + 1)
    show List.map _ (List.filter _ (D.tup [.int k, d] :: enumL (k + 1) ds)) = _
    unfold plc
    by_cases h : isHd d = true
    · rw [List.filter_cons_of_pos (by exact h), List.map_cons, ih, if_pos h, List.map_cons]
    · rw [List.filter_cons_of_neg (by exact h), ih, if_neg h]
theorem enum_mem : ∀ {ds : List D} {k : Nat} {x : D}, x ∈ enumL k ds → ∃ i d, d ∈ ds ∧ x = .tup [.int i, d]
  | d :: ds, k, x, h => by
    rcases List.mem_cons.mp (show x ∈ D.tup [.int k, d] :: enumL (k + 1) ds from h) with rfl | h
    · exact ⟨k, d, List.mem_cons_self, rfl⟩
    · obtain ⟨i, e, h1, h2⟩ := enum_mem h
      exact ⟨i, e, List.mem_cons_of_mem _ h1, h2⟩
theorem get_at {A : List D} {x : D} {R : List D} (i : Nat) : (A ++ x :: R)[A.length + i]? = (x :: R)[i]? := by
  rw [List.getElem?_append_right (by omega), Nat.add_sub_cancel_left]
theorem Dec.len {n : Nat} {A : List D} {H : D} {B C : List D} : (A ++ H :: (B ++ C)).length = A.length + 1 + B.length + C.length := by
  simp
  omega
theorem minD_n (ps : List Nat) (d : Nat) : prD .minD [.lst (ps.map fun (i : Nat) => D.int i), .int d] = .ok (.int ((minI (ps.map fun (i : Nat) => (i : Int))).getD d)) := by
  have e : (ps.map fun (i : Nat) => D.int i) = (ps.map fun (i : Nat) => (i : Int)).map D.int := by rw [List.map_map]; rfl
  have im : ∀ xs : List Int, intsD (xs.map D.int) = some xs := fun xs => by
    induction xs with
    | nil => rfl
    | cons x xs ih => show (intsD (xs.map D.int)).map (x :: ·) = _; rw [ih]; rfl
  show (ofO (intsD _)).bind (fun ns => R.ok (D.int ((minI ns).getD d))) = _
  rw [e, im]
  rfl
theorem bounds_at (hT : T 88 = some (.ir ir_outlines_bounds)) {n : Nat} {A : List D} {H : D} {B C : List D} (q : Dec n A H B C) (hl : (A ++ H :: (B ++ C)).length ≤ 16777216) :
    At T 1 88 [.tup (A ++ H :: (B ++ C)), .int n] (.ok (.tup [.int A.length, .int ((A.length + 1 + B.length : Nat) : Int)])) := by
  generalize hds : A ++ H :: (B ++ C) = ds at *
  refine At.step hT fun j _ => evF_st (ρ := [.val (.tup ds), .val (.int n), .un, .un, .un, .un, .un]) rfl rfl ?_
  have bk : ∀ d ∈ ds, BkD d := by rw [← hds]; exact q.bk
  have lc : lcGo (.tp [.nm 5, .nm 6]) (evC (callN T j) [(.cmp .eq (.idx (.v 6) (.c (.int 0))) (.c (.str [104, 101, 97, 100])))]) (evE (callN T j) (.v 5)) [.val (.tup ds), .val (.int n), .un, .un, .un, .un, .un] (enumL 0 ds) = .ok ((plc 0 ds).map fun (i : Nat) => D.int i) := by
    rw [lcGo_filter (p := fun d => match d with
      | .tup [_, b] => isHd b
      | _ => false) (g := fun d => match d with
      | .tup [i, _] => i
      | d => d), enum_filter]
    intro x hx
    obtain ⟨i, d, hd, rfl⟩ := enum_mem hx
    refine ⟨_, rfl, ?_, fun _ => rfl⟩
    obtain ⟨w, e1, e2⟩ := (bk d hd).w
    show evC (callN T j) _ [.val (.tup ds), .val (.int n), .un, .un, .un, .val (.int i), .val d] = R.ok (isHd d)
    rw [evC_one, evT_cmp, evE_cmp, bor_idx, evE_idx]
    show ((((idxD d (.int 0)).bind fun x => cmpD .eq x (.str [104, 101, 97, 100])).bind truth).bind fun b => if b = true then R.ok true else R.ok false) = _
    rw [e1, e2]
    show (if (w == wHd) = true then R.ok true else R.ok false) = _
    cases (w == wHd) <;> rfl
  have pl : (plc 0 ds).length ≤ 16777216 := by
    rw [plc_len]
    exact Nat.le_trans (List.length_filter_le _ _) hl
  have L := lc_ev (cl := callN T j) (ρ := [.val (.tup ds), .val (.int n), .un, .un, .un, .un, .un]) (k := .enum) (t := .tp [.nm 5, .nm 6]) (es_1 (e := .v 0) rfl) (enum_t ds) rfl lc (by rw [List.length_map]; exact pl)
  refine asg_ss L (by simp) ?_
  show evSs (callN T j) _ [.val (.tup ds), .val (.int n), .val (.lst ((plc 0 ds).map fun (i : Nat) => D.int i)), .un, .un, .un, .un] = _
  -- the places
  have ep : plc 0 ds = plc 0 A ++ A.length :: plc (A.length + 1) (B ++ C) := by
    rw [← hds, plc_app, Nat.zero_add]
    show _ ++ (if isHd H = true then A.length :: plc (A.length + 1) (B ++ C) else plc (A.length + 1) (B ++ C)) = _
    rw [if_pos q.hd]
  have la : (plc 0 A).length = n := by rw [plc_len, q.cnt]
  have hn : n < (plc 0 ds).length := by rw [ep]; simp; omega
  have pn : (plc 0 ds)[n]? = some A.length := by
    rw [ep, List.getElem?_append_right (by omega), la, Nat.sub_self]
    rfl
  have pd : (plc 0 ds).drop (n + 1) = plc (A.length + 1) (B ++ C) := by
    rw [ep, List.drop_append, List.drop_eq_nil_of_le (by omega), la, show n + 1 - n = 1 by omega]
    rfl
  have pi : idxD (.lst ((plc 0 ds).map fun (i : Nat) => D.int i)) (.int n) = .ok (.int A.length) := idx_l (by rw [List.getElem?_map, pn]; rfl)
  have ch : evT (callN T j) (.not (.chain .le .lt (.c (.int 0)) (.v 1) (.pr .len [(.v 2)]))) [.val (.tup ds), .val (.int n), .val (.lst ((plc 0 ds).map fun (i : Nat) => D.int i)), .un, .un, .un, .un] = .ok false := by
    rw [evT_not, evT_chain, evE_chain]
    show ((((cmpD .le (.int 0) (.int n)).bind (andK (R.bind (R.ok (D.int ((plc 0 ds).map fun (i : Nat) => D.int i).length)) fun z => cmpD .lt (.int n) z))).bind truth).bind fun x => R.ok !x) = _
    rw [le_ii, bnd_ok, decide_eq_true (by omega), andK_t, bnd_ok, lt_ii, List.length_map, decide_eq_true (by omega)]
    rfl
  refine ss_nx (ρ' := [.val (.tup ds), .val (.int n), .val (.lst ((plc 0 ds).map fun (i : Nat) => D.int i)), .un, .un, .un, .un]) (by rw [evS_iff, ch]; rfl) ?_
  have hH : ds[A.length]? = some H := by
    rw [← hds]
    have := get_at (A := A) (x := H) (R := B ++ C) 0
    exact this
  have bH := bk H (List.mem_of_getElem? hH)
  have I1 : evE (callN T j) (.idx (.v 2) (.v 1)) [.val (.tup ds), .val (.int n), .val (.lst ((plc 0 ds).map fun (i : Nat) => D.int i)), .un, .un, .un, .un] = .ok (.int A.length) := by
    rw [evE_idx]
    exact pi
  refine asg_ss (d := .int (lvl H)) ?_ (by simp) ?_
  · rw [evE_idx, bor_idx, evE_idx, I1]
    show ((idxD (.tup ds) (.int A.length)).bind fun x => idxD x (.int 1)) = _
    rw [idx_t hH]
    exact bH.l q.hd
  show evSs (callN T j) _ [.val (.tup ds), .val (.int n), .val (.lst ((plc 0 ds).map fun (i : Nat) => D.int i)), .val (.int (lvl H)), .un, .un, .un] = _
  have lc2 : lcGo (.nm 5) (evC (callN T j) [(.cmp .le (.idx (.idx (.v 0) (.v 5)) (.c (.int 1))) (.v 3))]) (evE (callN T j) (.v 5)) [.val (.tup ds), .val (.int n), .val (.lst ((plc 0 ds).map fun (i : Nat) => D.int i)), .val (.int (lvl H)), .un, .un, .un] ((plc (A.length + 1) (B ++ C)).map fun (i : Nat) => D.int i) = .ok (((plc (A.length + 1) (B ++ C)).filter fun p => decide (lvl (ds.getD p .non) ≤ lvl H)).map fun (i : Nat) => D.int i) := by
    rw [lcGo_filter (p := fun d => match d with
      | .int i => decide (lvl (ds.getD i.toNat .non) ≤ lvl H)
      | _ => false) (g := fun d => d), List.map_id', List.filter_map]
    · rfl
    · intro x hx
      obtain ⟨p, hp, rfl⟩ := List.mem_map.mp hx
      obtain ⟨i, d, e, e2, e3⟩ := plc_mem hp
      have hp' : ds[p]? = some d := by
        rw [← hds, e, show A.length + 1 + i = A.length + (i + 1) by omega, get_at]
        simpa using e2
      refine ⟨_, rfl, ?_, fun _ => rfl⟩
      show evC (callN T j) _ [.val (.tup ds), .val (.int n), .val (.lst ((plc 0 ds).map fun (i : Nat) => D.int i)), .val (.int (lvl H)), .un, .val (.int p), .un] = R.ok (decide (lvl (ds.getD p .non) ≤ lvl H))
      have eg : ds.getD p .non = d := by rw [List.getD_eq_getElem?_getD, hp']; rfl
      rw [eg, evC_one, evT_cmp, evE_cmp, bor_idx, evE_idx, bor_idx, evE_idx]
      show (((((idxD (.tup ds) (.int p)).bind fun x => idxD x (.int 1)).bind fun x => cmpD .le x (.int (lvl H))).bind truth).bind fun b => if b = true then R.ok true else R.ok false) = _
      rw [idx_t hp', bnd_ok, (bk d (List.mem_of_getElem? hp')).l e3]
      show (if decide (lvl d ≤ lvl H) = true then R.ok true else R.ok false) = _
      cases decide (lvl d ≤ lvl H) <;> rfl
  have sl : evE (callN T j) (.slLo (.v 2) (.bin .add (.v 1) (.c (.int 1)))) [.val (.tup ds), .val (.int n), .val (.lst ((plc 0 ds).map fun (i : Nat) => D.int i)), .val (.int (lvl H)), .un, .un, .un] = .ok (.lst ((plc (A.length + 1) (B ++ C)).map fun (i : Nat) => D.int i)) := by
    rw [evE_slLo]
    show slD (.lst ((plc 0 ds).map fun (i : Nat) => D.int i)) (some ((n : Int) + 1)) none = _
    rw [show (n : Int) + 1 = ((n + 1 : Nat) : Int) by omega]
    show R.ok (D.lst (cutL _ _ _)) = _
    rw [cut_lo, ← List.map_drop, pd]
  have L2 := lc_ev (cl := callN T j) (k := .seq) (es_1 sl) (seq_l _) rfl lc2 (by
    rw [List.length_map]
    refine Nat.le_trans (List.length_filter_le _ _) ?_
    rw [ep] at pl
    simp at pl
    omega)
  refine asg_ss L2 (by simp) (ss_rt ?_)
  -- the least of the ends
  have ends : ((minI (((plc (A.length + 1) (B ++ C)).filter fun p => decide (lvl (ds.getD p .non) ≤ lvl H)).map fun (i : Nat) => (i : Int))).getD (ds.length : Int)) = ((A.length + 1 + B.length : Nat) : Int) := by
    have gt : ∀ {k : Nat} {p : Nat} {d : D}, (B ++ C)[k]? = some d → p = A.length + 1 + k → ds.getD p .non = d := fun {k p d} e e2 => by
      rw [List.getD_eq_getElem?_getD, ← hds, e2, show A.length + 1 + k = A.length + (k + 1) by omega, get_at]
      show ((B ++ C)[k]?).getD _ = _
      rw [e]; rfl
    rw [plc_app, List.filter_append]
    have fb : (plc (A.length + 1) B).filter (fun p => decide (lvl (ds.getD p .non) ≤ lvl H)) = [] := by
      rw [List.filter_eq_nil_iff]
      intro p hp
      obtain ⟨i, d, e, e2, e3⟩ := plc_mem hp
      have hi : i < B.length := (List.getElem?_eq_some_iff.mp e2).1
      rw [gt (k := i) (d := d) (by rw [List.getElem?_append_left hi]; exact e2) e]
      have := q.inn d (List.mem_of_getElem? e2) e3
      simp
      omega
    rw [fb, List.nil_append]
    rcases q.end_ with rfl | ⟨c, r, rfl, hc, hcl⟩
    · show ((minI []).getD (ds.length : Int)) = _
      rw [← hds, Dec.len (n := n)]
      rfl
    · have e1 : plc (A.length + 1 + B.length) (c :: r) = (A.length + 1 + B.length) :: plc (A.length + 1 + B.length + 1) r := by
        show (if isHd c = true then _ else _) = _
        rw [if_pos hc]
      have g0 : ds.getD (A.length + 1 + B.length) .non = c := gt (k := B.length) (by rw [List.getElem?_append_right (Nat.le_refl _), Nat.sub_self]; rfl) rfl
      rw [e1, List.filter_cons_of_pos (by rw [g0]; exact decide_eq_true hcl), List.map_cons]
      show List.foldl min _ _ = _
      refine minI_first fun y hy => ?_
      obtain ⟨p, hp, rfl⟩ := List.mem_map.mp hy
      obtain ⟨i, d, e, _, _⟩ := plc_mem (List.mem_filter.mp hp).1
      omega
  have M := minD_n ((plc (A.length + 1) (B ++ C)).filter fun p => decide (lvl (ds.getD p .non) ≤ lvl H)) ds.length
  rw [ends] at M
  show evS (callN T j) (.ret (.tup [(.idx (.v 2) (.v 1)), (.pr .minD [(.v 4), (.pr .len [(.v 0)])])])) [.val (.tup ds), .val (.int n), .val (.lst ((plc 0 ds).map fun (i : Nat) => D.int i)), .val (.int (lvl H)), .val (.lst (((plc (A.length + 1) (B ++ C)).filter fun p => decide (lvl (ds.getD p .non) ≤ lvl H)).map fun (i : Nat) => D.int i)), .un, .un] = _
  have I2 : evE (callN T j) (.idx (.v 2) (.v 1)) [.val (.tup ds), .val (.int n), .val (.lst ((plc 0 ds).map fun (i : Nat) => D.int i)), .val (.int (lvl H)), .val (.lst (((plc (A.length + 1) (B ++ C)).filter fun p => decide (lvl (ds.getD p .non) ≤ lvl H)).map fun (i : Nat) => D.int i)), .un, .un] = .ok (.int A.length) := by
    rw [evE_idx]
    exact pi
  have I3 : evE (callN T j) (.pr .minD [(.v 4), (.pr .len [(.v 0)])]) [.val (.tup ds), .val (.int n), .val (.lst ((plc 0 ds).map fun (i : Nat) => D.int i)), .val (.int (lvl H)), .val (.lst (((plc (A.length + 1) (B ++ C)).filter fun p => decide (lvl (ds.getD p .non) ≤ lvl H)).map fun (i : Nat) => D.int i)), .un, .un] = .ok (.int ((A.length + 1 + B.length : Nat) : Int)) := by
    rw [evE_pr]
    exact M
  rw [evS_ret, bor_tup, evE_tup, es_2 I2 I3]
  rfl
theorem sl_hiT (xs : List D) (k : Nat) : slD (.tup xs) none (some (k : Int)) = .ok (.tup (xs.take k)) := by
  show R.ok (D.tup (cutL xs none (some (k : Int)))) = _
  rw [cut_hi]
theorem sl_loT (xs : List D) (k : Nat) : slD (.tup xs) (some (k : Int)) none = .ok (.tup (xs.drop k)) := by
  show R.ok (D.tup (cutL xs (some (k : Int)) none)) = _
  rw [cut_lo]
theorem sl_LHT (xs : List D) {a b : Nat} (hb : b ≤ xs.length) (ha : a ≤ b) : slD (.tup xs) (some (a : Int)) (some (b : Int)) = .ok (.tup ((xs.drop a).take (b - a))) := by
  show R.ok (D.tup (cutL xs (some (a : Int)) (some (b : Int)))) = _
  unfold cutL
  simp only [clip_nat]
  rw [Nat.min_eq_left hb, Nat.min_eq_left (by omega)]
section
variable {n : Nat} {A : List D} {H : D} {B C : List D}
theorem take_end : (A ++ H :: (B ++ C)).take (A.length + 1 + B.length) = A ++ H :: B := by
  rw [show A ++ H :: (B ++ C) = (A ++ H :: B) ++ C by simp, List.take_append_of_le_length (by simp; omega), List.take_of_length_le (by simp; omega)]
theorem drop_end : (A ++ H :: (B ++ C)).drop (A.length + 1 + B.length) = C := by
  rw [show A ++ H :: (B ++ C) = (A ++ H :: B) ++ C by simp, List.drop_append, List.drop_eq_nil_of_le (by simp; omega), List.nil_append, show A.length + 1 + B.length - (A ++ H :: B).length = 0 by simp; omega]
  rfl
theorem section_at (hT : T 88 = some (.ir ir_outlines_bounds)) (hS : T 96 = some (.ir ir_outlines_section)) (q : Dec n A H B C) (hl : (A ++ H :: (B ++ C)).length ≤ 16777216) : At T 2 96 [.tup (A ++ H :: (B ++ C)), .int n] (.ok (.tup (H :: B))) := by
  refine At.step hS fun j hj => evF_st (ρ := [.val (.tup (A ++ H :: (B ++ C))), .val (.int n), .un, .un]) rfl rfl ?_
  have b := bounds_at hT q hl j hj
  have c2 := call_2 (cl := callN T j) (ρ := [.val (.tup (A ++ H :: (B ++ C))), .val (.int n), .un, .un]) (f := 88) (e := .v 0) (e2 := .v 1) rfl rfl b
  refine ss_nx (ρ' := [.val (.tup (A ++ H :: (B ++ C))), .val (.int n), .val (.int A.length), .val (.int ((A.length + 1 + B.length : Nat) : Int))]) (by rw [evS_tgt, c2]; rfl) (ss_rt ?_)
  have S := sl_LHT (A ++ H :: (B ++ C)) (a := A.length) (b := A.length + 1 + B.length) (by rw [Dec.len (n := n)]; omega) (by omega)
  rw [evS_ret, bor_slLH, evE_slLH]
  show ((slD (.tup (A ++ H :: (B ++ C))) (some (A.length : Int)) (some ((A.length + 1 + B.length : Nat) : Int))).bind fun d => R.ok (Fl.rt d)) = _
  rw [S, List.drop_left, show A.length + 1 + B.length - A.length = (H :: B).length by simp; omega, show H :: (B ++ C) = (H :: B) ++ C by rfl, List.take_left]
  rfl
theorem without_at (hT : T 88 = some (.ir ir_outlines_bounds)) (hS : T 97 = some (.ir ir_outlines_without)) (q : Dec n A H B C) (hl : (A ++ H :: (B ++ C)).length ≤ 16777216) : At T 2 97 [.tup (A ++ H :: (B ++ C)), .int n] (.ok (.tup (A ++ C))) := by
  refine At.step hS fun j hj => evF_st (ρ := [.val (.tup (A ++ H :: (B ++ C))), .val (.int n), .un, .un]) rfl rfl ?_
  have b := bounds_at hT q hl j hj
  have c2 := call_2 (cl := callN T j) (ρ := [.val (.tup (A ++ H :: (B ++ C))), .val (.int n), .un, .un]) (f := 88) (e := .v 0) (e2 := .v 1) rfl rfl b
  refine ss_nx (ρ' := [.val (.tup (A ++ H :: (B ++ C))), .val (.int n), .val (.int A.length), .val (.int ((A.length + 1 + B.length : Nat) : Int))]) (by rw [evS_tgt, c2]; rfl) (ss_rt ?_)
  have S1 := sl_hiT (A ++ H :: (B ++ C)) A.length
  have S2 := sl_loT (A ++ H :: (B ++ C)) (A.length + 1 + B.length)
  rw [List.take_left] at S1
  rw [drop_end] at S2
  rw [Dec.len (n := n)] at hl
  rw [evS_ret, bor_bin, evE_bin, bor_slHi, bor_slLo]
  show (((slD (.tup (A ++ H :: (B ++ C))) none (some (A.length : Int))).bind fun x => (slD (.tup (A ++ H :: (B ++ C))) (some ((A.length + 1 + B.length : Nat) : Int)) none).bind fun y => binD .add x y).bind fun d => R.ok (Fl.rt d)) = _
  rw [S1, bnd_ok, S2, bnd_ok, add_tt (by omega), bnd_ok]
theorem put_at (hT : T 88 = some (.ir ir_outlines_bounds)) (hS : T 95 = some (.ir ir_outlines_put_behind)) (q : Dec n A H B C) (O : List D) (hl : (A ++ H :: (B ++ C)).length + O.length ≤ 16777216) : At T 2 95 [.tup (A ++ H :: (B ++ C)), .int n, .tup O] (.ok (.tup (A ++ H :: (B ++ (O ++ C))))) := by
  refine At.step hS fun j hj => evF_st (ρ := [.val (.tup (A ++ H :: (B ++ C))), .val (.int n), .val (.tup O), .un, .un]) rfl rfl ?_
  have b := bounds_at hT q (by omega) j hj
  have c2 := call_2 (cl := callN T j) (ρ := [.val (.tup (A ++ H :: (B ++ C))), .val (.int n), .val (.tup O), .un, .un]) (f := 88) (e := .v 0) (e2 := .v 1) rfl rfl b
  refine ss_nx (ρ' := [.val (.tup (A ++ H :: (B ++ C))), .val (.int n), .val (.tup O), .val (.int A.length), .val (.int ((A.length + 1 + B.length : Nat) : Int))]) (by rw [evS_tgt, c2]; rfl) (ss_rt ?_)
  have S1 := sl_hiT (A ++ H :: (B ++ C)) (A.length + 1 + B.length)
  have S2 := sl_loT (A ++ H :: (B ++ C)) (A.length + 1 + B.length)
  rw [take_end] at S1
  rw [drop_end] at S2
  rw [Dec.len (n := n)] at hl
  rw [evS_ret, bor_bin, evE_bin, bor_bin, evE_bin, bor_slHi, bor_slLo, bor_v]
  show ((((slD (.tup (A ++ H :: (B ++ C))) none (some ((A.length + 1 + B.length : Nat) : Int))).bind fun x => R.bind (R.ok (D.tup O)) fun y => binD .add x y).bind fun x => (slD (.tup (A ++ H :: (B ++ C))) (some ((A.length + 1 + B.length : Nat) : Int)) none).bind fun y => binD .add x y).bind fun d => R.ok (Fl.rt d)) = _
  rw [S1, bnd_ok, bnd_ok, add_tt (by simp; omega), bnd_ok, S2, bnd_ok, add_tt (by simp; omega), bnd_ok]
  simp
end
/-! ### equality with itself -/
mutual
theorem eqv_self : ∀ d : D, d.pl = true → D.eqv d d = true
  | .non, _ => rfl
  | .bl b, _ => by cases b <;> rfl
  | .int i, _ => by show (i == i) = true; simp
  | .str s, _ => by show (s == s) = true; simp
  | .tup xs, h => by
    have h : (decide (xs.length ≤ 16777216) && D.pls xs) = true := h
    rw [Bool.and_eq_true] at h
    exact eqvs_self xs h.2
  | .lst xs, h => by cases h
  | .scr xs, h => by cases h
theorem eqvs_self : ∀ xs : List D, D.pls xs = true → D.eqvs xs xs = true
  | [], _ => rfl
  | x :: xs, h => by
    have h : (D.pl x && D.pls xs) = true := h
    rw [Bool.and_eq_true] at h
    show (D.eqv x x && D.eqvs xs xs) = true
    rw [eqv_self x h.1, eqvs_self xs h.2]
    rfl
end
/-- a value without lists, not too deep -/
structure Gd (b : Nat) (d : D) : Prop where
  pl : d.pl = true
  dp : d.depth ≤ b
theorem Gd.mono {a b : Nat} {d : D} (h : Gd a d) (hab : a ≤ b) : Gd b d := ⟨h.pl, Nat.le_trans h.dp hab⟩
theorem pls_of : ∀ {xs : List D}, (∀ x ∈ xs, x.pl = true) → D.pls xs = true
  | [], _ => rfl
  | x :: xs, h => by
    show (D.pl x && D.pls xs) = true
    rw [h x List.mem_cons_self, pls_of fun y hy => h y (List.mem_cons_of_mem _ hy)]
    rfl
theorem depths_of {b : Nat} : ∀ {xs : List D}, (∀ x ∈ xs, x.depth ≤ b) → D.depths xs ≤ b
  | [], _ => Nat.zero_le _
  | x :: xs, h => by
    show max x.depth (D.depths xs) ≤ b
    have h1 := h x List.mem_cons_self
    have h2 := depths_of fun y hy => h y (List.mem_cons_of_mem _ hy)
    omega
theorem Gd.tup {b : Nat} {xs : List D} (h : ∀ x ∈ xs, Gd b x) (hl : xs.length ≤ 16777216) : Gd (b + 1) (.tup xs) := by
  refine ⟨?_, ?_⟩
  · show (decide (xs.length ≤ 16777216) && D.pls xs) = true
    rw [decide_eq_true hl, pls_of fun x hx => (h x hx).pl]
    rfl
  · show D.depths xs + 1 ≤ b + 1
    have := depths_of (b := b) fun x hx => (h x hx).dp
    omega
theorem Gd.str (b : Nat) (s : List Nat) : Gd b (.str s) := ⟨rfl, Nat.zero_le _⟩
theorem Gd.int (b : Nat) (i : Int) : Gd b (.int i) := ⟨rfl, Nat.zero_le _⟩
theorem Gd.non (b : Nat) : Gd b .non := ⟨rfl, Nat.zero_le _⟩
theorem ne_self {d : D} (h : Gd 64 d) : cmpD .ne d d = .ok (.bl false) := by
  show guardR (shal d && shal d) (R.ok (D.bl !(D.eqv d d))) = _
  have : shal d = true := decide_eq_true h.dp
  rw [this, eqv_self d h.pl]
  rfl
theorem eq_self {d : D} (h : Gd 64 d) : cmpD .eq d d = .ok (.bl true) := by
  show guardR (shal d && shal d) (R.ok (D.bl (D.eqv d d))) = _
  have : shal d = true := decide_eq_true h.dp
  rw [this, eqv_self d h.pl]
  rfl
theorem Gd.pair {b : Nat} {x y : D} (hx : Gd b x) (hy : Gd b y) : Gd (b + 1) (.tup [x, y]) := Gd.tup (fun z hz => by
  rcases List.mem_cons.mp hz with rfl | hz
  · exact hx
  · rw [List.mem_singleton.mp hz]; exact hy) (by simp)
theorem Gd.trip {b : Nat} {x y w : D} (hx : Gd b x) (hy : Gd b y) (hw : Gd b w) : Gd (b + 1) (.tup [x, y, w]) := Gd.tup (fun z hz => by
  rcases List.mem_cons.mp hz with rfl | hz
  · exact hx
  · rcases List.mem_cons.mp hz with rfl | hz
    · exact hy
    · rw [List.mem_singleton.mp hz]; exact hw) (by simp)
theorem Gd.one {b : Nat} {x : D} (hx : Gd b x) : Gd (b + 1) (.tup [x]) := Gd.tup (fun z hz => by rw [List.mem_singleton.mp hz]; exact hx) (by simp)
/-! ### drawn docs are such values -/
theorem line_gd : ∀ (n : Nat) (c : Int) (wi : List Wd), ∀ p ∈ lineS n c wi, Gd (2 * n) p.d
  | 0, _, _, p, h => by cases h
  | n + 1, c, wi, p, h => by
    have key : ∀ (k : Nat), ∀ p ∈ (List.range k).foldl (lineGo (lineS n) c wi) [], Gd (2 * (n + 1)) p.d := by
      intro k
      induction k with
      | zero => intro p hp; cases hp
      | succ k ih =>
        intro p hp
        rw [List.range_succ, List.foldl_append] at hp
        rcases List.mem_append.mp (show p ∈ _ ++ [mkPc (lineS n) (c + 13 * k) wi _] from hp) with hp | hp
        · exact ih p hp
        · rw [List.mem_singleton.mp hp]
          have sub : ∀ c' wi', Gd (2 * n + 1) (.tup (Pc.ds (lineS n c' wi'))) := fun c' wi' => Gd.tup (fun x hx => by
            rw [Pc.ds_map] at hx
            obtain ⟨q, hq, rfl⟩ := List.mem_map.mp hx
            exact line_gd n c' wi' q hq) (by
            rw [Pc.ds_len]
            cases n with
            | zero => exact Nat.zero_le _
            | succ n =>
              show ((List.range (lineN c')).foldl (lineGo (lineS n) c' wi') []).length ≤ _
              rw [line_acc]
              have := lineN_le c'
              omega)
          rw [show 2 * (n + 1) = 2 * n + 1 + 1 by omega]
          generalize wordOf c wi ((List.range k).foldl (lineGo (lineS n) c wi) []) k = w
          cases w with
          | text => exact Gd.pair (Gd.str _ _) (Gd.str _ _)
          | code => exact Gd.pair (Gd.str _ _) (Gd.str _ _)
          | strong => exact Gd.pair (Gd.str _ _) (sub _ _)
          | slant => exact Gd.pair (Gd.str _ _) (sub _ _)
          | link => exact Gd.trip (Gd.str _ _) (sub _ _) (Gd.str _ _)
    exact key (lineN c) p h
theorem line0_len (c : Int) : (line0 c).length ≤ 3 := by
  show ((List.range (lineN c)).foldl (lineGo (lineS 3) c []) []).length ≤ 3
  rw [line_acc]
  exact (lineN_le c).2
theorem line0_gd (c : Int) : Gd 9 (.tup (Pc.ds (line0 c))) := Gd.tup (fun x hx => by
  rw [Pc.ds_map] at hx
  obtain ⟨q, hq, rfl⟩ := List.mem_map.mp hx
  exact line_gd 4 c [] q hq) (by rw [Pc.ds_len]; have := line0_len c; omega)
theorem items_len (n : Nat) (c : Int) : (itemsS n c).length ≤ 12 := by
  cases n with
  | zero => exact Nat.zero_le _
  | succ n =>
    have := listN_le c
    unfold itemsS
    rw [List.length_append, List.length_map, List.length_range]
    split
    · rw [List.length_map, List.length_range]; omega
    · simp; omega
theorem items_gd : ∀ (n : Nat) (c : Int), ∀ i ∈ itemsS n c, Gd (10 + 3 * n) i.d
  | 0, c, i, h => by cases h
  | n + 1, c, i, h => by
    have fl : ∀ c', Gd (10 + 3 * (n + 1)) (It.flat (line0 c')).d := fun c' => (Gd.pair (line0_gd c') (Gd.non 9)).mono (by omega)
    unfold itemsS at h
    rcases List.mem_append.mp h with h | h
    · obtain ⟨k, _, rfl⟩ := List.mem_map.mp h
      split
      · have sub : Gd (10 + 3 * n + 1) (.tup (It.ds (itemsS n (c + 17 * k + 5)))) := Gd.tup (fun x hx => by
          rw [It.ds_map] at hx
          obtain ⟨q, hq, rfl⟩ := List.mem_map.mp hx
          exact items_gd n _ q hq) (by rw [It.ds_map, List.length_map]; have := items_len n (c + 17 * k + 5); omega)
        exact (Gd.pair ((line0_gd _).mono (show 9 ≤ 10 + 3 * n + 2 by omega)) (Gd.trip (Gd.str _ _) (Gd.str _ _) sub)).mono (by omega)
      · exact fl _
    · split at h
      · obtain ⟨k, _, rfl⟩ := List.mem_map.mp h
        exact fl _
      · cases h
theorem list_gd (b : Bool) (n : Nat) (c : Int) : Gd (12 + 3 * n) (listD b (itemsS n c)) := (Gd.trip (Gd.str _ _) (Gd.str _ _) (Gd.tup (b := 10 + 3 * n) (fun x hx => by
  rw [It.ds_map] at hx
  obtain ⟨q, hq, rfl⟩ := List.mem_map.mp hx
  exact items_gd n c q hq) (by rw [It.ds_map, List.length_map]; have := items_len n c; omega))).mono (by omega)
theorem block_gd : ∀ (d : Nat) (c : Int), Gd (25 + 2 * d) (blockS d c).d := by
  have key : ∀ (d : Nat) (rec : Option (Int → Bk)) (kind c : Int), (∀ f, rec = some f → ∀ c, Gd (23 + 2 * d) (f c).d) → Gd (25 + 2 * d) (blockOf rec kind c).d := by
    intro d rec kind c hr
    have par : Gd (25 + 2 * d) (Bk.par (line0 (c + 4))).d := (Gd.pair (Gd.str 9 _) (line0_gd _)).mono (by omega)
    unfold blockOf
    split
    · exact (Gd.trip (Gd.str 9 _) (Gd.int _ _) (line0_gd _)).mono (by omega)
    · split
      · exact (Gd.one (Gd.str 9 _)).mono (by omega)
      · split
        · refine (Gd.pair (Gd.str 1 _) (Gd.tup (fun x hx => ?_) ?_)).mono (by omega)
          · obtain ⟨q, hq, rfl⟩ := List.mem_map.mp hx
            exact Gd.str 0 _
          · rw [List.length_map]
            unfold codeS
            rw [List.length_map, List.length_range]
            have h2 := mix_lt (c := c) (p := 9839) (m := 3) (by omega)
            unfold codeN
            omega
        · split
          · exact (list_gd _ 3 _).mono (by omega)
          · split
            · cases rec with
              | none => exact par
              | some f =>
                refine (Gd.pair (Gd.str _ _) (Gd.tup (b := 23 + 2 * d) (fun x hx => ?_) ?_)).mono (by omega)
                · rw [Bk.ds_map] at hx
                  obtain ⟨q, hq, rfl⟩ := List.mem_map.mp hx
                  obtain ⟨k, _, rfl⟩ := List.mem_map.mp hq
                  exact hr f rfl _
                · rw [Bk.ds_map, List.length_map, List.length_map, List.length_range]
                  have h2 := mix_lt (c := c) (p := 9833) (m := 2) (by omega)
                  unfold quoteN
                  omega
            · exact par
  intro d
  induction d with
  | zero => intro c; exact key 0 none _ c (fun f h => by cases h)
  | succ d ih => intro c; exact key (d + 1) (some (blockS d)) _ c (fun f h c => by cases h; exact (ih c).mono (by omega))
theorem Bk.ok (b : Bk) : BkD b.d := by
  cases b with
  | head n l => exact ⟨_, _, rfl, fun _ => ⟨_, _, rfl⟩⟩
  | par l => exact ⟨_, _, rfl, fun h => absurd h (by decide)⟩
  | rule => exact ⟨_, _, rfl, fun h => absurd h (by decide)⟩
  | code rows => exact ⟨_, _, rfl, fun h => absurd h (by decide)⟩
  | list c its => exact ⟨_, _, rfl, fun h => absurd h (by decide)⟩
  | quote bs => exact ⟨_, _, rfl, fun h => absurd h (by decide)⟩
theorem doc_mem {c : Int} {m : Nat} {d : D} (h : d ∈ Bk.ds (docS c m)) : BkD d ∧ Gd 31 d := by
  rw [Bk.ds_map] at h
  obtain ⟨b, hb, rfl⟩ := List.mem_map.mp h
  obtain ⟨k, _, rfl⟩ := List.mem_map.mp hb
  exact ⟨Bk.ok _, block_gd 3 _⟩
theorem doc_len (c : Int) (m : Nat) : (Bk.ds (docS c m)).length ≤ m := by
  have h2 := mix_lt (c := c) (p := 9829) (m := m + 1) (by omega)
  rw [Bk.ds_map, List.length_map]
  unfold docS
  rw [List.length_map, List.length_range]
  unfold docN
  omega
end MT
namespace MT
/-! ### exceptions, by rules -/
theorem call_ex {cl : CL} {ρ : Env} {f c : Nat} {es : List E} {ds : List D} (h : evEs cl es ρ = .ok ds) (h2 : cl f ds = .ex c) : evE cl (.call f es) ρ = .ex c := by rw [evE_call, h, bnd_ok, h2]
theorem evF_ex {cl : CL} {fn : Fn} {ds : List D} {c : Nat} {ρ : Env} (hl : ds.length = fn.np) (hs : start fn.np fn.ns ds = ρ) (h : evSs cl fn.body ρ = .ex c) : evF cl fn ds = .ex c := by
  unfold evF
  rw [if_pos hl, hs, h]
  rfl
theorem ss_ex {cl : CL} {ρ : Env} {s : S} {ss : List S} {c : Nat} (h : evS cl s ρ = .ex c) : evSs cl (s :: ss) ρ = .ex c := by rw [evSs_cons, h]; rfl
theorem iff_ex {cl : CL} {ρ : Env} {c : E} {b : Bool} {th el rest : List S} {x : Nat} (h1 : evT cl c ρ = .ok b) (h2 : evSs cl (if b = true then th else el) ρ = .ex x) : evSs cl (.iff c th el :: rest) ρ = .ex x := ss_ex (by rw [evS_iff, h1, bnd_ok]; cases b <;> exact h2)
theorem asg_ex {cl : CL} {ρ : Env} {i : Nat} {fr : Bool} {e : E} {rest : List S} {x : Nat} (h : evE cl e ρ = .ex x) : evSs cl (.asg i fr e :: rest) ρ = .ex x := ss_ex (by rw [evS_asg, h]; rfl)
theorem tgt_ex {cl : CL} {ρ : Env} {t : Tg} {e : E} {rest : List S} {x : Nat} (h : evE cl e ρ = .ex x) : evSs cl (.tgt t e :: rest) ρ = .ex x := ss_ex (by rw [evS_tgt, h]; rfl)
theorem try_ex {cl : CL} {ρ ρ' : Env} {body rest : List S} {i n : Nat} {su : XS} {r : R Fl} (h : evSs cl body ρ = .ex 0) (h2 : su.ev n = .ok (.nx ρ')) (h3 : evSs cl rest ρ' = r) : evSs cl (.tryX body i n su :: rest) ρ = r := ss_nx (by
  show tryR (su.ev n) (evSs cl body ρ) = _
  rw [h]
  exact h2) h3
theorem es_3 {cl : CL} {ρ : Env} {a b c : E} {x y z : D} (h : evE cl a ρ = .ok x) (h1 : evE cl b ρ = .ok y) (h2 : evE cl c ρ = .ok z) : evEs cl [a, b, c] ρ = .ok [x, y, z] := es_c h (es_2 h1 h2)
theorem call_3' {cl : CL} {ρ : Env} {f : Nat} {e e2 e3 : E} {d d2 d3 r : D} (h : evE cl e ρ = .ok d) (h1 : evE cl e2 ρ = .ok d2) (h2 : evE cl e3 ρ = .ok d3) (h3 : cl f [d, d2, d3] = .ok r) : evE cl (.call f [e, e2, e3]) ρ = .ok r := by rw [evE_call, es_3 h h1 h2, bnd_ok, h3]
/-! ### changes -/
def wKeep : List Nat := [107, 101, 101, 112]
def wOut : List Nat := [111, 117, 116]
def wIn : List Nat := [105, 110]
inductive Ch where
  | keep (n : Nat) | out (n : Nat) | inn (xs : List D)
def Ch.d : Ch → D
  | .keep n => .tup [.str wKeep, .int n]
  | .out n => .tup [.str wOut, .int n]
  | .inn xs => .tup [.str wIn, .tup xs]
def Ch.use : Ch → Nat
  | .keep n => n
  | .out n => n
  | .inn _ => 0
def usedC : List Ch → Nat
  | [] => 0
  | c :: cs => c.use + usedC cs
def outsC (doc : List D) : Nat → List Ch → List D
  | _, [] => []
  | p, .keep n :: cs => (doc.drop p).take n ++ outsC doc (p + n) cs
  | p, .out n :: cs => outsC doc (p + n) cs
  | p, .inn xs :: cs => xs ++ outsC doc p cs
theorem usedC_app (a b : List Ch) : usedC (a ++ b) = usedC a + usedC b := by
  induction a with
  | nil => simp [usedC]
  | cons c a ih => show c.use + usedC (a ++ b) = c.use + usedC a + usedC b; omega
theorem outsC_app (doc : List D) : ∀ (a : List Ch) (p : Nat) (b : List Ch), outsC doc p (a ++ b) = outsC doc p a ++ outsC doc (p + usedC a) b
  | [], p, b => rfl
  | .keep n :: a, p, b => by
    show (doc.drop p).take n ++ outsC doc (p + n) (a ++ b) = (doc.drop p).take n ++ outsC doc (p + n) a ++ outsC doc (p + (n + usedC a)) b
    rw [outsC_app doc a, List.append_assoc, Nat.add_assoc]
  | .out n :: a, p, b => by
    show outsC doc (p + n) (a ++ b) = outsC doc (p + n) a ++ outsC doc (p + (n + usedC a)) b
    rw [outsC_app doc a, Nat.add_assoc]
  | .inn xs :: a, p, b => by
    show xs ++ outsC doc p (a ++ b) = xs ++ outsC doc p a ++ outsC doc (p + (0 + usedC a)) b
    rw [outsC_app doc a, List.append_assoc, Nat.zero_add]
theorem outsC_left (doc other : List D) : ∀ (cs : List Ch) (p : Nat), p + usedC cs ≤ doc.length → outsC (doc ++ other) p cs = outsC doc p cs
  | [], p, _ => rfl
  | .keep n :: cs, p, h => by
    have h : p + (n + usedC cs) ≤ doc.length := h
    show ((doc ++ other).drop p).take n ++ outsC (doc ++ other) (p + n) cs = (doc.drop p).take n ++ outsC doc (p + n) cs
    rw [outsC_left doc other cs (p + n) (by omega), List.drop_append_of_le_length (by omega), List.take_append_of_le_length (by simp; omega)]
  | .out n :: cs, p, h => by
    have h : p + (n + usedC cs) ≤ doc.length := h
    exact outsC_left doc other cs (p + n) (by omega)
  | .inn xs :: cs, p, h => by
    have h : p + (0 + usedC cs) ≤ doc.length := h
    show xs ++ outsC (doc ++ other) p cs = xs ++ outsC doc p cs
    rw [outsC_left doc other cs p (by omega)]
theorem outsC_right (doc other : List D) : ∀ (cs : List Ch) (p : Nat), outsC (doc ++ other) (doc.length + p) cs = outsC other p cs
  | [], p => rfl
  | .keep n :: cs, p => by
    show ((doc ++ other).drop (doc.length + p)).take n ++ outsC (doc ++ other) (doc.length + p + n) cs = (other.drop p).take n ++ outsC other (p + n) cs
    rw [Nat.add_assoc, outsC_right doc other cs (p + n)]
    congr 2
    rw [List.drop_append, List.drop_eq_nil_of_le (by omega), Nat.add_sub_cancel_left]
    rfl
  | .out n :: cs, p => by
    show outsC (doc ++ other) (doc.length + p + n) cs = outsC other (p + n) cs
    rw [Nat.add_assoc, outsC_right doc other cs (p + n)]
  | .inn xs :: cs, p => by
    show xs ++ outsC (doc ++ other) (doc.length + p) cs = xs ++ outsC other p cs
    rw [outsC_right doc other cs p]
/-- what comes in is such, and not too many -/
def insN : List Ch → Nat
  | [] => 0
  | .inn xs :: cs => xs.length + insN cs
  | _ :: cs => insN cs
theorem insN_app (a b : List Ch) : insN (a ++ b) = insN a + insN b := by
  induction a with
  | nil => simp [insN]
  | cons c a ih =>
    cases c with
    | inn xs => show xs.length + insN (a ++ b) = xs.length + insN a + insN b; omega
    | keep n => exact ih
    | out n => exact ih
theorem outsC_len (doc : List D) : ∀ (cs : List Ch) (p : Nat), (outsC doc p cs).length ≤ usedC cs + insN cs
  | [], p => Nat.zero_le _
  | .keep n :: cs, p => by
    have := outsC_len doc cs (p + n)
    show ((doc.drop p).take n ++ outsC doc (p + n) cs).length ≤ (n + usedC cs) + insN cs
    rw [List.length_append, List.length_take]
    omega
  | .out n :: cs, p => by
    have := outsC_len doc cs (p + n)
    show (outsC doc (p + n) cs).length ≤ (n + usedC cs) + insN cs
    omega
  | .inn xs :: cs, p => by
    have := outsC_len doc cs p
    show (xs ++ outsC doc p cs).length ≤ (0 + usedC cs) + (xs.length + insN cs)
    rw [List.length_append]
    omega
def InsP (P : D → Prop) (cs : List Ch) : Prop := ∀ xs, Ch.inn xs ∈ cs → ∀ x ∈ xs, P x
theorem outsC_mem {P : D → Prop} {doc : List D} (hd : ∀ x ∈ doc, P x) : ∀ (cs : List Ch) (p : Nat), InsP P cs → ∀ x ∈ outsC doc p cs, P x
  | [], p, _, x, hx => by cases hx
  | .keep n :: cs, p, h, x, hx => by
    rcases List.mem_append.mp hx with hx | hx
    · exact hd x (List.mem_of_mem_drop (List.mem_of_mem_take hx))
    · exact outsC_mem hd cs (p + n) (fun xs hm => h xs (List.mem_cons_of_mem _ hm)) x hx
  | .out n :: cs, p, h, x, hx => outsC_mem hd cs (p + n) (fun xs hm => h xs (List.mem_cons_of_mem _ hm)) x hx
  | .inn xs :: cs, p, h, x, hx => by
    rcases List.mem_append.mp hx with hx | hx
    · exact h xs List.mem_cons_self x hx
    · exact outsC_mem hd cs p (fun ys hm => h ys (List.mem_cons_of_mem _ hm)) x hx
theorem cut_LH {α : Type} (xs : List α) (a n : Nat) : cutL xs (some (a : Int)) (some ((a + n : Nat) : Int)) = (xs.drop a).take n := by
  unfold cutL
  simp only [clip_nat]
  rcases Nat.lt_or_ge a xs.length with h | h
  · rw [show min a xs.length = a by omega, List.take_eq_take_iff, List.length_drop]
    omega
  · rw [Nat.min_eq_right h, List.drop_eq_nil_of_le (Nat.le_refl _), List.drop_eq_nil_of_le h]
    simp
variable {T : Tab}
def chBody : List S := [.iff (.cmp .eq (.v 4) (.c (.str [105, 110]))) [.asg 2 false (.bin .add (.v 2) (.v 5))] [.iff (.cmp .eq (.v 4) (.c (.str [107, 101, 101, 112]))) [.asg 2 false (.bin .add (.v 2) (.slLH (.v 0) (.v 3) (.bin .add (.v 3) (.v 5))))] [], .asg 3 false (.bin .add (.v 3) (.v 5))]]
theorem changed_go {cl : CL} {doc : List D} {s : SV} : ∀ (cs : List Ch) (f : List D) (p : Nat) (a4 a5 : SV), f.length + (outsC doc p cs).length ≤ 16777216 →
    ∃ b4 b5, forGo (.tp [.nm 4, .nm 5]) (evSs cl chBody) (cs.map Ch.d) [.val (.tup doc), s, .val (.tup f), .val (.int p), a4, a5] = .ok (.nx [.val (.tup doc), s, .val (.tup (f ++ outsC doc p cs)), .val (.int ((p + usedC cs : Nat) : Int)), b4, b5])
  | [], f, p, a4, a5, h => ⟨a4, a5, by show R.ok (Fl.nx _) = R.ok (Fl.nx _); simp [outsC, usedC]⟩
  | c :: cs, f, p, a4, a5, h => by
    have step : ∀ (w : List Nat) (x : D) (f' : List D) (p' : Nat), c.d = .tup [.str w, x] → f ++ outsC doc p (c :: cs) = f' ++ outsC doc p' cs → p + usedC (c :: cs) = p' + usedC cs → evSs cl chBody [.val (.tup doc), s, .val (.tup f), .val (.int p), .val (.str w), .val x] = .ok (.nx [.val (.tup doc), s, .val (.tup f'), .val (.int p'), .val (.str w), .val x]) →
        ∃ b4 b5, forGo (.tp [.nm 4, .nm 5]) (evSs cl chBody) ((c :: cs).map Ch.d) [.val (.tup doc), s, .val (.tup f), .val (.int p), a4, a5] = .ok (.nx [.val (.tup doc), s, .val (.tup (f ++ outsC doc p (c :: cs))), .val (.int ((p + usedC (c :: cs) : Nat) : Int)), b4, b5]) := fun w x f' p' e1 e2 e3 e4 => by
      obtain ⟨b4, b5, e⟩ := changed_go (doc := doc) (s := s) cs f' p' (.val (.str w)) (.val x) (by
        have := congrArg List.length e2
        rw [List.length_append, List.length_append] at this
        omega)
      refine ⟨b4, b5, ?_⟩
      rw [e2, e3, List.map_cons, e1]
      show ((evSs cl chBody [.val (.tup doc), s, .val (.tup f), .val (.int p), .val (.str w), .val x]).bind fun g => match g with
        | .nx ρ2 => forGo (.tp [.nm 4, .nm 5]) (evSs cl chBody) (cs.map Ch.d) ρ2
        | .ct ρ2 => forGo (.tp [.nm 4, .nm 5]) (evSs cl chBody) (cs.map Ch.d) ρ2
        | .rt d => .ok (.rt d)) = _
      rw [e4]
      exact e
    cases c with
    | keep n =>
      have h : f.length + ((doc.drop p).take n ++ outsC doc (p + n) cs).length ≤ 16777216 := h
      rw [List.length_append] at h
      refine step wKeep (.int n) (f ++ (doc.drop p).take n) (p + n) rfl (by rw [List.append_assoc]; rfl) (by show p + (n + usedC cs) = _; omega) ?_
      refine iff_nx (b := false) rfl ?_ rfl
      refine iff_nx (b := true) rfl (ρ' := [.val (.tup doc), s, .val (.tup (f ++ (doc.drop p).take n)), .val (.int p), .val (.str wKeep), .val (.int n)]) ?_ ?_
      · refine asg_ss (d := .tup (f ++ (doc.drop p).take n)) (bin_e (o := .add) (x := .tup f) (y := .tup ((doc.drop p).take n)) rfl ?_ (add_tt (by omega))) (by simp) rfl
        rw [bor_slLH, evE_slLH]
        show slD (.tup doc) (some (p : Int)) (some ((p : Int) + (n : Int))) = _
        show R.ok (D.tup (cutL doc (some (p : Int)) (some ((p + n : Nat) : Int)))) = _
        rw [cut_LH]
      · exact asg_ss (d := .int ((p + n : Nat) : Int)) rfl (by simp) rfl
    | out n =>
      refine step wOut (.int n) f (p + n) rfl rfl (by show p + (n + usedC cs) = _; omega) ?_
      refine iff_nx (b := false) rfl ?_ rfl
      refine iff_nx (b := false) rfl (ρ' := [.val (.tup doc), s, .val (.tup f), .val (.int p), .val (.str wOut), .val (.int n)]) rfl ?_
      exact asg_ss (d := .int ((p + n : Nat) : Int)) rfl (by simp) rfl
    | inn xs =>
      have h : f.length + (xs ++ outsC doc p cs).length ≤ 16777216 := h
      rw [List.length_append] at h
      refine step wIn (.tup xs) (f ++ xs) p rfl (by rw [List.append_assoc]; rfl) (by show p + (0 + usedC cs) = _; omega) ?_
      refine iff_nx (b := true) rfl ?_ rfl
      exact asg_ss (d := .tup (f ++ xs)) (bin_e (o := .add) (x := .tup f) (y := .tup xs) rfl rfl (add_tt (by omega))) (by simp) rfl
theorem changed_ok (hT : T 60 = some (.ir ir_changes_changed)) {doc : List D} {cs : List Ch} (hb : usedC cs + insN cs ≤ 16777216) (hu : usedC cs = doc.length) : At T 1 60 [.tup doc, .tup (cs.map Ch.d)] (.ok (.tup (outsC doc 0 cs))) := by
  refine At.step hT fun j _ => evF_st (ρ := [.val (.tup doc), .val (.tup (cs.map Ch.d)), .un, .un, .un, .un]) rfl rfl ?_
  obtain ⟨b4, b5, e⟩ := changed_go (cl := callN T j) (doc := doc) (s := .val (.tup (cs.map Ch.d))) cs [] 0 .un .un (by have := outsC_len doc cs 0; simp; omega)
  refine asg_ss (d := .tup []) rfl (by simp) (asg_ss (d := .int 0) rfl (by simp) ?_)
  refine for_ss (ds := [.tup (cs.map Ch.d)]) rfl (seq_t _) e ?_
  refine iff_no ?_ (ret_ss rfl)
  refine cmp_t (x := .int ((0 + usedC cs : Nat) : Int)) (y := .int doc.length) rfl rfl ?_
  rw [ne_ii, Nat.zero_add, hu]
  simp
theorem changed_no (hT : T 60 = some (.ir ir_changes_changed)) {doc : List D} {cs : List Ch} (hb : usedC cs + insN cs ≤ 16777216) (hu : usedC cs ≠ doc.length) : At T 1 60 [.tup doc, .tup (cs.map Ch.d)] (.ex 0) := by
  refine At.step hT fun j _ => evF_ex (ρ := [.val (.tup doc), .val (.tup (cs.map Ch.d)), .un, .un, .un, .un]) rfl rfl ?_
  · skip
    obtain ⟨b4, b5, e⟩ := changed_go (cl := callN T j) (doc := doc) (s := .val (.tup (cs.map Ch.d))) cs [] 0 .un .un (by have := outsC_len doc cs 0; simp; omega)
    refine asg_ss (d := .tup []) rfl (by simp) (asg_ss (d := .int 0) rfl (by simp) ?_)
    refine for_ss (ds := [.tup (cs.map Ch.d)]) rfl (seq_t _) e ?_
    have tt : evT (callN T j) (.cmp .ne (.v 3) (.pr .len [(.v 0)])) [.val (.tup doc), .val (.tup (cs.map Ch.d)), .val (.tup ([] ++ outsC doc 0 cs)), .val (.int ((0 + usedC cs : Nat) : Int)), b4, b5] = .ok true := by
      refine cmp_t (x := .int ((0 + usedC cs : Nat) : Int)) (y := .int doc.length) rfl rfl ?_
      rw [ne_ii, Nat.zero_add]
      have : ((usedC cs : Int) == (doc.length : Int)) = false := by rw [beq_eq_false_iff_ne]; omega
      rw [this]
      rfl
    rw [evSs_cons, evS_iff, tt]
    rfl
/-! ### how many go and come -/
def outL : List Ch → List Int
  | [] => []
  | .out n :: cs => (n : Int) :: outL cs
  | _ :: cs => outL cs
def inL : List Ch → List Int
  | [] => []
  | .inn xs :: cs => (xs.length : Int) :: inL cs
  | _ :: cs => inL cs
def hmC (cs : List Ch) : Int := (outL cs).sum + (inL cs).sum
theorem outL_app (a b : List Ch) : outL (a ++ b) = outL a ++ outL b := by
  induction a with
  | nil => rfl
  | cons c a ih => cases c <;> first | exact ih | (show _ :: outL (a ++ b) = _; rw [ih]; rfl)
theorem inL_app (a b : List Ch) : inL (a ++ b) = inL a ++ inL b := by
  induction a with
  | nil => rfl
  | cons c a ih => cases c <;> first | exact ih | (show _ :: inL (a ++ b) = _; rw [ih]; rfl)
theorem hmC_app (a b : List Ch) : hmC (a ++ b) = hmC a + hmC b := by
  unfold hmC
  rw [outL_app, inL_app, List.sum_append, List.sum_append]
  omega
theorem lenL (f : List Ch → List Int) (h0 : f [] = []) (h : ∀ c cs, (f (c :: cs)).length ≤ (f cs).length + 1) : ∀ cs, (f cs).length ≤ cs.length
  | [] => by rw [h0]; exact Nat.le_refl _
  | c :: cs => by
    have := lenL f h0 h cs
    have := h c cs
    rw [List.length_cons]
    omega
theorem sum_l (xs : List Int) : prD .sum [.lst (xs.map D.int)] = .ok (.int xs.sum) := by
  have im : ∀ xs : List Int, intsD (xs.map D.int) = some xs := fun xs => by
    induction xs with
    | nil => rfl
    | cons x xs ih => show (intsD (xs.map D.int)).map (x :: ·) = _; rw [ih]; rfl
  show (ofO (intsD (xs.map D.int))).bind _ = _
  rw [im]
  rfl
theorem out_lc {cl : CL} {ρ : Env} (hρ : ρ.length = 3) : ∀ cs : List Ch, lcGo (.tp [.nm 1, .nm 2]) (evC cl [(.cmp .eq (.v 1) (.c (.str [111, 117, 116])))]) (evE cl (.v 2)) ρ (cs.map Ch.d) = .ok ((outL cs).map D.int)
  | [] => rfl
  | c :: cs => by
    have ih := out_lc (cl := cl) hρ cs
    obtain ⟨r0, r1, r2, rfl⟩ : ∃ r0 r1 r2, ρ = [r0, r1, r2] := by
      match ρ, hρ with
      | [a, b, c], _ => exact ⟨a, b, c, rfl⟩
    cases c with
    | keep n => exact ih
    | inn xs => exact ih
    | out n =>
      show ((lcGo (.tp [.nm 1, .nm 2]) (evC cl [(.cmp .eq (.v 1) (.c (.str [111, 117, 116])))]) (evE cl (.v 2)) [r0, r1, r2] (cs.map Ch.d)).bind fun ys => R.ok (D.int n :: ys)) = _
      rw [ih]
      rfl
theorem in_lc {cl : CL} {ρ : Env} (hρ : ρ.length = 3) : ∀ cs : List Ch, lcGo (.tp [.nm 1, .nm 2]) (evC cl [(.cmp .eq (.v 1) (.c (.str [105, 110])))]) (evE cl (.pr .len [(.v 2)])) ρ (cs.map Ch.d) = .ok ((inL cs).map D.int)
  | [] => rfl
  | c :: cs => by
    have ih := in_lc (cl := cl) hρ cs
    obtain ⟨r0, r1, r2, rfl⟩ : ∃ r0 r1 r2, ρ = [r0, r1, r2] := by
      match ρ, hρ with
      | [a, b, c], _ => exact ⟨a, b, c, rfl⟩
    cases c with
    | keep n => exact ih
    | out n => exact ih
    | inn xs =>
      show ((lcGo (.tp [.nm 1, .nm 2]) (evC cl [(.cmp .eq (.v 1) (.c (.str [105, 110])))]) (evE cl (.pr .len [(.v 2)])) [r0, r1, r2] (cs.map Ch.d)).bind fun ys => R.ok (D.int xs.length :: ys)) = _
      rw [ih]
      rfl
theorem how_at (hT : T 62 = some (.ir ir_changes_how_many)) {cs : List Ch} (hl : cs.length ≤ 1000) : At T 1 62 [.tup (cs.map Ch.d)] (.ok (.int (hmC cs))) := by
  refine At.step hT fun j _ => evF_st (ρ := [.val (.tup (cs.map Ch.d)), .un, .un]) rfl rfl (ret_ss ?_)
  have l1 := lenL outL rfl (fun c cs => by cases c <;> first | exact Nat.le_refl _ | exact Nat.le_succ _) cs
  have l2 := lenL inL rfl (fun c cs => by cases c <;> first | exact Nat.le_refl _ | exact Nat.le_succ _) cs
  refine bin_e (o := .add) (x := .int (outL cs).sum) (y := .int (inL cs).sum) ?_ ?_ rfl
  · rw [bor_pr]
    exact pr_1 rfl (lc_ev (es_1 (e := .v 0) rfl) (seq_t _) rfl (out_lc rfl cs) (by rw [List.length_map]; omega)) (sum_l _)
  · rw [bor_pr]
    exact pr_1 rfl (lc_ev (es_1 (e := .v 0) rfl) (seq_t _) rfl (in_lc rfl cs) (by rw [List.length_map]; omega)) (sum_l _)
/-! ### drawn blocks, alike -/
def four : List D := [.tup [.str wRule], .tup [.str wPar, .tup [.tup [.str (Wd.s .text), .str [97]]]], .tup [.str wPar, .tup [.tup [.str (Wd.s .text), .str [98]]]], .tup [.str (Wd.s .code), .tup [.str [97]]]]
def alikeS (c : Int) (m : Nat) : List D := (List.range (mix c 9767 (m + 1)).toNat).map fun (k : Nat) => four.getD (mix (c + 7 * k) 9769 4).toNat .non
theorem alike_get (c : Int) : four[(mix c 9769 4).toNat]? = some (four.getD (mix c 9769 4).toNat .non) := by
  have m1 := mix_nn (c := c) (p := 9769) (m := 4) (by omega)
  have m2 := mix_lt (c := c) (p := 9769) (m := 4) (by omega)
  have : (mix c 9769 4).toNat < four.length := by show _ < 4; omega
  rw [List.getD_eq_getElem?_getD, List.getElem?_eq_getElem this]
  rfl
theorem four_gd : ∀ d ∈ four, Gd 5 d := by
  intro d hd
  unfold four at hd
  simp only [List.mem_cons, List.not_mem_nil, or_false] at hd
  rcases hd with rfl | rfl | rfl | rfl <;> exact ⟨rfl, by decide⟩
theorem alike_mem {c : Int} {m : Nat} {d : D} (h : d ∈ alikeS c m) : Gd 5 d := by
  obtain ⟨k, _, rfl⟩ := List.mem_map.mp h
  exact four_gd _ (List.mem_of_getElem? (alike_get _))
theorem alike_len (c : Int) (m : Nat) : (alikeS c m).length ≤ m := by
  have h2 := mix_lt (c := c) (p := 9767) (m := m + 1) (by omega)
  unfold alikeS
  rw [List.length_map, List.length_range]
  omega
theorem alike_at (hM : T 32 = some (.ir ir_law_mix)) (hT : T 1 = some (.ir ir_law_alike)) (c : Int) (m : Nat) (hm : m < 1000) : At T 2 1 [.int c, .int m] (.ok (.tup (alikeS c m))) := by
  refine At.step hT fun j hj => evF_st (ρ := [.val (.int c), .val (.int m), .un, .un]) rfl rfl ?_
  have m1 := mix_nn (c := c) (p := 9767) (m := m + 1) (by omega)
  have m2 := mix_lt (c := c) (p := 9767) (m := m + 1) (by omega)
  have mx : ∀ {c p q : Int}, 0 < p → p < 100000 → 0 < q → callN T j 32 [.int c, .int p, .int q] = .ok (.int (mix c p q)) := fun h1 h2 h3 => mix_at hM h1 h2 h3 j (by omega)
  refine asg_ss (d := .tup four) rfl (by simp) (ret_ss ?_)
  show evE (callN T j) _ [.val (.int c), .val (.int m), .val (.tup four), .un] = _
  refine pr_1 (d := .lst (alikeS c m)) rfl ?_ rfl
  refine lc_ev (ds := [.int (mix c 9767 (m + 1))]) (es_1 ?_) (rng1_i m1 (by omega)) rfl (lcGo_map (g := fun d => match d with
    | .int k => four.getD (mix (c + 7 * k) 9769 4).toNat .non
    | d => d) ?_ |>.trans ?_) ?_
  · rw [evE_call]
    show callN T j 32 [.int c, .int 9767, .int ((m : Int) + 1)] = _
    exact mx (by decide) (by decide) (by omega)
  · intro x hx
    obtain ⟨k, _, rfl⟩ := List.mem_map.mp hx
    refine ⟨_, rfl, rfl, ?_⟩
    show evE (callN T j) (.idx (.v 2) (.call 32 [(.bin .add (.v 0) (.bin .mul (.c (.int 7)) (.v 3))), (.c (.int 9769)), (.c (.int 4))])) [.val (.int c), .val (.int m), .val (.tup four), .val (.int k)] = _
    have mu : evE (callN T j) (.bin .add (.v 0) (.bin .mul (.c (.int 7)) (.v 3))) [.val (.int c), .val (.int m), .val (.tup four), .val (.int k)] = .ok (.int (c + 7 * (k : Int))) := bin_e (o := .add) (x := .int c) (y := .int (7 * (k : Int))) rfl (by rw [bor_bin]; exact bin_e (o := .mul) (x := .int 7) (y := .int k) rfl rfl (mul_ii (by rfl))) rfl
    have n1 := mix_nn (c := c + 7 * k) (p := 9769) (m := 4) (by omega)
    have ca : evE (callN T j) (.call 32 [(.bin .add (.v 0) (.bin .mul (.c (.int 7)) (.v 3))), (.c (.int 9769)), (.c (.int 4))]) [.val (.int c), .val (.int m), .val (.tup four), .val (.int k)] = .ok (.int (mix (c + 7 * (k : Int)) 9769 4)) := by
      rw [evE_call, es_c mu (es_2 (evE_c _) (evE_c _)), bnd_ok]
      exact mx (by decide) (by decide) (by decide)
    rw [evE_idx, ca]
    show idxD (.tup four) (.int (mix (c + 7 * (k : Int)) 9769 4)) = _
    exact idx_ti n1 (alike_get _)
  · rw [List.map_map]
    rfl
  · have := alike_len c m
    omega
end MT
namespace MT
/-! ### longest common rows, and how far two rows are from one another -/
section
variable {α : Type} [DecidableEq α]
def lcN : List α → List α → Nat
  | [], _ => 0
  | _ :: _, [] => 0
  | x :: xs, y :: ys => if x = y then lcN xs ys + 1 else max (lcN xs (y :: ys)) (lcN (x :: xs) ys)
termination_by xs ys => xs.length + ys.length
theorem lcN_nil (ys : List α) : lcN [] ys = 0 := by unfold lcN; rfl
theorem lcN_nil2 (xs : List α) : lcN xs [] = 0 := by cases xs <;> (unfold lcN; rfl)
theorem lcN_cons (x y : α) (xs ys : List α) : lcN (x :: xs) (y :: ys) = if x = y then lcN xs ys + 1 else max (lcN xs (y :: ys)) (lcN (x :: xs) ys) := by
  rw [lcN]
structure IsL (xs ys : List α) (n : Nat) : Prop where
  ex : ∃ zs : List α, zs.Sublist xs ∧ zs.Sublist ys ∧ zs.length = n
  le : ∀ zs : List α, zs.Sublist xs → zs.Sublist ys → zs.length ≤ n
theorem IsL.uniq {xs ys : List α} {n m : Nat} (h : IsL xs ys n) (q : IsL xs ys m) : n = m := by
  obtain ⟨z1, a1, a2, a3⟩ := h.ex
  obtain ⟨z2, b1, b2, b3⟩ := q.ex
  have := q.le z1 a1 a2
  have := h.le z2 b1 b2
  omega
theorem lcN_is : ∀ (n : Nat) (xs ys : List α), xs.length + ys.length ≤ n → IsL xs ys (lcN xs ys)
  | _, [], ys, _ => by
    rw [lcN_nil]
    exact ⟨⟨[], List.Sublist.refl _, List.nil_sublist _, rfl⟩, fun zs h _ => by rw [List.sublist_nil.mp h]; exact Nat.le_refl _⟩
  | _, x :: xs, [], _ => by
    rw [lcN_nil2]
    exact ⟨⟨[], List.nil_sublist _, List.Sublist.refl _, rfl⟩, fun zs _ h => by rw [List.sublist_nil.mp h]; exact Nat.le_refl _⟩
  | 0, x :: xs, y :: ys, h => by simp at h
  | n + 1, x :: xs, y :: ys, h => by
    simp only [List.length_cons] at h
    rw [lcN_cons]
    by_cases e : x = y
    · rw [if_pos e]
      subst e
      have ih := lcN_is n xs ys (by omega)
      obtain ⟨zs, a, b, c⟩ := ih.ex
      refine ⟨⟨x :: zs, a.cons_cons x, b.cons_cons x, by rw [List.length_cons, c]⟩, fun zs p q => ?_⟩
      cases zs with
      | nil => exact Nat.zero_le _
      | cons z zs =>
        have p' : zs.Sublist xs := by
          cases p with
          | cons _ p => exact (List.sublist_cons_self z zs).trans p
          | cons_cons _ p => exact p
        have q' : zs.Sublist ys := by
          cases q with
          | cons _ q => exact (List.sublist_cons_self z zs).trans q
          | cons_cons _ q => exact q
        have := ih.le zs p' q'
        simp only [List.length_cons]
        omega
    · rw [if_neg e]
      have i1 := lcN_is n xs (y :: ys) (by simp only [List.length_cons]; omega)
      have i2 := lcN_is n (x :: xs) ys (by simp only [List.length_cons]; omega)
      refine ⟨?_, fun zs p q => ?_⟩
      · rcases Nat.le_total (lcN xs (y :: ys)) (lcN (x :: xs) ys) with g | g
        · obtain ⟨zs, a, b, c⟩ := i2.ex
          exact ⟨zs, a, b.cons y, by rw [c]; omega⟩
        · obtain ⟨zs, a, b, c⟩ := i1.ex
          exact ⟨zs, a.cons x, b, by rw [c]; omega⟩
      · cases p with
        | cons _ p => have := i1.le zs p q; omega
        | @cons_cons l1 _ _ p =>
          cases q with
          | cons _ q => have := i2.le _ (p.cons_cons x) q; omega
          | cons_cons _ q => exact absurd rfl e
theorem lcN_isL (xs ys : List α) : IsL xs ys (lcN xs ys) := lcN_is _ xs ys (Nat.le_refl _)
theorem lcN_rev (xs ys : List α) : lcN xs.reverse ys.reverse = lcN xs ys := by
  refine (lcN_isL xs.reverse ys.reverse).uniq ?_
  have h := lcN_isL xs ys
  obtain ⟨zs, a, b, c⟩ := h.ex
  refine ⟨⟨zs.reverse, a.reverse, b.reverse, by rw [List.length_reverse, c]⟩, fun zs p q => ?_⟩
  have p' := p.reverse
  have q' := q.reverse
  rw [List.reverse_reverse] at p' q'
  have := h.le _ p' q'
  rw [List.length_reverse] at this
  exact this
theorem lcN_comm (xs ys : List α) : lcN xs ys = lcN ys xs := by
  have h := lcN_isL ys xs
  refine (lcN_isL xs ys).uniq ⟨?_, fun zs p q => h.le zs q p⟩
  obtain ⟨zs, a, b, c⟩ := h.ex
  exact ⟨zs, b, a, c⟩
theorem lcN_self : ∀ xs : List α, lcN xs xs = xs.length
  | [] => lcN_nil []
  | x :: xs => by rw [lcN_cons, if_pos rfl, lcN_self xs]; rfl
theorem lcN_pre : ∀ (ts xs ys : List α), lcN (ts ++ xs) (ts ++ ys) = ts.length + lcN xs ys
  | [], xs, ys => by simp
  | t :: ts, xs, ys => by
    show lcN (t :: (ts ++ xs)) (t :: (ts ++ ys)) = _
    rw [lcN_cons, if_pos rfl, lcN_pre ts, List.length_cons]
    omega
theorem lcN_suf (ts xs ys : List α) : lcN (xs ++ ts) (ys ++ ts) = ts.length + lcN xs ys := by
  rw [← lcN_rev, List.reverse_append, List.reverse_append, lcN_pre, lcN_rev, List.length_reverse]
theorem lcN_le (xs ys : List α) : lcN xs ys ≤ xs.length ∧ lcN xs ys ≤ ys.length := by
  obtain ⟨zs, a, b, c⟩ := (lcN_isL xs ys).ex
  have := a.length_le
  have := b.length_le
  omega
/-- two rows within a third have many in common -/
theorem sub_meet : ∀ (ys z1 z2 : List α), z1.Sublist ys → z2.Sublist ys → ∃ w : List α, w.Sublist z1 ∧ w.Sublist z2 ∧ z1.length + z2.length ≤ w.length + ys.length
  | [], z1, z2, h1, h2 => by
    rw [List.sublist_nil.mp h1, List.sublist_nil.mp h2]
    exact ⟨[], List.Sublist.refl _, List.Sublist.refl _, by simp⟩
  | y :: ys, z1, z2, h1, h2 => by
    cases h1 with
    | cons _ h1 =>
      cases h2 with
      | cons _ h2 =>
        obtain ⟨w, a, b, c⟩ := sub_meet ys z1 z2 h1 h2
        exact ⟨w, a, b, by simp only [List.length_cons]; omega⟩
      | @cons_cons l1 _ _ h2 =>
        obtain ⟨w, a, b, c⟩ := sub_meet ys z1 _ h1 h2
        exact ⟨w, a, b.cons y, by simp only [List.length_cons]; omega⟩
    | @cons_cons l1 _ _ h1 =>
      cases h2 with
      | cons _ h2 =>
        obtain ⟨w, a, b, c⟩ := sub_meet ys _ z2 h1 h2
        exact ⟨w, a.cons y, b, by simp only [List.length_cons]; omega⟩
      | @cons_cons l2 _ _ h2 =>
        obtain ⟨w, a, b, c⟩ := sub_meet ys _ _ h1 h2
        exact ⟨y :: w, a.cons_cons y, b.cons_cons y, by simp only [List.length_cons]; omega⟩
theorem lcN_tri (xs ys zs : List α) : lcN xs ys + lcN ys zs ≤ lcN xs zs + ys.length := by
  obtain ⟨z1, a1, a2, a3⟩ := (lcN_isL xs ys).ex
  obtain ⟨z2, b1, b2, b3⟩ := (lcN_isL ys zs).ex
  obtain ⟨w, c1, c2, c3⟩ := sub_meet ys z1 z2 a2 b1
  have := (lcN_isL xs zs).le w (c1.trans a1) (c2.trans b2)
  omega
/-- how many go and come at the least -/
def dsN : List α → List α → Nat
  | [], ys => ys.length
  | x :: xs, [] => (x :: xs).length
  | x :: xs, y :: ys => if x = y then dsN xs ys else 1 + min (dsN xs (y :: ys)) (dsN (x :: xs) ys)
termination_by xs ys => xs.length + ys.length
theorem dsN_nil (ys : List α) : dsN [] ys = ys.length := by unfold dsN; rfl
theorem dsN_nil2 (xs : List α) : dsN xs [] = xs.length := by cases xs <;> (unfold dsN; rfl)
theorem dsN_cons (x y : α) (xs ys : List α) : dsN (x :: xs) (y :: ys) = if x = y then dsN xs ys else 1 + min (dsN xs (y :: ys)) (dsN (x :: xs) ys) := by
  rw [dsN]
theorem dsN_lc : ∀ (n : Nat) (xs ys : List α), xs.length + ys.length ≤ n → dsN xs ys + 2 * lcN xs ys = xs.length + ys.length
  | _, [], ys, _ => by rw [dsN_nil, lcN_nil]; simp
  | _, x :: xs, [], _ => by rw [dsN_nil2, lcN_nil2]; simp
  | 0, x :: xs, y :: ys, h => by simp at h
  | n + 1, x :: xs, y :: ys, h => by
    simp only [List.length_cons] at h
    rw [dsN_cons, lcN_cons]
    by_cases e : x = y
    · rw [if_pos e, if_pos e]
      have := dsN_lc n xs ys (by omega)
      simp only [List.length_cons]
      omega
    · rw [if_neg e, if_neg e]
      have h1 := dsN_lc n xs (y :: ys) (by simp only [List.length_cons]; omega)
      have h2 := dsN_lc n (x :: xs) ys (by simp only [List.length_cons]; omega)
      simp only [List.length_cons] at h1 h2 ⊢
      omega
theorem ds_lc (xs ys : List α) : dsN xs ys + 2 * lcN xs ys = xs.length + ys.length := dsN_lc _ xs ys (Nat.le_refl _)
end
end MT
namespace MT
open L2
variable {T : Tab}
/-! ### dicts by pairs of numbers, by rules -/
theorem evE_dgt {cl : CL} {ρ : Env} (i : Nat) (es : List E) : evE cl (.dgt i es) ρ = (rdKB ρ i).bind fun kvs => (evEs cl es ρ).bind fun ds => dgtD kvs (.tup ds) := rfl
theorem dgt_e {cl : CL} {ρ : Env} {i : Nat} {es : List E} {kvs : List (List Int × Int)} {x y n : Int} (hr : rdKB ρ i = .ok kvs) (he : evEs cl es ρ = .ok [.int x, .int y]) (hg : getDT kvs [x, y] = some n) : evE cl (.dgt i es) ρ = .ok (.int n) := by
  rw [evE_dgt, hr, bnd_ok, he, bnd_ok]
  show (match getDT kvs [x, y] with
    | some n => R.ok (D.int n)
    | none => R.no) = _
  rw [hg]
theorem dput_s {cl : CL} {ρ : Env} {i : Nat} {es : List E} {e : E} {kvs : List (List Int × Int)} {x y n : Int} (hr : ρ[i]? = some (.obj none (.dic kvs))) (he : evEs cl es ρ = .ok [.int x, .int y]) (h : evE cl e ρ = .ok (.int n)) (hl : kvs.length < 16777216) :
    evS cl (.dput i es e) ρ = .ok (.nx (ρ.set i (.obj none (.dic (putDT kvs [x, y] n))))) := by
  have hi : i < ρ.length := (List.getElem?_eq_some_iff.mp hr).1
  have h1 : rdKV ρ i = .ok kvs := by unfold rdKV; rw [hr]
  show ((evE cl e ρ).bind fun d => (intD d).bind fun n => (rdKV ρ i).bind fun kvs => (evEs cl es ρ).bind fun ds => match keyD (.tup ds) with
    | some key => guardR (decide (kvs.length < 16777216)) ((put ρ i (.obj none (.dic (putDT kvs key n)))).bind fun ρ' => R.ok (Fl.nx ρ'))
    | none => .no) = _
  rw [h, bnd_ok, intD_i, bnd_ok, h1, bnd_ok, he, bnd_ok]
  show guardR (decide (kvs.length < 16777216)) ((put ρ i (.obj none (.dic (putDT kvs [x, y] n)))).bind fun ρ' => R.ok (Fl.nx ρ')) = _
  rw [decide_eq_true hl, guardR_t, put_ok hi, bnd_ok]
theorem getDT_same (kvs : List (List Int × Int)) (k : List Int) (v : Int) : getDT (putDT kvs k v) k = some v := by
  unfold getDT putDT
  by_cases h : (kvs.any fun kv => decide (kv.1 = k)) = true
  · rw [if_pos h]
    induction kvs with
    | nil => cases h
    | cons p r ih =>
      rw [List.map_cons]
      by_cases e : p.1 = k
      · rw [if_pos e, List.find?_cons_of_pos (by simpa using e)]
        rfl
      · rw [if_neg e, List.find?_cons_of_neg (by simpa using e)]
        exact ih (by simpa [e] using h)
  · rw [if_neg h, List.find?_append]
    have : kvs.find? (fun kv => decide (kv.1 = k)) = none := by
      rw [List.find?_eq_none]
      intro p hp q
      exact h (List.any_eq_true.mpr ⟨p, hp, q⟩)
    rw [this, Option.none_or, List.find?_cons_of_pos (by simp)]
    rfl
theorem getDT_other (kvs : List (List Int × Int)) (k k' : List Int) (v : Int) (hk : k' ≠ k) : getDT (putDT kvs k v) k' = getDT kvs k' := by
  unfold getDT putDT
  by_cases h : (kvs.any fun kv => decide (kv.1 = k)) = true
  · rw [if_pos h]
    clear h
    induction kvs with
    | nil => rfl
    | cons p r ih =>
      rw [List.map_cons]
      by_cases e : p.1 = k
      · rw [if_pos e, List.find?_cons_of_neg (by simpa [e] using fun q => hk q.symm), List.find?_cons_of_neg (by simpa [e] using fun q => hk q.symm)]
        exact ih
      · rw [if_neg e]
        by_cases e' : p.1 = k'
        · rw [List.find?_cons_of_pos (by simpa using e'), List.find?_cons_of_pos (by simpa using e')]
        · rw [List.find?_cons_of_neg (by simpa using e'), List.find?_cons_of_neg (by simpa using e')]
          exact ih
  · rw [if_neg h, List.find?_append, List.find?_cons_of_neg (by simpa using fun q => hk q.symm), List.find?_nil, Option.or_none]
theorem putDT_len (kvs : List (List Int × Int)) (k : List Int) (v : Int) : (putDT kvs k v).length ≤ kvs.length + 1 := by
  unfold putDT
  split
  · rw [List.length_map]; omega
  · simp
/-! ### four unlike blocks -/
def blk (i : Nat) : D := four.getD i .non
theorem blk_eqv {i j : Nat} (hi : i < 4) (hj : j < 4) : D.eqv (blk i) (blk j) = decide (i = j) := by
  have key : ∀ a b : Fin 4, D.eqv (blk a.val) (blk b.val) = decide (a.val = b.val) := by decide +kernel
  exact key ⟨i, hi⟩ ⟨j, hj⟩
theorem blk_shal {i : Nat} (hi : i < 4) : shal (blk i) = true := by
  have key : ∀ a : Fin 4, shal (blk a.val) = true := by decide +kernel
  exact key ⟨i, hi⟩
theorem blk_eq {i j : Nat} (hi : i < 4) (hj : j < 4) : cmpD .eq (blk i) (blk j) = .ok (.bl (decide (i = j))) := by
  show guardR (shal (blk i) && shal (blk j)) (R.ok (D.bl (D.eqv (blk i) (blk j)))) = _
  rw [blk_shal hi, blk_shal hj, blk_eqv hi hj]
  rfl
def encB (xs : List Nat) : List D := xs.map blk
structure Sm (xs : List Nat) : Prop where
  lt : ∀ x ∈ xs, x < 4
  ln : xs.length ≤ 100
theorem Sm.get {xs : List Nat} (h : Sm xs) {a : Nat} (ha : a < xs.length) : xs[a] < 4 := h.lt _ (List.getElem_mem ha)
theorem encB_get {xs : List Nat} {a : Nat} (ha : a < xs.length) : (encB xs)[a]? = some (blk xs[a]) := by
  unfold encB
  rw [List.getElem?_map, List.getElem?_eq_getElem ha]; rfl
theorem encB_len (xs : List Nat) : (encB xs).length = xs.length := by unfold encB; simp
/-! ### the table -/
def TbOk (xs ys : List Nat) (kvs : List (List Int × Int)) : Prop := ∀ a b : Nat, a ≤ xs.length → b ≤ ys.length → getDT kvs [(a : Int), (b : Int)] = some ((dsN (xs.drop a) (ys.drop b) : Nat) : Int)
/-- what is done: i rows from the end, and j places of the next one -/
structure TbAt (xs ys : List Nat) (i j : Nat) (kvs : List (List Int × Int)) : Prop where
  ok : ∀ a b : Nat, a ≤ xs.length → b ≤ ys.length → (xs.length < a + i ∨ (a + i = xs.length ∧ ys.length < b + j)) → getDT kvs [(a : Int), (b : Int)] = some ((dsN (xs.drop a) (ys.drop b) : Nat) : Int)
  ln : kvs.length ≤ 101 * i + j
theorem TbAt.put {xs ys : List Nat} {i j : Nat} {kvs : List (List Int × Int)} (h : TbAt xs ys i j kvs) {n : Nat} (hi : i ≤ xs.length) (hj : j ≤ ys.length) (hn : dsN (xs.drop (xs.length - i)) (ys.drop (ys.length - j)) = n) : TbAt xs ys i (j + 1) (putDT kvs [((xs.length - i : Nat) : Int), ((ys.length - j : Nat) : Int)] n) := by
  refine ⟨fun a b ha hb hc => ?_, by have := putDT_len kvs [((xs.length - i : Nat) : Int), ((ys.length - j : Nat) : Int)] n; have := h.ln; omega⟩
  by_cases e : a = xs.length - i ∧ b = ys.length - j
  · obtain ⟨rfl, rfl⟩ := e
    rw [getDT_same, hn]
  · rw [getDT_other _ _ _ _ (by
      intro q
      have q1 : (a : Int) = ((xs.length - i : Nat) : Int) ∧ (b : Int) = ((ys.length - j : Nat) : Int) := by simpa using q
      exact e ⟨by omega, by omega⟩)]
    exact h.ok a b ha hb (by omega)
def tblB : List S := [.iff (.or (.cmp .eq (.v 3) (.pr .len [(.v 0)])) (.cmp .eq (.v 4) (.pr .len [(.v 1)]))) [.dput 2 [(.v 3), (.v 4)] (.bin .sub (.bin .add (.bin .sub (.pr .len [(.v 0)]) (.v 3)) (.pr .len [(.v 1)])) (.v 4))] [.iff (.cmp .eq (.idx (.v 0) (.v 3)) (.idx (.v 1) (.v 4))) [.dput 2 [(.v 3), (.v 4)] (.dgt 2 [(.bin .add (.v 3) (.c (.int 1))), (.bin .add (.v 4) (.c (.int 1)))])] [.dput 2 [(.v 3), (.v 4)] (.bin .add (.c (.int 1)) (.pr .min2 [(.dgt 2 [(.bin .add (.v 3) (.c (.int 1))), (.v 4)]), (.dgt 2 [(.v 3), (.bin .add (.v 4) (.c (.int 1)))])]))]]]
theorem len_eq {cl : CL} {ρ : Env} {i v : Nat} {X : List D} {a : Nat} (h1 : rdB ρ v = .ok (.int a)) (h2 : rdB ρ i = .ok (.tup X)) : evT cl (.cmp .eq (.v v) (.pr .len [(.v i)])) ρ = .ok (decide (a = X.length)) := by
  refine cmp_t (x := .int a) (y := .int X.length) h1 (by rw [bor_pr]; exact pr_v h2 (len_t X)) ?_
  rw [eq_ii]
  congr 2
  by_cases e : a = X.length
  · rw [decide_eq_true e, e]; simp
  · rw [decide_eq_false e]
    exact beq_eq_false_iff_ne.mpr (by omega)
theorem tbl_turn {cl : CL} {xs ys : List Nat} (hx : Sm xs) (hy : Sm ys) {i j : Nat} (hi : i ≤ xs.length) (hj : j ≤ ys.length) {kvs : List (List Int × Int)} (h : TbAt xs ys i j kvs) :
    ∃ kvs', TbAt xs ys i (j + 1) kvs' ∧ evSs cl tblB [.val (.tup (encB xs)), .val (.tup (encB ys)), .obj none (.dic kvs), .val (.int ((xs.length - i : Nat) : Int)), .val (.int ((ys.length - j : Nat) : Int))] = .ok (.nx [.val (.tup (encB xs)), .val (.tup (encB ys)), .obj none (.dic kvs'), .val (.int ((xs.length - i : Nat) : Int)), .val (.int ((ys.length - j : Nat) : Int))]) := by
  have lx := hx.ln
  have ly := hy.ln
  have ka : kvs.length < 16777216 := by have := h.ln; omega
  generalize ea : xs.length - i = a
  generalize eb : ys.length - j = b
  have ha : a ≤ xs.length := by omega
  have hb : b ≤ ys.length := by omega
  have pt : ∀ n : Nat, dsN (xs.drop a) (ys.drop b) = n → TbAt xs ys i (j + 1) (putDT kvs [(a : Int), (b : Int)] n) := fun n e => by
    have := h.put hi hj (n := n) (by rw [ea, eb]; exact e)
    rw [ea, eb] at this
    exact this
  have es : evEs cl [(.v 3), (.v 4)] [.val (.tup (encB xs)), .val (.tup (encB ys)), .obj none (.dic kvs), .val (.int (a : Int)), .val (.int (b : Int))] = .ok [.int (a : Int), .int (b : Int)] := rfl
  have t1 : evT cl (.cmp .eq (.v 3) (.pr .len [(.v 0)])) [.val (.tup (encB xs)), .val (.tup (encB ys)), .obj none (.dic kvs), .val (.int (a : Int)), .val (.int (b : Int))] = .ok (decide (a = xs.length)) := by
    have := len_eq (cl := cl) (ρ := [.val (.tup (encB xs)), .val (.tup (encB ys)), .obj none (.dic kvs), .val (.int (a : Int)), .val (.int (b : Int))]) (v := 3) (i := 0) (X := encB xs) (a := a) rfl rfl
    rw [encB_len] at this
    exact this
  have t2 : evT cl (.cmp .eq (.v 4) (.pr .len [(.v 1)])) [.val (.tup (encB xs)), .val (.tup (encB ys)), .obj none (.dic kvs), .val (.int (a : Int)), .val (.int (b : Int))] = .ok (decide (b = ys.length)) := by
    have := len_eq (cl := cl) (ρ := [.val (.tup (encB xs)), .val (.tup (encB ys)), .obj none (.dic kvs), .val (.int (a : Int)), .val (.int (b : Int))]) (v := 4) (i := 1) (X := encB ys) (a := b) rfl rfl
    rw [encB_len] at this
    exact this
  by_cases hend : a = xs.length ∨ b = ys.length
  · have tt := or_t (y := true) t1 (fun z => by rw [t2]; congr 1; simp at z; rw [decide_eq_true]; rcases hend with q | q; exact absurd q z; exact q) (fun _ => rfl)
    refine ⟨_, pt (xs.length - a + (ys.length - b)) ?_, ?_⟩
    · rcases hend with q | q
      · rw [q, List.drop_length, dsN_nil, List.length_drop]; omega
      · rw [q, List.drop_length, dsN_nil2, List.length_drop]; omega
    · refine iff_nx tt (ss_nx (dput_s rfl es (n := ((xs.length - a + (ys.length - b) : Nat) : Int)) ?_ ka) rfl) rfl
      have e1 : evE cl (.pr .len [(.v 0)]) [.val (.tup (encB xs)), .val (.tup (encB ys)), .obj none (.dic kvs), .val (.int (a : Int)), .val (.int (b : Int))] = .ok (.int (xs.length : Int)) := by rw [← encB_len xs]; rfl
      have e2 : evE cl (.pr .len [(.v 1)]) [.val (.tup (encB xs)), .val (.tup (encB ys)), .obj none (.dic kvs), .val (.int (a : Int)), .val (.int (b : Int))] = .ok (.int (ys.length : Int)) := by rw [← encB_len ys]; rfl
      have r := bin_e (cl := cl) (o := .sub) (b := .v 4) (x := .int ((xs.length : Int) - a + ys.length)) (y := .int (b : Int)) (by rw [bor_bin]; exact bin_e (o := .add) (x := .int ((xs.length : Int) - a)) (y := .int (ys.length : Int)) (by rw [bor_bin]; exact bin_e (o := .sub) (b := .v 3) (x := .int (xs.length : Int)) (y := .int (a : Int)) (by rw [bor_pr]; exact e1) rfl rfl) (by rw [bor_pr]; exact e2) rfl) rfl (sub_ii _ _)
      rw [r]
      congr 2
      omega
  · have na : a < xs.length := by omega
    have nb : b < ys.length := by omega
    have tt := or_t (y := false) t1 (fun _ => by rw [t2, decide_eq_false (by omega)]) (fun z => by simp at z; omega)
    have da : xs.drop a = xs[a] :: xs.drop (a + 1) := List.drop_eq_getElem_cons na
    have db : ys.drop b = ys[b] :: ys.drop (b + 1) := List.drop_eq_getElem_cons nb
    have tq : evT cl (.cmp .eq (.idx (.v 0) (.v 3)) (.idx (.v 1) (.v 4))) [.val (.tup (encB xs)), .val (.tup (encB ys)), .obj none (.dic kvs), .val (.int (a : Int)), .val (.int (b : Int))] = .ok (decide (xs[a] = ys[b])) := cmp_t (x := blk xs[a]) (y := blk ys[b]) (by rw [bor_idx, evE_idx]; exact idx_t (encB_get na)) (by rw [bor_idx, evE_idx]; exact idx_t (encB_get nb)) (blk_eq (hx.get na) (hy.get nb))
    have g1 := h.ok (a + 1) (b + 1) (by omega) (by omega) (by omega)
    have g2 := h.ok (a + 1) b (by omega) hb (by omega)
    have g3 := h.ok a (b + 1) ha (by omega) (by omega)
    have c1 : ((a + 1 : Nat) : Int) = (a : Int) + 1 := by omega
    have c2 : ((b + 1 : Nat) : Int) = (b : Int) + 1 := by omega
    rw [c1, c2] at g1
    rw [c1] at g2
    rw [c2] at g3
    by_cases q : xs[a] = ys[b]
    · rw [decide_eq_true q] at tq
      refine ⟨_, pt (dsN (xs.drop (a + 1)) (ys.drop (b + 1))) (by rw [da, db, dsN_cons, if_pos q]), ?_⟩
      exact iff_nx tt (iff_nx tq (ss_nx (dput_s rfl es (dgt_e rfl rfl g1) ka) rfl) rfl) rfl
    · rw [decide_eq_false q] at tq
      refine ⟨_, pt (1 + min (dsN (xs.drop (a + 1)) (ys.drop b)) (dsN (xs.drop a) (ys.drop (b + 1)))) (by rw [da, db, dsN_cons, if_neg q]), ?_⟩
      refine iff_nx tt (iff_nx tq (ss_nx (dput_s rfl es (n := ((1 + min (dsN (xs.drop (a + 1)) (ys.drop b)) (dsN (xs.drop a) (ys.drop (b + 1))) : Nat) : Int)) ?_ ka) rfl) rfl) rfl
      have m := pr_2 (cl := cl) (p := .min2) (ρ := [.val (.tup (encB xs)), .val (.tup (encB ys)), .obj none (.dic kvs), .val (.int (a : Int)), .val (.int (b : Int))]) (e := .dgt 2 [(.bin .add (.v 3) (.c (.int 1))), (.v 4)]) (f := .dgt 2 [(.v 3), (.bin .add (.v 4) (.c (.int 1)))]) rfl rfl (dgt_e rfl rfl g2) (dgt_e rfl rfl g3) rfl
      have r := bin_e (cl := cl) (o := .add) (a := .c (.int 1)) (x := .int 1) rfl (by rw [bor_pr]; exact m) (add_ii _ _)
      rw [r]
      congr 2
      split <;> omega
theorem rrng1_n {n : Nat} (h : n < 1073741824) : itD .rrng1 [.int n] = .ok ((List.range n).map fun (k : Nat) => .int ((n : Int) - 1 - k)) := by
  show guardR (decide (-(2 ^ 30) < (n : Int) ∧ (n : Int) < 2 ^ 30)) (R.ok ((List.range (n : Int).toNat).map fun (k : Nat) => D.int ((n : Int) - 1 - k))) = _
  rw [decide_eq_true (by omega), Int.toNat_natCast]
  rfl
theorem rr_get {n k : Nat} {d : D} (h : ((List.range (n + 1)).map fun (k : Nat) => D.int (((n + 1 : Nat) : Int) - 1 - k))[k]? = some d) : k ≤ n ∧ d = .int ((n - k : Nat) : Int) := by
  have hk : k < n + 1 := by
    have := (List.getElem?_eq_some_iff.mp h).1
    simpa using this
  rw [List.getElem?_map, List.getElem?_range hk] at h
  refine ⟨by omega, ?_⟩
  rw [← Option.some.inj h]
  have e : ((n + 1 : Nat) : Int) - 1 - (k : Int) = ((n - k : Nat) : Int) := by omega
  show D.int (((n + 1 : Nat) : Int) - 1 - (k : Int)) = _
  rw [e]
theorem len1_e {cl : CL} {ρ : Env} {i : Nat} {X : List D} (h : rdB ρ i = .ok (.tup X)) : evEs cl [(.bin .add (.pr .len [(.v i)]) (.c (.int 1)))] ρ = .ok [.int ((X.length + 1 : Nat) : Int)] := by
  refine es_1 (bin_e (o := .add) (x := .int X.length) (y := .int 1) (by rw [bor_pr]; exact pr_v h (len_t X)) rfl ?_)
  rw [add_ii]
  rfl
def tblO : List S := [.for (.nm 4) .rrng1 [(.bin .add (.pr .len [(.v 1)]) (.c (.int 1)))] tblB]
theorem table_at (hT : T 64 = some (.ir ir_changes_table)) {xs ys : List Nat} (hx : Sm xs) (hy : Sm ys) (n : Nat) (hn : 1 ≤ n) : ∃ kvs, TbOk xs ys kvs ∧ callN T n 64 [.tup (encB xs), .tup (encB ys)] = .ok (.dct kvs) := by
  obtain ⟨n, rfl⟩ : ∃ m, n = m + 1 := ⟨n - 1, by omega⟩
  have lx := hx.ln
  have ly := hy.ln
  have ca : callN T (n + 1) 64 [.tup (encB xs), .tup (encB ys)] = evF (callN T n) ir_changes_table [.tup (encB xs), .tup (encB ys)] := by
    show (match T 64 with
      | some (.ir fn) => evF (callN T n) fn _
      | some (.xt g) => g _
      | none => .no) = _
    rw [hT]
  rw [ca]
  obtain ⟨ρ', e, kvs, a3, a4, rfl, ok⟩ := forGo_P (t := .nm 3) (body := evSs (callN T n) tblO) (fun i ρ => ∃ kvs a3 a4, ρ = [.val (.tup (encB xs)), .val (.tup (encB ys)), .obj none (.dic kvs), a3, a4] ∧ TbAt xs ys i 0 kvs) (xs := (List.range (xs.length + 1)).map fun (k : Nat) => D.int (((xs.length + 1 : Nat) : Int) - 1 - k)) (ρ := [.val (.tup (encB xs)), .val (.tup (encB ys)), .obj none (.dic []), .un, .un]) 0 ⟨[], _, _, rfl, fun a b ha hb hc => by omega, by simp⟩ (by
    rintro i d ρ hd ⟨kvs, a3, a4, rfl, ok⟩
    obtain ⟨hi, rfl⟩ := rr_get hd
    rw [Nat.zero_add] at ok ⊢
    refine ⟨_, rfl, ?_⟩
    obtain ⟨ρ2, e2, kvs2, b4, rfl, ok2⟩ := forGo_P (t := .nm 4) (body := evSs (callN T n) tblB) (fun j ρ => ∃ kvs b4, ρ = [.val (.tup (encB xs)), .val (.tup (encB ys)), .obj none (.dic kvs), .val (.int ((xs.length - i : Nat) : Int)), b4] ∧ TbAt xs ys i j kvs) (xs := (List.range (ys.length + 1)).map fun (k : Nat) => D.int (((ys.length + 1 : Nat) : Int) - 1 - k)) (ρ := [.val (.tup (encB xs)), .val (.tup (encB ys)), .obj none (.dic kvs), .val (.int ((xs.length - i : Nat) : Int)), a4]) 0 ⟨kvs, _, rfl, ok⟩ (by
      rintro j d ρ hd ⟨kvs, b4, rfl, ok⟩
      obtain ⟨hj, rfl⟩ := rr_get hd
      rw [Nat.zero_add] at ok ⊢
      obtain ⟨kvs', ok', e'⟩ := tbl_turn (cl := callN T n) hx hy hi hj ok
      exact ⟨_, rfl, _, .inl e', kvs', _, rfl, ok'⟩)
    refine ⟨_, .inl (for_ss (len1_e (X := encB ys) rfl) (by rw [encB_len]; exact rrng1_n (by omega)) e2 rfl), kvs2, _, _, rfl, fun a b ha hb hc => ok2.ok a b ha hb ?_, ?_⟩
    · rw [List.length_map, List.length_range]; omega
    · have := ok2.ln
      rw [List.length_map, List.length_range] at this
      omega)
  refine ⟨kvs, fun a b ha hb => ok.ok a b ha hb (.inl (by rw [List.length_map, List.length_range]; omega)), ?_⟩
  refine evF_st (ρ := [.val (.tup (encB xs)), .val (.tup (encB ys)), .un, .un, .un]) rfl rfl ?_
  refine ss_nx (ρ' := [.val (.tup (encB xs)), .val (.tup (encB ys)), .obj none (.dic []), .un, .un]) rfl ?_
  exact for_ss (len1_e (X := encB xs) rfl) (by rw [encB_len]; exact rrng1_n (by omega)) e (ss_rt rfl)
end MT
namespace MT
/-! ### is_line, by a plain walk -/
def okW : D → Bool
  | .str s => !s.isEmpty
  | _ => false
def okA : D → Bool
  | .str s => !s.isEmpty && s.all fun c => decide (c ∈ signsC)
  | _ => false
def isTx : D → Bool
  | .tup (.str w :: _) => w == Wd.s .text
  | _ => false
/-- two texts side by side -/
def twoT : List D → Bool
  | x :: y :: r => (isTx x && isTx y) || twoT (y :: r)
  | _ => false
mutual
def okP : Nat → List (List Nat) → D → Bool
  | 0, _, _ => false
  | n + 1, wi, d => match d with
    | .tup [.str w, x] => if w = Wd.s .text ∨ w = Wd.s .code then okW x else if (w = Wd.s .strong ∨ w = Wd.s .slant) ∧ w ∉ wi then okL n (wi ++ [w]) x else false
    | .tup [.str w, x, y] => if w = Wd.s .link ∧ w ∉ wi ∧ okA y = true then okL n (wi ++ [w]) x else false
    | _ => false
def okL : Nat → List (List Nat) → D → Bool
  | 0, _, _ => false
  | n + 1, wi, d => match d with
    | .tup xs => !xs.isEmpty && (xs.all (okP n wi) && !twoT xs)
    | _ => false
end
/-! a value that can be looked at -/
mutual
def D.tm : D → Bool
  | .str s => decide (s.length ≤ 100000)
  | .tup xs => decide (xs.length ≤ 1000) && D.tms xs
  | .lst xs => D.tms xs
  | .scr _ => false
  | .dct _ => false
  | _ => true
def D.tms : List D → Bool
  | [] => true
  | x :: xs => D.tm x && D.tms xs
end
theorem tms_mem : ∀ {xs : List D}, D.tms xs = true → ∀ x ∈ xs, x.tm = true
  | [], _, x, hx => by cases hx
  | y :: ys, h, x, hx => by
    have h : (D.tm y && D.tms ys) = true := h
    rw [Bool.and_eq_true] at h
    rcases List.mem_cons.mp hx with rfl | hx
    · exact h.1
    · exact tms_mem h.2 x hx
variable {T : Tab}
structure DrI (T : Tab) : Prop where
  words : T 75 = some (.ir ir_docs_is_words)
  iaddr : T 66 = some (.ir ir_docs_is_address)
  piece : T 74 = some (.ir ir_docs_is_piece)
  linein : T 72 = some (.ir ir_docs_is_line_in)
  isline : T 71 = some (.ir ir_docs_is_line)
theorem isT_any (b i s t l : Bool) {d : D} (h : d.tm = true) : prD (.isT b i s t l) [d] = .ok (.bl (isTyD b i s t l d)) := by
  cases d <;> first
    | rfl
    | cases h
theorem words_at (t : DrI T) {d : D} (h : d.tm = true) : At T 1 75 [d] (.ok (.bl (okW d))) := by
  refine At.step t.words fun j _ => evF_st (ρ := [.val d]) rfl rfl (ss_rt ?_)
  have i1 : evE (callN T j) (.pr (.isT false false true false false) [(.v 0)]) [.val d] = .ok (.bl (isTyD false false true false false d)) := pr_v (d := d) rfl (isT_any _ _ _ _ _ h)
  rw [evS_ret, bor_and, evE_and, i1]
  cases d with
  | str s =>
    have hs : s.length ≤ 100000 := of_decide_eq_true h
    have l1 : evE (callN T j) (.pr .len [(.v 0)]) [.val (.str s)] = .ok (.int s.length) := pr_v (d := .str s) rfl (len_s (by omega))
    show (((evE (callN T j) (.cmp .gt (.pr .len [(.v 0)]) (.c (.int 0))) [.val (.str s)])).bind fun d => R.ok (Fl.rt d)) = _
    rw [evE_cmp, bor_pr, l1]
    show R.ok (Fl.rt (D.bl (decide ((0 : Int) < (s.length : Int))))) = R.ok (Fl.rt (D.bl !s.isEmpty))
    have : decide ((0 : Int) < (s.length : Int)) = !s.isEmpty := by
      cases s with
      | nil => rfl
      | cons c s => simp
    rw [this]
  | scr xs => cases h
  | dct xs => cases h
  | _ => rfl
theorem bls_map {α : Type} (f : α → Bool) : ∀ xs : List α, blsD (xs.map fun x => D.bl (f x)) = some (xs.map f)
  | [] => rfl
  | x :: xs => by
    show (blsD (xs.map fun x => D.bl (f x))).map (f x :: ·) = _
    rw [bls_map f xs]; rfl
theorem all_map {α : Type} (f : α → Bool) (xs : List α) : prD .all [.lst (xs.map fun x => D.bl (f x))] = .ok (.bl (xs.all f)) := by
  show (ofO (blsD (xs.map fun x => D.bl (f x)))).bind _ = _
  rw [bls_map]
  show R.ok (D.bl ((xs.map f).all id)) = _
  rw [List.all_map]
  rfl
theorem any_map {α : Type} (f : α → Bool) (xs : List α) : prD .any [.lst (xs.map fun x => D.bl (f x))] = .ok (.bl (xs.any f)) := by
  show (ofO (blsD (xs.map fun x => D.bl (f x)))).bind _ = _
  rw [bls_map]
  show R.ok (D.bl ((xs.map f).any id)) = _
  rw [List.any_map]
  rfl
theorem addr_ok (t : DrI T) {d : D} (h : d.tm = true) : At T 2 66 [d] (.ok (.bl (okA d))) := by
  refine At.step t.iaddr fun j hj => evF_st (ρ := [.val d, .un]) rfl rfl (ss_rt ?_)
  have c1 := call_1 (cl := callN T j) (ρ := [.val d, .un]) (f := 75) (e := .v 0) rfl (words_at t h j hj)
  rw [evS_ret, bor_and, evE_and, c1, bnd_ok]
  cases d with
  | str s =>
    have hs : s.length ≤ 100000 := of_decide_eq_true h
    cases s with
    | nil => rfl
    | cons c s =>
      have lc : lcGo (.nm 1) (evC (callN T j) []) (evE (callN T j) (.cmp .isin (.v 1) (.c (.str signsC)))) [.val (.str (c :: s)), .un] ((c :: s).map fun c => .str [c]) = .ok ((c :: s).map fun c => D.bl (decide (c ∈ signsC))) := by
        rw [lcGo_map (g := fun d => match d with
          | .str [c] => .bl (decide (c ∈ signsC))
          | d => d)]
        · rw [List.map_map]
          rfl
        · intro x hx
          obtain ⟨c', _, rfl⟩ := List.mem_map.mp hx
          exact ⟨_, rfl, rfl, rfl⟩
      have L := lc_ev (cl := callN T j) (ρ := [.val (.str (c :: s)), .un]) (k := .seq) (t := .nm 1) (es_1 (e := .v 0) rfl) (seq_s (c :: s)) rfl lc (by rw [List.length_map]; omega)
      have P := pr_1 (p := .all) rfl L (all_map _ _)
      show ((evE (callN T j) (.pr .all [(.lc (.nm 1) .seq [(.v 0)] [] (.cmp .isin (.v 1) (.c (.str signsC))))]) [.val (.str (c :: s)), .un]).bind fun d => R.ok (Fl.rt d)) = _
      rw [P]
      rfl
  | scr xs => cases h
  | dct xs => cases h
  | _ => rfl
theorem notin23 (n : Nat) : cmpD .notin (.int n) (.tup [.int 2, .int 3]) = .ok (.bl !(decide (n = 2 ∨ n = 3))) := by
  show R.ok (D.bl !(((2 : Int) == (n : Int)) || (((3 : Int) == (n : Int)) || false))) = _
  have : (((2 : Int) == (n : Int)) || (((3 : Int) == (n : Int)) || false)) = decide (n = 2 ∨ n = 3) := by
    by_cases h2 : n = 2
    · subst h2; rfl
    · by_cases h3 : n = 3
      · subst h3; rfl
      · rw [decide_eq_false (by omega)]
        have a : ((2 : Int) == (n : Int)) = false := by rw [beq_eq_false_iff_ne]; omega
        have b : ((3 : Int) == (n : Int)) = false := by rw [beq_eq_false_iff_ne]; omega
        rw [a, b]; rfl
  rw [this]
def wiS (wi : List (List Nat)) : D := .tup (wi.map .str)
/-- what is asked first -/
def pc1 : E := .or (.not (.pr (.isT false false false true false) [(.v 0)])) (.or (.cmp .notin (.pr .len [(.v 0)]) (.tup [(.c (.int 2)), (.c (.int 3))])) (.not (.pr (.isT false false true false false) [(.idx (.v 0) (.c (.int 0)))])))
def isPc : D → Bool
  | .tup [.str _, _] => true
  | .tup [.str _, _, _] => true
  | _ => false
theorem pc1_ev {cl : CL} {d w : D} (h : d.tm = true) : evT cl pc1 [.val d, .val w] = .ok !(isPc d) := by
  have t1 : evT cl (.not (.pr (.isT false false false true false) [(.v 0)])) [.val d, .val w] = .ok !(isTyD false false false true false d) := by
    rw [evT_not, evT_pr, pr_v (d := d) rfl (isT_any _ _ _ _ _ h)]
    rfl
  cases d with
  | tup xs =>
    have h : (decide (xs.length ≤ 1000) && D.tms xs) = true := h
    rw [Bool.and_eq_true] at h
    have t2 : evT cl (.cmp .notin (.pr .len [(.v 0)]) (.tup [(.c (.int 2)), (.c (.int 3))])) [.val (.tup xs), .val w] = .ok !(decide (xs.length = 2 ∨ xs.length = 3)) := by
      have l1 : evE cl (.pr .len [(.v 0)]) [.val (.tup xs), .val w] = .ok (.int xs.length) := pr_v (d := .tup xs) rfl rfl
      rw [evT_cmp, evE_cmp, bor_pr, l1, bnd_ok]
      show ((cmpD .notin (.int xs.length) (.tup [.int 2, .int 3])).bind truth) = _
      rw [notin23]
      rfl
    show evT cl (.or _ _) _ = _
    rw [evT_or, t1]
    show evT cl (.or _ _) _ = _
    rw [evT_or, t2, bnd_ok]
    have fin : ∀ x r, xs = x :: r → evT cl (.not (.pr (.isT false false true false false) [(.idx (.v 0) (.c (.int 0)))])) [.val (.tup xs), .val w] = .ok !(isTyD false false true false false x) := fun x r e => by
      subst e
      have i0 : evE cl (.idx (.v 0) (.c (.int 0))) [.val (.tup (x :: r)), .val w] = .ok x := idx_t (xs := x :: r) (j := 0) rfl
      rw [evT_not, evT_pr, pr_1 rfl i0 (isT_any _ _ _ _ _ (tms_mem h.2 x List.mem_cons_self))]
      rfl
    match xs, fin with
    | [], _ => rfl
    | [a], _ => cases a <;> rfl
    | [a, b], fin =>
      show evT cl _ _ = _
      rw [fin a [b] rfl]
      cases a <;> rfl
    | [a, b, c], fin =>
      show evT cl _ _ = _
      rw [fin a [b, c] rfl]
      cases a <;> rfl
    | a :: b :: c :: e :: r, _ =>
      have : decide ((a :: b :: c :: e :: r).length = 2 ∨ (a :: b :: c :: e :: r).length = 3) = false := decide_eq_false (by simp)
      rw [this]
      cases a <;> rfl
  | scr xs => cases h
  | dct xs => cases h
  | _ =>
    show evT cl (.or _ _) _ = _
    rw [evT_or, t1]
    rfl
theorem str_dec (w : List Nat) (x : Wd) : (w == x.s) = decide (w = x.s) := by
  by_cases h : w = x.s
  · rw [decide_eq_true h, h]; simp
  · rw [decide_eq_false h]; simp [h]
theorem piece_go (t : DrI T) {j n : Nat} (hj : 2 ≤ j) (rec : ∀ (x : D) (wi : List (List Nat)), x.tm = true → x.depth < n → wi.length + n ≤ 1000 → callN T j 72 [x, wiS wi] = .ok (.bl (okL n wi x))) {d : D} (h : d.tm = true) (hd : d.depth < n + 1) {wi : List (List Nat)} (hw : wi.length + (n + 1) ≤ 1000) :
    evF (callN T j) ir_docs_is_piece [d, wiS wi] = .ok (.bl (okP (n + 1) wi d)) := by
  refine evF_st (ρ := [.val d, .val (wiS wi)]) rfl rfl ?_
  have p1 := pc1_ev (cl := callN T j) (d := d) (w := wiS wi) h
  cases hp : isPc d with
  | false =>
    rw [hp] at p1
    have e : okP (n + 1) wi d = false := by
      unfold isPc at hp
      unfold okP
      split at hp <;> first
        | (cases hp; done)
        | rfl
    rw [e]
    exact ss_rt (by
      show evS (callN T j) (.iff pc1 [.ret (.c (.bl false))] []) _ = _
      rw [evS_iff, p1]
      rfl)
  | true =>
    rw [hp] at p1
    refine iff_no (c := pc1) p1 ?_
    -- what stands there
    obtain ⟨w, x, r, rfl, hr⟩ : ∃ w x r, d = .tup (.str w :: x :: r) ∧ (r = [] ∨ ∃ y, r = [y]) := by
      unfold isPc at hp
      split at hp
      · exact ⟨_, _, _, rfl, .inl rfl⟩
      · exact ⟨_, _, _, rfl, .inr ⟨_, rfl⟩⟩
      · cases hp
    have h' : (decide ((D.str w :: x :: r).length ≤ 1000) && D.tms (.str w :: x :: r)) = true := h
    rw [Bool.and_eq_true] at h'
    have hx : x.tm = true := tms_mem h'.2 x (by simp)
    have hxd : x.depth < n := by
      have h1 : D.depths (.str w :: x :: r) + 1 < n + 1 := hd
      have h2 := depths_mem (xs := .str w :: x :: r) (x := x) (by simp)
      omega
    generalize hρ : ([.val (.tup (.str w :: x :: r)), .val (wiS wi)] : Env) = ρ
    have i0 : evE (callN T j) (.idx (.v 0) (.c (.int 0))) ρ = .ok (.str w) := by rw [← hρ]; exact idx_t (xs := .str w :: x :: r) (j := 0) rfl
    have i1 : evE (callN T j) (.idx (.v 0) (.c (.int 1))) ρ = .ok x := by rw [← hρ]; exact idx_t (xs := .str w :: x :: r) (j := 1) rfl
    have ln : evE (callN T j) (.pr .len [(.v 0)]) ρ = .ok (.int (r.length + 2 : Nat)) := by rw [← hρ]; rfl
    have len2 : evE (callN T j) (.cmp .eq (.pr .len [(.v 0)]) (.c (.int 2))) ρ = .ok (.bl r.isEmpty) := by
      rw [evE_cmp, bor_pr, ln]
      rcases hr with rfl | ⟨y, rfl⟩ <;> rfl
    have len3 : evE (callN T j) (.cmp .eq (.pr .len [(.v 0)]) (.c (.int 3))) ρ = .ok (.bl !r.isEmpty) := by
      rw [evE_cmp, bor_pr, ln]
      rcases hr with rfl | ⟨y, rfl⟩ <;> rfl
    have tc : evT (callN T j) (.cmp .isin (.idx (.v 0) (.c (.int 0))) (.tup [(.c (.str [116, 101, 120, 116])), (.c (.str [99, 111, 100, 101]))])) ρ = .ok (decide (w = Wd.s .text ∨ w = Wd.s .code)) := by
      rw [evT_cmp, evE_cmp, bor_idx, i0]
      show ((cmpD .isin (.str w) (.tup ([Wd.s .text, Wd.s .code].map .str))).bind truth) = _
      rw [in_strs]
      show R.ok (decide (w ∈ [Wd.s .text, Wd.s .code])) = _
      congr 1
      exact decide_eq_decide.mpr (by simp)
    have kk : evT (callN T j) (.cmp .notin (.idx (.v 0) (.c (.int 0))) (.tup [(.c (.str [115, 116, 114, 111, 110, 103])), (.c (.str [115, 108, 97, 110, 116])), (.c (.str [108, 105, 110, 107]))])) ρ = .ok !(decide (w = Wd.s .strong ∨ w = Wd.s .slant ∨ w = Wd.s .link)) := by
      have e : cmpD .notin (.str w) (.tup ([Wd.s .strong, Wd.s .slant, Wd.s .link].map .str)) = .ok (.bl !(decide (w ∈ [Wd.s .strong, Wd.s .slant, Wd.s .link]))) := by
        have := in_strs w [Wd.s .strong, Wd.s .slant, Wd.s .link]
        have this : (inD (.str w) (.tup ([Wd.s .strong, Wd.s .slant, Wd.s .link].map .str))).bind (fun b => R.ok (D.bl b)) = _ := this
        show (inD (.str w) (.tup ([Wd.s .strong, Wd.s .slant, Wd.s .link].map .str))).bind (fun b => R.ok (D.bl !b)) = _
        cases q : inD (.str w) (.tup ([Wd.s .strong, Wd.s .slant, Wd.s .link].map .str)) with
        | no => rw [q] at this; cases this
        | ex c => rw [q] at this; cases this
        | ok b =>
          rw [q] at this
          have : b = decide (w ∈ [Wd.s .strong, Wd.s .slant, Wd.s .link]) := D.bl.inj (R.ok.inj this)
          rw [this]
          rfl
      rw [evT_cmp, evE_cmp, bor_idx, i0]
      show ((cmpD .notin (.str w) (.tup ([Wd.s .strong, Wd.s .slant, Wd.s .link].map .str))).bind truth) = _
      rw [e]
      show R.ok (!(decide (w ∈ [Wd.s .strong, Wd.s .slant, Wd.s .link]))) = _
      rw [show decide (w ∈ [Wd.s .strong, Wd.s .slant, Wd.s .link]) = decide (w = Wd.s .strong ∨ w = Wd.s .slant ∨ w = Wd.s .link) from decide_eq_decide.mpr (by simp)]
    have ww : evT (callN T j) (.cmp .isin (.idx (.v 0) (.c (.int 0))) (.v 1)) ρ = .ok (decide (w ∈ wi)) := by
      rw [evT_cmp, evE_cmp, bor_idx, i0, bnd_ok]
      have v1 : bor ρ (.v 1) (evE (callN T j) (.v 1) ρ) = .ok (wiS wi) := by rw [← hρ]; rfl
      rw [v1, bnd_ok, wiS, in_strs]
      rfl
    by_cases a1 : w = Wd.s .text ∨ w = Wd.s .code
    · have e : okP (n + 1) wi (.tup (.str w :: x :: r)) = (r.isEmpty && okW x) := by
        rcases hr with rfl | ⟨y, rfl⟩
        · show (if w = Wd.s .text ∨ w = Wd.s .code then okW x else _) = _
          rw [if_pos a1]; rfl
        · show (if w = Wd.s .link ∧ w ∉ wi ∧ okA y = true then _ else false) = _
          rw [if_neg]
          · rfl
          · rintro ⟨z, _⟩
            rcases a1 with rfl | rfl <;> exact absurd z (by decide)
      rw [e]
      refine ss_rt ?_
      rw [evS_iff, tc, bnd_ok, if_pos (decide_eq_true a1)]
      refine ss_rt ?_
      rw [evS_ret, bor_and, evE_and, len2, bnd_ok]
      have cw := call_1 i1 (words_at t hx j (by omega))
      cases r.isEmpty with
      | true => show ((evE (callN T j) _ ρ).bind fun d => R.ok (Fl.rt d)) = _; rw [cw]; rfl
      | false => rfl
    · refine iff_no (by rw [tc, decide_eq_false a1]) ?_
      by_cases a2 : (w = Wd.s .strong ∨ w = Wd.s .slant ∨ w = Wd.s .link) ∧ w ∉ wi
      · refine iff_no (or_ff (by rw [kk, decide_eq_true a2.1]; rfl) (by rw [ww, decide_eq_false a2.2])) ?_
        -- the third part
        have wl : evE (callN T j) (.cmp .eq (.idx (.v 0) (.c (.int 0))) (.c (.str [108, 105, 110, 107]))) ρ = .ok (.bl (decide (w = Wd.s .link))) := by
          rw [evE_cmp, bor_idx, i0]
          show R.ok (D.bl (w == Wd.s .link)) = _
          rw [str_dec]
        have n1 : evT (callN T j) (.cmp .ne (.cmp .eq (.pr .len [(.v 0)]) (.c (.int 3))) (.cmp .eq (.idx (.v 0) (.c (.int 0))) (.c (.str [108, 105, 110, 107])))) ρ = .ok !((!r.isEmpty) == decide (w = Wd.s .link)) := by
          rw [evT_cmp, evE_cmp, bor_cmp, len3, bnd_ok, bor_cmp, wl]
          rfl
        have fin : ∀ b : Bool, okP (n + 1) wi (.tup (.str w :: x :: r)) = okL n (wi ++ [w]) x → evT (callN T j) (.or (.cmp .ne (.cmp .eq (.pr .len [(.v 0)]) (.c (.int 3))) (.cmp .eq (.idx (.v 0) (.c (.int 0))) (.c (.str [108, 105, 110, 107])))) (.and (.cmp .eq (.pr .len [(.v 0)]) (.c (.int 3))) (.not (.call 66 [(.idx (.v 0) (.c (.int 2)))])))) ρ = .ok false →
            evSs (callN T j) [.iff (.or (.cmp .ne (.cmp .eq (.pr .len [(.v 0)]) (.c (.int 3))) (.cmp .eq (.idx (.v 0) (.c (.int 0))) (.c (.str [108, 105, 110, 107])))) (.and (.cmp .eq (.pr .len [(.v 0)]) (.c (.int 3))) (.not (.call 66 [(.idx (.v 0) (.c (.int 2)))])))) [.ret (.c (.bl false))] [], .ret (.call 72 [(.idx (.v 0) (.c (.int 1))), (.bin .add (.v 1) (.tup [(.idx (.v 0) (.c (.int 0)))]))])] ρ = .ok (.rt (.bl (okP (n + 1) wi (.tup (.str w :: x :: r))))) := fun _ e h0 => by
          refine iff_no h0 (ss_rt ?_)
          have ad : evE (callN T j) (.bin .add (.v 1) (.tup [(.idx (.v 0) (.c (.int 0)))])) ρ = .ok (wiS (wi ++ [w])) := by
            have tw : evE (callN T j) (.tup [(.idx (.v 0) (.c (.int 0)))]) ρ = .ok (.tup [.str w]) := by rw [evE_tup, es_1 i0]; rfl
            have v1 : bor ρ (.v 1) (evE (callN T j) (.v 1) ρ) = .ok (wiS wi) := by rw [← hρ]; rfl
            rw [evE_bin, v1, bnd_ok, bor_tup, tw, bnd_ok, wiS, add_tt (by simp; omega), wiS, List.map_append]
            rfl
          rw [evS_ret, bor_call, call_2 i1 ad (rec x (wi ++ [w]) hx hxd (by simp; omega)), e]
          rfl
        have no : okP (n + 1) wi (.tup (.str w :: x :: r)) = false → evT (callN T j) (.or (.cmp .ne (.cmp .eq (.pr .len [(.v 0)]) (.c (.int 3))) (.cmp .eq (.idx (.v 0) (.c (.int 0))) (.c (.str [108, 105, 110, 107])))) (.and (.cmp .eq (.pr .len [(.v 0)]) (.c (.int 3))) (.not (.call 66 [(.idx (.v 0) (.c (.int 2)))])))) ρ = .ok true →
            evSs (callN T j) [.iff (.or (.cmp .ne (.cmp .eq (.pr .len [(.v 0)]) (.c (.int 3))) (.cmp .eq (.idx (.v 0) (.c (.int 0))) (.c (.str [108, 105, 110, 107])))) (.and (.cmp .eq (.pr .len [(.v 0)]) (.c (.int 3))) (.not (.call 66 [(.idx (.v 0) (.c (.int 2)))])))) [.ret (.c (.bl false))] [], .ret (.call 72 [(.idx (.v 0) (.c (.int 1))), (.bin .add (.v 1) (.tup [(.idx (.v 0) (.c (.int 0)))]))])] ρ = .ok (.rt (.bl (okP (n + 1) wi (.tup (.str w :: x :: r))))) := fun e h0 => by
          rw [e]
          exact ss_rt (by rw [evS_iff, h0]; rfl)
        rcases hr with rfl | ⟨y, rfl⟩
        · by_cases wlk : w = Wd.s .link
          · refine no ?_ (by rw [evT_or, n1, wlk]; rfl)
            show (if w = Wd.s .text ∨ w = Wd.s .code then okW x else if (w = Wd.s .strong ∨ w = Wd.s .slant) ∧ w ∉ wi then okL n (wi ++ [w]) x else false) = _
            rw [if_neg a1, if_neg]
            rintro ⟨z, _⟩
            rw [wlk] at z
            rcases z with z | z <;> exact absurd z (by decide)
          · refine fin true ?_ ?_
            · show (if w = Wd.s .text ∨ w = Wd.s .code then okW x else if (w = Wd.s .strong ∨ w = Wd.s .slant) ∧ w ∉ wi then okL n (wi ++ [w]) x else false) = _
              rw [if_neg a1, if_pos]
              refine ⟨?_, a2.2⟩
              rcases a2.1 with z | z | z
              · exact .inl z
              · exact .inr z
              · exact absurd z wlk
            · refine or_ff (by rw [n1, decide_eq_false wlk]; rfl) ?_
              rw [evT_and, evT_cmp, len3]
              rfl
        · have hy : y.tm = true := tms_mem h'.2 y (by simp)
          have i2 : evE (callN T j) (.idx (.v 0) (.c (.int 2))) ρ = .ok y := by rw [← hρ]; exact idx_t (xs := [.str w, x, y]) (j := 2) rfl
          have ca := call_1 i2 (addr_ok t hy j hj)
          have ta : evT (callN T j) (.and (.cmp .eq (.pr .len [(.v 0)]) (.c (.int 3))) (.not (.call 66 [(.idx (.v 0) (.c (.int 2)))]))) ρ = .ok !(okA y) := by
            rw [evT_and, evT_cmp, len3]
            show evT (callN T j) (.not (.call 66 [(.idx (.v 0) (.c (.int 2)))])) ρ = _
            rw [evT_not, evT_call, ca]
            rfl
          by_cases wlk : w = Wd.s .link
          · cases ha : okA y with
            | true =>
              refine fin true ?_ (or_ff (by rw [n1, decide_eq_true wlk]; rfl) (by rw [ta, ha]; rfl))
              show (if w = Wd.s .link ∧ w ∉ wi ∧ okA y = true then okL n (wi ++ [w]) x else false) = _
              rw [if_pos ⟨wlk, a2.2, ha⟩]
            | false =>
              refine no ?_ (by rw [evT_or, n1, decide_eq_true wlk]; show evT (callN T j) _ ρ = _; rw [ta, ha]; rfl)
              show (if w = Wd.s .link ∧ w ∉ wi ∧ okA y = true then okL n (wi ++ [w]) x else false) = _
              rw [if_neg (fun z => by rw [ha] at z; exact absurd z.2.2 (by decide))]
          · refine no ?_ (by rw [evT_or, n1, decide_eq_false wlk]; rfl)
            show (if w = Wd.s .link ∧ w ∉ wi ∧ okA y = true then okL n (wi ++ [w]) x else false) = _
            rw [if_neg (fun z => wlk z.1)]
      · have e : okP (n + 1) wi (.tup (.str w :: x :: r)) = false := by
          rcases hr with rfl | ⟨y, rfl⟩
          · show (if w = Wd.s .text ∨ w = Wd.s .code then okW x else if (w = Wd.s .strong ∨ w = Wd.s .slant) ∧ w ∉ wi then okL n (wi ++ [w]) x else false) = _
            rw [if_neg a1, if_neg (fun z => a2 ⟨by rcases z.1 with q | q; exact .inl q; exact .inr (.inl q), z.2⟩)]
          · show (if w = Wd.s .link ∧ w ∉ wi ∧ okA y = true then okL n (wi ++ [w]) x else false) = _
            rw [if_neg (fun z => a2 ⟨.inr (.inr z.1), z.2.1⟩)]
        rw [e]
        refine ss_rt ?_
        rw [evS_iff, evT_or, kk]
        by_cases b1 : w = Wd.s .strong ∨ w = Wd.s .slant ∨ w = Wd.s .link
        · have b2 : w ∈ wi := Classical.byContradiction fun z => a2 ⟨b1, z⟩
          rw [decide_eq_true b1]
          show ((evT (callN T j) (.cmp .isin (.idx (.v 0) (.c (.int 0))) (.v 1)) ρ).bind fun x => _) = _
          rw [ww, decide_eq_true b2]
          rfl
        · rw [decide_eq_false b1]
          rfl
theorem okP_tx {n : Nat} {wi : List (List Nat)} {d : D} (h : okP n wi d = true) : ∃ w, idxD d (.int 0) = .ok (.str w) ∧ (w == Wd.s .text) = isTx d := by
  cases n with
  | zero => cases h
  | succ n =>
    unfold okP at h
    split at h
    · exact ⟨_, idx_t (j := 0) rfl, rfl⟩
    · exact ⟨_, idx_t (j := 0) rfl, rfl⟩
    · cases h
theorem two_any : ∀ xs : List D, ((List.range (xs.length - 1)).any fun k => isTx (xs.getD k .non) && isTx (xs.getD (k + 1) .non)) = twoT xs
  | [] => rfl
  | [x] => rfl
  | x :: y :: r => by
    have ih := two_any (y :: r)
    rw [show (x :: y :: r).length - 1 = (y :: r).length - 1 + 1 by simp, List.range_succ_eq_map, List.any_cons, List.any_map]
    show ((isTx x && isTx y) || _) = ((isTx x && isTx y) || twoT (y :: r))
    rw [← ih]
    rfl
theorem linein_go (t : DrI T) {j n : Nat} (rec : ∀ (x : D) (wi : List (List Nat)), x.tm = true → x.depth < n → wi.length + n ≤ 1000 → callN T j 74 [x, wiS wi] = .ok (.bl (okP n wi x))) {d : D} (h : d.tm = true) (hd : d.depth < n + 1) {wi : List (List Nat)} (hw : wi.length + (n + 1) ≤ 1000) :
    evF (callN T j) ir_docs_is_line_in [d, wiS wi] = .ok (.bl (okL (n + 1) wi d)) := by
  refine evF_st (ρ := [.val d, .val (wiS wi), .un, .un]) rfl rfl ?_
  have t1 : evT (callN T j) (.not (.pr (.isT false false false true false) [(.v 0)])) [.val d, .val (wiS wi), .un, .un] = .ok !(isTyD false false false true false d) := by
    rw [evT_not, evT_pr, pr_v (d := d) rfl (isT_any _ _ _ _ _ h)]
    rfl
  have out : isTyD false false false true false d = false → okL (n + 1) wi d = false → evSs (callN T j) ir_docs_is_line_in.body [.val d, .val (wiS wi), .un, .un] = .ok (.rt (.bl (okL (n + 1) wi d))) := fun h1 h2 => by
    rw [h2]
    refine ss_rt ?_
    rw [evS_iff, evT_or, t1, h1]
    rfl
  cases d with
  | tup xs =>
    have h' : (decide (xs.length ≤ 1000) && D.tms xs) = true := h
    rw [Bool.and_eq_true] at h'
    have hl : xs.length ≤ 1000 := of_decide_eq_true h'.1
    have e : okL (n + 1) wi (.tup xs) = (!xs.isEmpty && (xs.all (okP n wi) && !twoT xs)) := rfl
    generalize hρ : ([.val (.tup xs), .val (wiS wi), .un, .un] : Env) = ρ
    have t2 : evT (callN T j) (.cmp .eq (.pr .len [(.v 0)]) (.c (.int 0))) ρ = .ok xs.isEmpty := by
      have l1 : evE (callN T j) (.pr .len [(.v 0)]) ρ = .ok (.int xs.length) := by rw [← hρ]; exact pr_v (d := .tup xs) rfl rfl
      rw [evT_cmp, evE_cmp, bor_pr, l1]
      show R.ok ((xs.length : Int) == 0) = _
      cases xs with
      | nil => rfl
      | cons x xs =>
        have : (((x :: xs).length : Int) == 0) = false := by rw [beq_eq_false_iff_ne]; simp; omega
        rw [this]; rfl
    have lc : lcGo (.nm 3) (evC (callN T j) []) (evE (callN T j) (.call 74 [(.v 3), (.v 1)])) [.val (.tup xs), .val (wiS wi), .un, .un] xs = .ok (xs.map fun x => D.bl (okP n wi x)) := by
      refine lcGo_map fun x hx => ⟨_, rfl, rfl, ?_⟩
      exact call_2 (cl := callN T j) (ρ := [.val (.tup xs), .val (wiS wi), .un, .val x]) (e := .v 3) (e2 := .v 1) rfl rfl (rec x wi (tms_mem h'.2 x hx) (by
        have h1 : D.depths xs + 1 < n + 1 := hd
        have h2 := depths_mem hx
        omega) (by omega))
    have L := lc_ev (cl := callN T j) (ρ := ρ) (k := .seq) (t := .nm 3) (es_1 (e := .v 0) (d := .tup xs) (by rw [← hρ]; rfl)) (seq_t xs) (by rw [← hρ]; rfl) lc (by rw [List.length_map]; omega)
    have t3 : evT (callN T j) (.not (.pr .all [(.lc (.nm 3) .seq [(.v 0)] [] (.call 74 [(.v 3), (.v 1)]))])) ρ = .ok !(xs.all (okP n wi)) := by
      rw [evT_not, evT_pr, pr_1 (p := .all) rfl L (all_map _ _)]
      rfl
    rw [hρ] at t1
    have tt : evT (callN T j) (.or (.not (.pr (.isT false false false true false) [(.v 0)])) (.or (.cmp .eq (.pr .len [(.v 0)]) (.c (.int 0))) (.not (.pr .all [(.lc (.nm 3) .seq [(.v 0)] [] (.call 74 [(.v 3), (.v 1)]))])))) ρ = .ok (xs.isEmpty || !(xs.all (okP n wi))) := by
      rw [evT_or, t1]
      show evT (callN T j) (.or _ _) ρ = _
      rw [evT_or, t2, bnd_ok]
      cases xs.isEmpty with
      | true => rfl
      | false => exact t3
    rw [e]
    cases hc : (xs.isEmpty || !(xs.all (okP n wi))) with
    | true =>
      rw [hc] at tt
      have : (!xs.isEmpty && (xs.all (okP n wi) && !twoT xs)) = false := by
        cases hx : xs.isEmpty with
        | true => rfl
        | false =>
          rw [hx] at hc
          have : xs.all (okP n wi) = false := by simpa using hc
          rw [this]; rfl
      rw [this]
      exact ss_rt (by rw [evS_iff, tt]; rfl)
    | false =>
      rw [hc] at tt
      have hne : xs.isEmpty = false := by cases hx : xs.isEmpty with | true => rw [hx] at hc; cases hc | false => rfl
      have hall : xs.all (okP n wi) = true := by
        rw [hne] at hc
        simpa using hc
      rw [hne, hall]
      refine iff_no tt (ss_rt ?_)
      have okx : ∀ x ∈ xs, okP n wi x = true := fun x hx => List.all_eq_true.mp hall x hx
      have ln : evE (callN T j) (.pr .len [(.v 0)]) ρ = .ok (.int xs.length) := by rw [← hρ]; exact pr_v (d := .tup xs) rfl rfl
      have lc2 : lcGo (.nm 2) (evC (callN T j) []) (evE (callN T j) (.and (.cmp .eq (.idx (.idx (.v 0) (.bin .sub (.v 2) (.c (.int 1)))) (.c (.int 0))) (.c (.str [116, 101, 120, 116]))) (.cmp .eq (.idx (.idx (.v 0) (.v 2)) (.c (.int 0))) (.c (.str [116, 101, 120, 116]))))) [.val (.tup xs), .val (wiS wi), .un, .un] ((List.range (xs.length - 1)).map fun (k : Nat) => .int ((1 : Nat) + k)) = .ok ((List.range (xs.length - 1)).map fun k => D.bl (isTx (xs.getD k .non) && isTx (xs.getD (k + 1) .non))) := by
        rw [lcGo_map (g := fun d => match d with
          | .int i => .bl (isTx (xs.getD (i - 1).toNat .non) && isTx (xs.getD i.toNat .non))
          | d => d)]
        · rw [List.map_map]
          congr 1
          refine List.map_congr_left fun k _ => ?_
          show D.bl (isTx (xs.getD (((1 : Nat) : Int) + (k : Int) - 1).toNat .non) && isTx (xs.getD (((1 : Nat) : Int) + (k : Int)).toNat .non)) = _
          rw [show (((1 : Nat) : Int) + (k : Int) - 1).toNat = k by omega, show (((1 : Nat) : Int) + (k : Int)).toNat = k + 1 by omega]
        · intro y hy
          obtain ⟨k, hk, rfl⟩ := List.mem_map.mp hy
          have hk := List.mem_range.mp hk
          refine ⟨_, rfl, rfl, ?_⟩
          have g1 : xs[k]? = some (xs.getD k .non) := by rw [List.getD_eq_getElem?_getD, List.getElem?_eq_getElem (by omega)]; rfl
          have g2 : xs[k + 1]? = some (xs.getD (k + 1) .non) := by rw [List.getD_eq_getElem?_getD, List.getElem?_eq_getElem (by omega)]; rfl
          obtain ⟨w1, f1, f2⟩ := okP_tx (okx _ (List.mem_of_getElem? g1))
          obtain ⟨w2, f3, f4⟩ := okP_tx (okx _ (List.mem_of_getElem? g2))
          show evE (callN T j) _ [.val (.tup xs), .val (wiS wi), .val (.int (((1 : Nat) : Int) + (k : Int))), .un] = R.ok (D.bl (isTx (xs.getD (((1 : Nat) : Int) + (k : Int) - 1).toNat .non) && isTx (xs.getD (((1 : Nat) : Int) + (k : Int)).toNat .non)))
          rw [show (((1 : Nat) : Int) + (k : Int) - 1).toNat = k by omega, show (((1 : Nat) : Int) + (k : Int)).toNat = k + 1 by omega]
          have c1 : evE (callN T j) (.cmp .eq (.idx (.idx (.v 0) (.bin .sub (.v 2) (.c (.int 1)))) (.c (.int 0))) (.c (.str [116, 101, 120, 116]))) [.val (.tup xs), .val (wiS wi), .val (.int (((1 : Nat) : Int) + (k : Int))), .un] = .ok (.bl (isTx (xs.getD k .non))) := by
            have s1 : evE (callN T j) (.bin .sub (.v 2) (.c (.int 1))) [.val (.tup xs), .val (wiS wi), .val (.int (((1 : Nat) : Int) + (k : Int))), .un] = .ok (.int (k : Int)) := by
              show R.ok (D.int (((1 : Nat) : Int) + (k : Int) - 1)) = _
              rw [show ((1 : Nat) : Int) + (k : Int) - 1 = (k : Int) by omega]
            have s2 : evE (callN T j) (.idx (.v 0) (.bin .sub (.v 2) (.c (.int 1)))) [.val (.tup xs), .val (wiS wi), .val (.int (((1 : Nat) : Int) + (k : Int))), .un] = .ok (xs.getD k .non) := by
              rw [evE_idx, s1]
              exact idx_t g1
            rw [evE_cmp, bor_idx, evE_idx, bor_idx, s2, bnd_ok, evE_c, bnd_ok, f1, bnd_ok, ← f2]
            rfl
          have c2 : evE (callN T j) (.cmp .eq (.idx (.idx (.v 0) (.v 2)) (.c (.int 0))) (.c (.str [116, 101, 120, 116]))) [.val (.tup xs), .val (wiS wi), .val (.int (((1 : Nat) : Int) + (k : Int))), .un] = .ok (.bl (isTx (xs.getD (k + 1) .non))) := by
            have s2 : evE (callN T j) (.idx (.v 0) (.v 2)) [.val (.tup xs), .val (wiS wi), .val (.int (((1 : Nat) : Int) + (k : Int))), .un] = .ok (xs.getD (k + 1) .non) := by
              rw [evE_idx]
              show idxD (.tup xs) (.int (((1 : Nat) : Int) + (k : Int))) = _
              rw [show ((1 : Nat) : Int) + (k : Int) = ((k + 1 : Nat) : Int) by omega]
              exact idx_t g2
            rw [evE_cmp, bor_idx, evE_idx, bor_idx, s2, bnd_ok, evE_c, bnd_ok, f3, bnd_ok, ← f4]
            rfl
          rw [evE_and, c1, bnd_ok]
          cases isTx (xs.getD k .non) with
          | false => rfl
          | true => exact c2
      have L2 := lc_ev (cl := callN T j) (ρ := ρ) (k := .rng2) (t := .nm 2) (es_2 (evE_c (.int ((1 : Nat) : Int))) ln) (rng2_n (a := 1) (b := xs.length) (by omega) (by omega)) (by rw [← hρ]; rfl) lc2 (by rw [List.length_map, List.length_range]; omega)
      have P := pr_1 (p := .any) rfl L2 (any_map _ _)
      rw [two_any] at P
      rw [evS_ret, bor_not, evE_not, bor_pr]
      show (((evE (callN T j) (.pr .any [.lc (.nm 2) .rng2 [.c (.int ((1 : Nat) : Int)), .pr .len [.v 0]] [] _]) ρ).bind fun x => (truth x).bind fun b => R.ok (D.bl !b)).bind fun d => R.ok (Fl.rt d)) = _
      rw [P]
      rfl
  | scr xs => cases h
  | dct xs => cases h
  | non => exact out rfl rfl
  | bl b => exact out rfl rfl
  | int i => exact out rfl rfl
  | str s => exact out rfl rfl
  | lst xs => exact out rfl rfl
theorem line_ok (t : DrI T) : ∀ n : Nat, (∀ (d : D) (wi : List (List Nat)), d.tm = true → d.depth < n → wi.length + n ≤ 1000 → At T (n + 2) 72 [d, wiS wi] (.ok (.bl (okL n wi d)))) ∧ ∀ (d : D) (wi : List (List Nat)), d.tm = true → d.depth < n → wi.length + n ≤ 1000 → At T (n + 2) 74 [d, wiS wi] (.ok (.bl (okP n wi d))) := by
  intro n
  induction n with
  | zero => exact ⟨fun d wi _ h => absurd h (by omega), fun d wi _ h => absurd h (by omega)⟩
  | succ n ih =>
    refine ⟨fun d wi h hd hw => ?_, fun d wi h hd hw => ?_⟩
    · exact At.step t.linein fun j hj => linein_go t (fun x wi hx hxd hw => ih.2 x wi hx hxd hw j (by omega)) h hd hw
    · exact At.step t.piece fun j hj => piece_go t (by omega) (fun x wi hx hxd hw => ih.1 x wi hx hxd hw j (by omega)) h hd hw
theorem is_line_at (t : DrI T) (n : Nat) (hn : n ≤ 500) {d : D} (h : d.tm = true) (hd : d.depth < n) : At T (n + 3) 71 [d] (.ok (.bl (okL n [] d))) := by
  refine At.step t.isline fun j hj => evF_st (ρ := [.val d]) rfl rfl (ss_rt ?_)
  have := (line_ok t n).1 d [] h hd (by simp; omega) j hj
  rw [evS_ret, bor_call, call_2 (e := .v 0) (e2 := .tup []) (d := d) (d2 := wiS []) rfl rfl this]
  rfl
end MT
namespace MT
/-! ### drawn lines are lines -/
theorem text_ne (c : Int) : (textS c).isEmpty = false := by
  have h := (manyOf_le c).1
  have hl : (textS c).length = (manyOf c).toNat := drawn_len _ _ _ _ _
  cases q : textS c with
  | nil => rw [q] at hl; simp at hl; omega
  | cons a r => rfl
theorem addr_good (c : Int) : okA (.str (addrS c)) = true := by
  have h1 := mix_nn (c := c) (p := 9929) (m := 6) (by omega)
  have hl : (addrS c).length = (1 + mix c 9929 6).toNat := drawn_len _ _ _ _ _
  show (!(addrS c).isEmpty && (addrS c).all fun c => decide (c ∈ signsC)) = true
  have h2 : (addrS c).isEmpty = false := by
    cases q : addrS c with
    | nil => rw [q] at hl; simp at hl; omega
    | cons a r => rfl
  have h3 : ((addrS c).all fun c => decide (c ∈ signsC)) = true := List.all_eq_true.mpr fun x hx => decide_eq_true (drawn_mem (sg := signsC) (by decide) hx)
  rw [h2, h3]
  rfl
theorem isTx_d (p : Pc) : isTx p.d = decide (p.w = .text) := by cases p <;> rfl
theorem twoT_snoc : ∀ (xs : List D) (y z : D), twoT (xs ++ [y, z]) = (twoT (xs ++ [y]) || (isTx y && isTx z))
  | [], y, z => by show ((isTx y && isTx z) || false) = (false || (isTx y && isTx z)); simp
  | [x], y, z => by
    show ((isTx x && isTx y) || ((isTx y && isTx z) || false)) = (((isTx x && isTx y) || false) || (isTx y && isTx z))
    simp
  | x :: x2 :: r, y, z => by
    have ih := twoT_snoc (x2 :: r) y z
    show ((isTx x && isTx x2) || twoT (x2 :: r ++ [y, z])) = (((isTx x && isTx x2) || twoT (x2 :: r ++ [y])) || (isTx y && isTx z))
    rw [ih, Bool.or_assoc]
theorem twoT_acc {acc : List Pc} {p : Pc} (h : twoT (Pc.ds acc) = false) (hp : ¬ (p.w = .text ∧ lastText acc = true)) : twoT (Pc.ds (acc ++ [p])) = false := by
  rcases List.eq_nil_or_concat acc with rfl | ⟨l, q, rfl⟩
  · rfl
  · rw [List.concat_eq_append] at *
    have e : Pc.ds (l ++ [q] ++ [p]) = Pc.ds l ++ [q.d, p.d] := by rw [Pc.ds_app, Pc.ds_app, List.append_assoc]; rfl
    have e2 : Pc.ds (l ++ [q]) = Pc.ds l ++ [q.d] := by rw [Pc.ds_app]; rfl
    rw [e2] at h
    rw [e, twoT_snoc, h, isTx_d, isTx_d]
    have lt : lastText (l ++ [q]) = decide (q.w = .text) := by
      unfold lastText
      rw [List.getLast?_append, List.getLast?_singleton, Option.some_or]
    rw [lt] at hp
    by_cases a : q.w = .text
    · by_cases b : p.w = .text
      · exact absurd ⟨b, decide_eq_true a⟩ hp
      · rw [decide_eq_false b]; simp
    · rw [decide_eq_false a]; rfl
def wiN (wi : List Wd) : List (List Nat) := wi.map Wd.s
theorem mem_wiN {w : Wd} {wi : List Wd} : w.s ∈ wiN wi ↔ w ∈ wi := by
  constructor
  · intro h
    obtain ⟨x, hx, e⟩ := List.mem_map.mp h
    rw [Wd.s_inj e] at hx
    exact hx
  · exact fun h => List.mem_map.mpr ⟨w, h, rfl⟩
theorem line_okS {n m : Nat} {c : Int} {wi : List Wd} (ok : WiOk wi) (rec : ∀ (w : Wd) (c : Int), w ∉ wi → (w = .strong ∨ w = .slant ∨ w = .link) → ∀ m, 2 * n ≤ m → okL m (wiN wi ++ [w.s]) (.tup (Pc.ds (lineS n c (wi ++ [w])))) = true) (hm : 2 * n + 2 ≤ m) :
    okL m (wiN wi) (.tup (Pc.ds (lineS (n + 1) c wi))) = true := by
  obtain ⟨m, rfl⟩ : ∃ k, m = k + 2 := ⟨m - 2, by omega⟩
  have key : ∀ k : Nat, (∀ p ∈ (List.range k).foldl (lineGo (lineS n) c wi) [], okP (m + 1) (wiN wi) p.d = true) ∧ twoT (Pc.ds ((List.range k).foldl (lineGo (lineS n) c wi) [])) = false := by
    intro k
    induction k with
    | zero => exact ⟨(fun p h => by cases h), rfl⟩
    | succ k ih =>
      rw [List.range_succ, List.foldl_append]
      generalize (List.range k).foldl (lineGo (lineS n) c wi) [] = acc at *
      show (∀ p ∈ acc ++ [mkPc (lineS n) (c + 13 * k) wi (wordOf c wi acc k)], _) ∧ twoT (Pc.ds (acc ++ [mkPc (lineS n) (c + 13 * k) wi (wordOf c wi acc k)])) = false
      have win := @wordOf_in c wi acc k
      have wtx : ¬ (wordOf c wi acc k = .text ∧ lastText acc = true) := by
        unfold wordOf drawWord
        intro z
        split at z
        · exact absurd z.1 (by decide)
        · rename_i q
          exact q (.inr ⟨z.1, z.2⟩)
      refine ⟨fun p hp => ?_, twoT_acc ih.2 ?_⟩
      · rcases List.mem_append.mp hp with hp | hp
        · exact ih.1 p hp
        · rw [List.mem_singleton.mp hp]
          generalize wordOf c wi acc k = w at *
          cases w with
          | text => show (!(textS (c + 13 * k + 1)).isEmpty) = true; rw [text_ne]; rfl
          | code => show (!(textS (c + 13 * k + 1)).isEmpty) = true; rw [text_ne]; rfl
          | strong =>
            have h1 := win rfl (by decide)
            show (if (Wd.s .strong = Wd.s .strong ∨ Wd.s .strong = Wd.s .slant) ∧ Wd.s .strong ∉ wiN wi then okL m (wiN wi ++ [Wd.s .strong]) _ else false) = true
            rw [if_pos ⟨.inl rfl, fun z => h1 (mem_wiN.mp z)⟩]
            exact rec .strong _ h1 (by simp) m (by omega)
          | slant =>
            have h1 := win rfl (by decide)
            show (if (Wd.s .slant = Wd.s .strong ∨ Wd.s .slant = Wd.s .slant) ∧ Wd.s .slant ∉ wiN wi then okL m (wiN wi ++ [Wd.s .slant]) _ else false) = true
            rw [if_pos ⟨.inr rfl, fun z => h1 (mem_wiN.mp z)⟩]
            exact rec .slant _ h1 (by simp) m (by omega)
          | link =>
            have h1 := win rfl (by decide)
            show (if Wd.s .link = Wd.s .link ∧ Wd.s .link ∉ wiN wi ∧ okA (.str (addrS (c + 13 * k))) = true then okL m (wiN wi ++ [Wd.s .link]) _ else false) = true
            rw [if_pos ⟨rfl, fun z => h1 (mem_wiN.mp z), addr_good _⟩]
            exact rec .link _ h1 (by simp) m (by omega)
      · intro z
        refine wtx ⟨?_, z.2⟩
        generalize wordOf c wi acc k = w at *
        cases w <;> first
          | rfl
          | exact nomatch z.1
  obtain ⟨k1, k2⟩ := key (lineN c)
  have ln := line_acc (lineS n) c wi (lineN c)
  have n1 := (lineN_le c).1
  show (!(Pc.ds ((List.range (lineN c)).foldl (lineGo (lineS n) c wi) [])).isEmpty && ((Pc.ds ((List.range (lineN c)).foldl (lineGo (lineS n) c wi) [])).all (okP (m + 1) (wiN wi)) && !twoT (Pc.ds ((List.range (lineN c)).foldl (lineGo (lineS n) c wi) [])))) = true
  have a1 : (Pc.ds ((List.range (lineN c)).foldl (lineGo (lineS n) c wi) [])).isEmpty = false := by
    have := Pc.ds_len ((List.range (lineN c)).foldl (lineGo (lineS n) c wi) [])
    cases q : Pc.ds ((List.range (lineN c)).foldl (lineGo (lineS n) c wi) []) with
    | nil => rw [q, ln] at this; simp at this; omega
    | cons _ _ => rfl
  have a2 : (Pc.ds ((List.range (lineN c)).foldl (lineGo (lineS n) c wi) [])).all (okP (m + 1) (wiN wi)) = true := by
    rw [Pc.ds_map, List.all_map]
    exact List.all_eq_true.mpr fun p hp => k1 p hp
  rw [a1, a2, k2]
  rfl
theorem line_okL : ∀ (n : Nat) (c : Int) (wi : List Wd), WiOk wi → wi.length + n = 3 → ∀ m, 2 * n + 2 ≤ m → okL m (wiN wi) (.tup (Pc.ds (lineS (n + 1) c wi))) = true := by
  intro n
  induction n with
  | zero =>
    intro c wi ok hl m hm
    exact line_okS ok (fun w c hw hk => absurd (full_wi ok (by omega) hk) hw) hm
  | succ n ih =>
    intro c wi ok hl m hm
    refine line_okS ok (fun w c hw hk m' hm' => ?_) hm
    have := ih c (wi ++ [w]) (ok.more hw hk) (by simp; omega) m' (by omega)
    rw [wiN, List.map_append] at this
    exact this
end MT
namespace MT
theorem tms_of : ∀ {xs : List D}, (∀ x ∈ xs, x.tm = true) → D.tms xs = true
  | [], _ => rfl
  | x :: xs, h => by
    show (D.tm x && D.tms xs) = true
    rw [h x List.mem_cons_self, tms_of fun y hy => h y (List.mem_cons_of_mem _ hy)]
    rfl
theorem tm_tup {xs : List D} (h : ∀ x ∈ xs, x.tm = true) (hl : xs.length ≤ 1000) : (D.tup xs).tm = true := by
  show (decide (xs.length ≤ 1000) && D.tms xs) = true
  rw [decide_eq_true hl, tms_of h]
  rfl
theorem tm_str {s : List Nat} (h : s.length ≤ 100000) : (D.str s).tm = true := decide_eq_true h
theorem tm_pair {x y : D} (hx : x.tm = true) (hy : y.tm = true) : (D.tup [x, y]).tm = true := tm_tup (fun z hz => by
  rcases List.mem_cons.mp hz with rfl | hz
  · exact hx
  · rw [List.mem_singleton.mp hz]; exact hy) (by simp)
theorem tm_trip {x y w : D} (hx : x.tm = true) (hy : y.tm = true) (hw : w.tm = true) : (D.tup [x, y, w]).tm = true := tm_tup (fun z hz => by
  rcases List.mem_cons.mp hz with rfl | hz
  · exact hx
  · rcases List.mem_cons.mp hz with rfl | hz
    · exact hy
    · rw [List.mem_singleton.mp hz]; exact hw) (by simp)
theorem text_len (c : Int) : (textS c).length ≤ 30 := by
  have h := (manyOf_le c).2
  have h0 := (manyOf_le c).1
  have hl : (textS c).length = (manyOf c).toNat := drawn_len _ _ _ _ _
  omega
theorem addr_len (c : Int) : (addrS c).length ≤ 6 := by
  have h1 := mix_lt (c := c) (p := 9929) (m := 6) (by omega)
  have hl : (addrS c).length = (1 + mix c 9929 6).toNat := drawn_len _ _ _ _ _
  omega
theorem line_tm : ∀ (n : Nat) (c : Int) (wi : List Wd), ∀ p ∈ lineS n c wi, p.d.tm = true
  | 0, _, _, p, h => by cases h
  | n + 1, c, wi, p, h => by
    have key : ∀ (k : Nat), ∀ p ∈ (List.range k).foldl (lineGo (lineS n) c wi) [], p.d.tm = true := by
      intro k
      induction k with
      | zero => intro p hp; cases hp
      | succ k ih =>
        intro p hp
        rw [List.range_succ, List.foldl_append] at hp
        rcases List.mem_append.mp (show p ∈ _ ++ [mkPc (lineS n) (c + 13 * k) wi _] from hp) with hp | hp
        · exact ih p hp
        · rw [List.mem_singleton.mp hp]
          have sub : ∀ c' wi', (D.tup (Pc.ds (lineS n c' wi'))).tm = true := fun c' wi' => tm_tup (fun x hx => by
            rw [Pc.ds_map] at hx
            obtain ⟨q, hq, rfl⟩ := List.mem_map.mp hx
            exact line_tm n c' wi' q hq) (by
            rw [Pc.ds_len]
            cases n with
            | zero => exact Nat.zero_le _
            | succ n =>
              show ((List.range (lineN c')).foldl (lineGo (lineS n) c' wi') []).length ≤ _
              rw [line_acc]
              have := lineN_le c'
              omega)
          have tx := fun c => tm_str (s := textS c) (by have := text_len c; omega)
          generalize wordOf c wi ((List.range k).foldl (lineGo (lineS n) c wi) []) k = w
          cases w with
          | text => exact tm_pair (tm_str (by decide)) (tx _)
          | code => exact tm_pair (tm_str (by decide)) (tx _)
          | strong => exact tm_pair (tm_str (by decide)) (sub _ _)
          | slant => exact tm_pair (tm_str (by decide)) (sub _ _)
          | link => exact tm_trip (tm_str (by decide)) (sub _ _) (tm_str (by have := addr_len (c + 13 * k); omega))
    exact key (lineN c) p h
theorem lineS_len (n : Nat) (c : Int) (wi : List Wd) : (lineS n c wi).length ≤ 3 := by
  cases n with
  | zero => exact Nat.zero_le _
  | succ n =>
    show ((List.range (lineN c)).foldl (lineGo (lineS n) c wi) []).length ≤ 3
    rw [line_acc]
    exact (lineN_le c).2
theorem lineS_tm (n : Nat) (c : Int) (wi : List Wd) : (D.tup (Pc.ds (lineS n c wi))).tm = true := tm_tup (fun x hx => by
  rw [Pc.ds_map] at hx
  obtain ⟨q, hq, rfl⟩ := List.mem_map.mp hx
  exact line_tm n c wi q hq) (by rw [Pc.ds_len]; have := lineS_len n c wi; omega)
/-! ### the spoilt pieces -/
def aLine : D := .tup [.tup [.str (Wd.s .text), .str [97]]]
def badL (t : List Nat) : List D :=
  [.tup [.str (Wd.s .text), .str []], .tup [.str (Wd.s .code), .str []], .tup [.str (Wd.s .text), .int 5], .tup [.str (Wd.s .text), .lst [.str t]]]
  ++ [.tup [.str (Wd.s .text), .str t, .str [97]], .tup [.str (Wd.s .text)], .tup [.str [119, 111, 114, 100], .str t], .str t]
  ++ [.tup [.str (Wd.s .strong), .tup []], .tup [.str (Wd.s .strong), aLine, .str [97]], .tup [.str (Wd.s .strong), .str t]]
  ++ [.tup [.str (Wd.s .slant), .lst [.tup [.str (Wd.s .text), .str [97]]]], .tup [.str (Wd.s .slant), .tup [aLine]]]
  ++ [.tup [.str (Wd.s .link), aLine], .tup [.str (Wd.s .link), aLine, .str []], .tup [.str (Wd.s .link), aLine, .str [65]]]
  ++ [.tup [.str (Wd.s .link), aLine, .str [97, 32, 98]], .tup [.str (Wd.s .link), aLine, .int 5]]
  ++ [.tup [.str (Wd.s .link), aLine, .str [97, 60]], .tup [.str (Wd.s .strong), .tup [.tup [.str (Wd.s .strong), aLine]]], .non, .int 5]
  ++ [.bl true, .tup [], .lst [.str (Wd.s .text), .str [97]]]
  ++ [.tup [.str (Wd.s .slant), .tup [.tup [.str (Wd.s .code), .str [97]], .tup [.str (Wd.s .link), .tup [.tup [.str (Wd.s .slant), .tup [.tup [.str (Wd.s .text), .str [98]]]]], .str [97]]]],
      .tup [.str (Wd.s .link), .tup [.tup [.str (Wd.s .strong), .tup [.tup [.str (Wd.s .link), aLine, .str [98]]]]], .str [99]], .tup [.tup [.str (Wd.s .text)], .str t]]
theorem bad_ok (t : List Nat) (ht : t.length ≤ 30) : ∀ p ∈ badL t, okP 19 [] p = false ∧ okP 17 [Wd.s .strong] p = false ∧ p.tm = true ∧ p.depth ≤ 10 := by
  intro p hp
  simp only [badL, List.cons_append, List.nil_append, List.mem_cons, List.not_mem_nil, or_false] at hp
  have tt : (D.str t).tm = true := tm_str (by omega)
  rcases hp with rfl | rfl | rfl | rfl | rfl | rfl | rfl | rfl | rfl | rfl | rfl | rfl | rfl | rfl | rfl | rfl | rfl | rfl | rfl | rfl | rfl | rfl | rfl | rfl | rfl | rfl | rfl | rfl
  all_goals first
    | exact ⟨by rfl, by rfl, by rfl, by decide⟩
    | (refine ⟨by rfl, by rfl, ?_, by decide⟩; simp [D.tm, D.tms, Wd.s]; omega)
    | (refine ⟨by rfl, by rfl, ?_, ?_⟩ <;> simp [D.tm, D.tms, D.depth, D.depths, Wd.s] <;> omega)
end MT
namespace MT
variable {T : Tab}
structure DrK01 (T : Tab) : Prop extends DrL T, DrI T where
  cell : T 4 = some (.ir ir_law_cell)
  nop : T 35 = some (.ir ir_law_no_pieces)
  law : T 86 = some (.ir ir_law_k01)
theorem no_pieces_at (t : DrK01 T) (c : Int) : At T 3 35 [aLine, .int c] (.ok (.lst (badL (textS c)))) := by
  refine At.step t.nop fun j hj => evF_st (ρ := [.val aLine, .val (.int c), .un, .un, .un]) rfl rfl ?_
  have tx := text_at t.mix t.text c j hj
  generalize textS c = s at *
  refine asg_ss (call_1 (e := .v 1) rfl tx) (by simp) ?_
  refine asg_ss (d := .lst [.tup [.str (Wd.s .text), .str []], .tup [.str (Wd.s .code), .str []], .tup [.str (Wd.s .text), .int 5], .tup [.str (Wd.s .text), .lst [.str s]]]) rfl (by simp) ?_
  have add : ∀ {ρ : Env} {es : List E} {xs ys : List D}, ρ[3]? = some (.val (.lst xs)) → evEs (callN T j) es ρ = .ok ys → xs.length + ys.length ≤ 100 → evE (callN T j) (.bin .add (.v 3) (.lst es)) ρ = .ok (.lst (xs ++ ys)) := fun {ρ es xs ys} h1 h2 h3 => by
    have v3 : bor ρ (.v 3) (evE (callN T j) (.v 3) ρ) = .ok (.lst xs) := by show rdB ρ 3 = _; unfold rdB; rw [h1]
    rw [evE_bin, v3, bnd_ok, bor_lst, evE_lst, h2, bnd_ok, bnd_ok, add_ll (by omega)]
  refine asg_ss (add rfl (ys := [.tup [.str (Wd.s .text), .str s, .str [97]], .tup [.str (Wd.s .text)], .tup [.str [119, 111, 114, 100], .str s], .str s]) rfl (by simp)) (by simp) ?_
  refine asg_ss (add rfl (ys := [.tup [.str (Wd.s .strong), .tup []], .tup [.str (Wd.s .strong), aLine, .str [97]], .tup [.str (Wd.s .strong), .str s]]) rfl (by simp)) (by simp) ?_
  refine asg_ss (add rfl (ys := [.tup [.str (Wd.s .slant), .lst [.tup [.str (Wd.s .text), .str [97]]]], .tup [.str (Wd.s .slant), .tup [aLine]]]) rfl (by simp)) (by simp) ?_
  refine asg_ss (add rfl (ys := [.tup [.str (Wd.s .link), aLine], .tup [.str (Wd.s .link), aLine, .str []], .tup [.str (Wd.s .link), aLine, .str [65]]]) rfl (by simp)) (by simp) ?_
  refine asg_ss (add rfl (ys := [.tup [.str (Wd.s .link), aLine, .str [97, 32, 98]], .tup [.str (Wd.s .link), aLine, .int 5]]) rfl (by simp)) (by simp) ?_
  refine asg_ss (add rfl (ys := [.tup [.str (Wd.s .link), aLine, .str [97, 60]], .tup [.str (Wd.s .strong), .tup [.tup [.str (Wd.s .strong), aLine]]], .non, .int 5]) rfl (by simp)) (by simp) ?_
  refine asg_ss (add rfl (ys := [.bl true, .tup [], .lst [.str (Wd.s .text), .str [97]]]) rfl (by simp)) (by simp) ?_
  refine asg_ss (d := .tup [.str (Wd.s .slant), .tup [.tup [.str (Wd.s .code), .str [97]], .tup [.str (Wd.s .link), .tup [.tup [.str (Wd.s .slant), .tup [.tup [.str (Wd.s .text), .str [98]]]]], .str [97]]]]) rfl (by simp) (ss_rt ?_)
  rw [evS_ret, bor_bin, add rfl (ys := [.tup [.str (Wd.s .slant), .tup [.tup [.str (Wd.s .code), .str [97]], .tup [.str (Wd.s .link), .tup [.tup [.str (Wd.s .slant), .tup [.tup [.str (Wd.s .text), .str [98]]]]], .str [97]]]],
      .tup [.str (Wd.s .link), .tup [.tup [.str (Wd.s .strong), .tup [.tup [.str (Wd.s .link), aLine, .str [98]]]]], .str [99]], .tup [.tup [.str (Wd.s .text)], .str s]]) rfl (by simp), bnd_ok]
  rfl
end MT
namespace MT
/-! ### is_doc, by a plain walk -/
theorem At.st {T : Tab} {k m f : Nat} {fn : Fn} {ds : List D} {r : R D} (hm : m = k + 1) (hT : T f = some (.ir fn)) (h : ∀ n, k ≤ n → evF (callN T n) fn ds = r) : At T m f ds r := by subst hm; exact At.step hT h
theorem or_f {cl : CL} {ρ : Env} {a b : E} {y : Bool} (h : evT cl a ρ = .ok false) (h2 : evT cl b ρ = .ok y) : evT cl (.or a b) ρ = .ok y := by rw [evT_or, h, bnd_ok, if_neg (by decide), h2]
theorem or_y {cl : CL} {ρ : Env} {a b : E} (h : evT cl a ρ = .ok true) : evT cl (.or a b) ρ = .ok true := by rw [evT_or, h, bnd_ok, if_pos rfl]
theorem and_y {cl : CL} {ρ : Env} {a b : E} {y : D} (h : evE cl a ρ = .ok (.bl true)) (h2 : evE cl b ρ = .ok y) : evE cl (.and a b) ρ = .ok y := by rw [evE_and, h, bnd_ok, andK_t, h2]
theorem and_f {cl : CL} {ρ : Env} {a b : E} (h : evE cl a ρ = .ok (.bl false)) : evE cl (.and a b) ρ = .ok (.bl false) := by rw [evE_and, h, bnd_ok, andK_f]
theorem and_b {cl : CL} {ρ : Env} {a b : E} {x y : Bool} (h : evE cl a ρ = .ok (.bl x)) (h2 : x = true → evE cl b ρ = .ok (.bl y)) : evE cl (.and a b) ρ = .ok (.bl (x && y)) := by
  cases x with
  | true => exact and_y h (h2 rfl)
  | false => exact and_f h
def wHead : List Nat := [104, 101, 97, 100]
def wCode : List Nat := [99, 111, 100, 101]
def okLn (d : D) : Bool := okL 60 [] d
def okItem (rec : D → Bool) : D → Bool
  | .tup [l, x] => okLn l && (isNon x || rec x)
  | _ => false
def okLs : Nat → D → Bool
  | 0, _ => false
  | n + 1, d => match d with
    | .tup [.str w, .str k, .tup xs] => decide (w = wList) && (decide (k = kindS false ∨ k = kindS true) && (!xs.isEmpty && xs.all (okItem (okLs n))))
    | _ => false
def isStr : D → Bool
  | .str _ => true
  | _ => false
def okHead : List D → Bool
  | [.int l, x] => decide (1 ≤ l ∧ l ≤ 3) && okLn x
  | _ => false
def okPar : List D → Bool
  | [x] => okLn x
  | _ => false
def okCode : List D → Bool
  | [.tup rows] => !rows.isEmpty && rows.all isStr
  | _ => false
def okD (okb : D → Bool) : D → Bool
  | .tup xs => xs.all okb
  | _ => false
def neT : D → Bool
  | .tup xs => !xs.isEmpty
  | _ => false
def okQ (rec : D → Bool) : List D → Bool
  | [x] => okD rec x && neT x
  | _ => false
def okB : Nat → D → Bool
  | n, .tup (.str w :: r) => if w = wHead then okHead r else if w = wPar then okPar r else if w = wRule then r.isEmpty else if w = wCode then okCode r
      else if w = wQuote then (match n with | 0 => false | n + 1 => okQ (okB n) r) else okLs 3 (.tup (.str w :: r))
  | _, _ => false
variable {T : Tab}
structure DrB (T : Tab) : Prop extends DrI T where
  item : T 70 = some (.ir ir_docs_is_item)
  ilist : T 73 = some (.ir ir_docs_is_list)
  iblock : T 67 = some (.ir ir_docs_is_block)
  docin : T 69 = some (.ir ir_docs_is_doc_in)
  isdoc : T 68 = some (.ir ir_docs_is_doc)
theorem tm_l {xs : List D} (h : (D.tup xs).tm = true) : xs.length ≤ 1000 := by
  have h : (decide (xs.length ≤ 1000) && D.tms xs) = true := h
  rw [Bool.and_eq_true] at h
  exact of_decide_eq_true h.1
theorem tm_m {xs : List D} (h : (D.tup xs).tm = true) {x : D} (hx : x ∈ xs) : x.tm = true := by
  have h : (decide (xs.length ≤ 1000) && D.tms xs) = true := h
  rw [Bool.and_eq_true] at h
  exact tms_mem h.2 x hx
theorem dp_m {xs : List D} {n : Nat} (h : (D.tup xs).depth < n + 1) {x : D} (hx : x ∈ xs) : x.depth < n := by
  have h1 : D.depths xs + 1 < n + 1 := h
  have h2 := depths_mem hx
  omega
theorem not_call {cl : CL} {ρ : Env} {f : Nat} {es : List E} {b : Bool} (h : evE cl (.call f es) ρ = .ok (.bl b)) : evT cl (.not (.call f es)) ρ = .ok !b := by rw [evT_not, evT_call, h]; rfl
theorem item_go {cl : CL} {deep : Nat} {d : D} (ht : d.tm = true) (hd : d.depth < 60) (hl : ∀ d : D, d.tm = true → d.depth < 60 → cl 71 [d] = .ok (.bl (okLn d))) (hs : ∀ x : D, x.tm = true → x.depth < 60 → cl 73 [x, .int deep] = .ok (.bl (okLs deep x))) :
    evF cl ir_docs_is_item [d, .int deep] = .ok (.bl (okItem (okLs deep) d)) := by
  refine evF_st (ρ := [.val d, .val (.int deep)]) rfl rfl ?_
  cases d with
  | scr xs => cases ht
  | dct xs => cases ht
  | tup xs =>
    match xs with
    | [] => rfl
    | [a] => rfl
    | a :: b :: c :: r => rfl
    | [a, b] =>
      have ha := hl a (tm_m ht (by simp)) (dp_m (n := 59) (by omega) (x := a) (by simp) |> fun h => by omega)
      have hb := hs b (tm_m ht (by simp)) (dp_m (n := 59) (by omega) (x := b) (by simp) |> fun h => by omega)
      have i0 : evE cl (.idx (.v 0) (.c (.int 0))) [.val (.tup [a, b]), .val (.int deep)] = .ok a := idx_t (xs := [a, b]) (j := 0) rfl
      have i1 : evE cl (.idx (.v 0) (.c (.int 1))) [.val (.tup [a, b]), .val (.int deep)] = .ok b := idx_t (xs := [a, b]) (j := 1) rfl
      have n1 := not_call (call_1 i0 ha)
      show _ = R.ok (Fl.rt (.bl (okLn a && (isNon b || okLs deep b))))
      cases q : okLn a with
      | false =>
        rw [q] at n1
        refine iff_yes ?_ (ret_ss rfl)
        exact or_f rfl (or_f rfl n1)
      | true =>
        rw [q] at n1
        refine iff_no ?_ (ret_ss ?_)
        · exact or_f rfl (or_f rfl n1)
        · rw [bor_or, evE_or, cmp_e (o := .is) (x := b) (y := .non) (by rw [bor_idx, i1]) rfl (is_non b), bnd_ok]
          cases q2 : isNon b with
          | true => rfl
          | false =>
            show evE cl (.call 73 _) _ = _
            rw [call_2 i1 (d2 := .int deep) rfl hb]
            rfl
  | _ => rfl
theorem all_lc {cl : CL} {ρ : Env} {v : Nat} {e : E} {el : E} {xs : List D} {f : D → Bool} (he : evE cl e ρ = .ok (.tup xs)) (hl : xs.length ≤ 1000) (hg : ∀ x ∈ xs, ∃ ρ1, bindT (.nm v) x (wipeE ρ [v]) = .ok ρ1 ∧ evE cl el ρ1 = .ok (.bl (f x))) :
    evE cl (.pr .all [(.lc (.nm v) .seq [e] [] el)]) ρ = .ok (.bl (xs.all f)) := by
  have lc : lcGo (.nm v) (evC cl []) (evE cl el) (wipeE ρ [v]) xs = .ok (xs.map fun x => D.bl (f x)) := lcGo_map fun x hx => by
    obtain ⟨ρ1, h1, h2⟩ := hg x hx
    exact ⟨ρ1, h1, rfl, h2⟩
  exact pr_1 rfl (lc_ev (es_1 he) (seq_t xs) rfl lc (by rw [List.length_map]; omega)) (all_map f xs)
theorem len_gt {cl : CL} {ρ : Env} {e : E} {xs : List D} (hv : nv e = true) (he : evE cl e ρ = .ok (.tup xs)) : evE cl (.cmp .gt (.pr .len [e]) (.c (.int 0))) ρ = .ok (.bl !xs.isEmpty) := by
  refine cmp_e (x := .int xs.length) (y := .int 0) ?_ rfl ?_
  · rw [bor_pr, pr_1 hv he rfl]
  · show R.ok (D.bl (decide ((0 : Int) < (xs.length : Int)))) = _
    cases xs with
    | nil => rfl
    | cons x xs => rw [decide_eq_true (by simp)]; rfl
theorem ne_str {cl : CL} {ρ : Env} {a : E} {x : D} {w : List Nat} (ha : bor ρ a (evE cl a ρ) = .ok x) (hx : x.depth ≤ 60) : evT cl (.cmp .ne a (.c (.str w))) ρ = .ok !(D.eqv x (.str w)) := by
  refine cmp_t ha rfl ?_
  show guardR (shal x && shal (.str w)) (R.ok (D.bl !(D.eqv x (.str w)))) = _
  have : shal x = true := decide_eq_true (by omega)
  rw [this]
  rfl
theorem strBeqD (a b : List Nat) : (a == b) = decide (a = b) := by
  by_cases h : a = b
  · subst h; simp
  · rw [decide_eq_false h]; simpa using h
theorem list_ok {cl : CL} {deep : Nat} {d : D} (ht : d.tm = true) (hd : d.depth < 60) (hi : ∀ x : D, x.tm = true → x.depth < 60 → cl 70 [x, .int deep] = .ok (.bl (okItem (okLs deep) x))) :
    evF cl ir_docs_is_list [d, .int ((deep + 1 : Nat) : Int)] = .ok (.bl (okLs (deep + 1) d)) := by
  refine evF_st (ρ := [.val d, .val (.int ((deep + 1 : Nat) : Int)), .un]) rfl rfl ?_
  have z0 : evT cl (.cmp .eq (.v 1) (.c (.int 0))) [.val d, .val (.int ((deep + 1 : Nat) : Int)), .un] = .ok false := rfl
  cases d with
  | scr xs => cases ht
  | dct xs => cases ht
  | tup xs =>
    match xs with
    | [] => rfl
    | [a] => cases a <;> rfl
    | [a, b] => cases a <;> cases b <;> rfl
    | a :: b :: c :: e :: r => 
      have : okLs (deep + 1) (.tup (a :: b :: c :: e :: r)) = false := by cases a <;> cases b <;> cases c <;> rfl
      rw [this]
      rfl
    | [a, b, c] =>
      have ta := tm_m ht (x := a) (by simp)
      have tb := tm_m ht (x := b) (by simp)
      have tc := tm_m ht (x := c) (by simp)
      have da : a.depth < 59 := dp_m (n := 59) (by omega) (x := a) (by simp)
      have dc : c.depth < 59 := dp_m (n := 59) (by omega) (x := c) (by simp)
      generalize hρ : ([.val (.tup [a, b, c]), .val (.int ((deep + 1 : Nat) : Int)), .un] : Env) = ρ
      have i0 : evE cl (.idx (.v 0) (.c (.int 0))) ρ = .ok a := by rw [← hρ]; exact idx_t (xs := [a, b, c]) (j := 0) rfl
      have i1 : evE cl (.idx (.v 0) (.c (.int 1))) ρ = .ok b := by rw [← hρ]; exact idx_t (xs := [a, b, c]) (j := 1) rfl
      have i2 : evE cl (.idx (.v 0) (.c (.int 2))) ρ = .ok c := by rw [← hρ]; exact idx_t (xs := [a, b, c]) (j := 2) rfl
      have n1 := ne_str (cl := cl) (ρ := ρ) (a := .idx (.v 0) (.c (.int 0))) (w := wList) (by rw [bor_idx, i0]) (by omega)
      have f1 : evT cl (.or (.cmp .eq (.v 1) (.c (.int 0))) (.or (.not (.pr (.isT false false false true false) [(.v 0)])) (.or (.cmp .ne (.pr .len [(.v 0)]) (.c (.int 3))) (.cmp .ne (.idx (.v 0) (.c (.int 0))) (.c (.str [108, 105, 115, 116])))))) ρ = .ok !(D.eqv a (.str wList)) := by
        refine or_f (by rw [← hρ]; rfl) (or_f (by rw [← hρ]; rfl) (or_f (by rw [← hρ]; rfl) n1))
      cases q : D.eqv a (.str wList) with
      | false =>
        rw [q] at f1
        have : okLs (deep + 1) (.tup [a, b, c]) = false := by
          cases a with
          | str w =>
            have q : (w == wList) = false := q
            rw [strBeqD] at q
            cases b with
            | str k => cases c with
              | tup xs => show (decide (w = wList) && _) = false; rw [q]; rfl
              | _ => rfl
            | _ => rfl
          | _ => rfl
        rw [this]
        exact iff_yes f1 (ret_ss rfl)
      | true =>
        rw [q] at f1
        refine iff_no f1 ?_
        obtain rfl : a = .str wList := by
          cases a with
          | str w =>
            have q : (w == wList) = true := q
            rw [strBeqD] at q
            rw [of_decide_eq_true q]
          | _ => cases q
        have ts : evT cl (.not (.pr (.isT false false true false false) [(.idx (.v 0) (.c (.int 1)))])) ρ = .ok !(isTyD false false true false false b) := by
          rw [evT_not, evT_pr, pr_1 rfl i1 (isT_any _ _ _ _ _ tb)]; rfl
        have tt : evT cl (.not (.pr (.isT false false false true false) [(.idx (.v 0) (.c (.int 2)))])) ρ = .ok !(isTyD false false false true false c) := by
          rw [evT_not, evT_pr, pr_1 rfl i2 (isT_any _ _ _ _ _ tc)]; rfl
        by_cases hk : ∃ k, b = .str k ∧ (k = kindS false ∨ k = kindS true)
        · obtain ⟨k, rfl, hk⟩ := hk
          have tk : evT cl (.cmp .notin (.idx (.v 0) (.c (.int 1))) (.tup [(.c (.str [100, 111, 116, 115])), (.c (.str [99, 111, 117, 110, 116]))])) ρ = .ok false := by
            refine cmp_t (x := .str k) (by rw [bor_idx, i1]) rfl ?_
            rcases hk with rfl | rfl <;> rfl
          have f2 : evT cl (.or (.not (.pr (.isT false false true false false) [(.idx (.v 0) (.c (.int 1)))])) (.or (.cmp .notin (.idx (.v 0) (.c (.int 1))) (.tup [(.c (.str [100, 111, 116, 115])), (.c (.str [99, 111, 117, 110, 116]))])) (.not (.pr (.isT false false false true false) [(.idx (.v 0) (.c (.int 2)))])))) ρ = .ok !(isTyD false false false true false c) := or_f ts (or_f tk tt)
          cases c with
          | tup xs =>
            refine iff_no f2 (ret_ss ?_)
            have e : okLs (deep + 1) (.tup [.str wList, .str k, .tup xs]) = (!xs.isEmpty && xs.all (okItem (okLs deep))) := by
              show (decide (wList = wList) && (decide (k = kindS false ∨ k = kindS true) && _)) = _
              rw [decide_eq_true rfl, decide_eq_true hk]; rfl
            rw [e, bor_and, evE_and, len_gt rfl i2, bnd_ok]
            cases xs.isEmpty with
            | true => rfl
            | false =>
              show evE cl (.pr .all _) ρ = _
              refine all_lc i2 (tm_l tc) fun x hx => ?_
              rw [← hρ]
              refine ⟨_, rfl, ?_⟩
              refine call_2 (e := .v 2) (d := x) rfl (e2 := .bin .sub (.v 1) (.c (.int 1))) (d2 := .int deep) ?_ (hi x (tm_m tc hx) (dp_m (n := 59) (by omega) hx |> fun h => by omega))
              show R.ok (D.int (((deep + 1 : Nat) : Int) - 1)) = _
              rw [show ((deep + 1 : Nat) : Int) - 1 = (deep : Int) by omega]
          | scr xs => cases tc
          | dct xs => cases tc
          | _ => exact iff_yes f2 (ret_ss rfl)
        · have e : okLs (deep + 1) (.tup [.str wList, b, c]) = false := by
            cases b with
            | str k => cases c with
              | tup xs =>
                show (decide (wList = wList) && (decide (k = kindS false ∨ k = kindS true) && _)) = _
                rw [decide_eq_false (p := k = kindS false ∨ k = kindS true) (fun h => hk ⟨k, rfl, h⟩)]
                rfl
              | _ => rfl
            | _ => rfl
          rw [e]
          refine iff_yes ?_ (ret_ss rfl)
          cases b with
          | str k =>
            refine or_f ts (or_y ?_)
            refine cmp_t (x := .str k) (by rw [bor_idx, i1]) rfl ?_
            show R.ok (D.bl !((kindS false == k) || ((kindS true == k) || false))) = _
            have a : (kindS false == k) = false := by rw [strBeqD]; exact decide_eq_false fun h => hk ⟨k, rfl, .inl h.symm⟩
            have b : (kindS true == k) = false := by rw [strBeqD]; exact decide_eq_false fun h => hk ⟨k, rfl, .inr h.symm⟩
            rw [a, b]; rfl
          | scr xs => cases tb
          | dct xs => cases tb
          | _ => exact or_y ts
  | _ => rfl
theorem isline60 (t : DrB T) {j : Nat} (hj : 63 ≤ j) {d : D} (h : d.tm = true) (hd : d.depth < 60) : callN T j 71 [d] = .ok (.bl (okLn d)) := is_line_at t.toDrI 60 (by decide) h hd j hj
theorem ilist_at (t : DrB T) : ∀ (n : Nat) (d : D), d.tm = true → d.depth < 60 → At T (64 + 2 * n) 73 [d, .int n] (.ok (.bl (okLs n d)))
  | 0, d, _, _ => (At.step t.ilist (k := 63) fun j _ => evF_st (ρ := [.val d, .val (.int (0 : Nat)), .un]) rfl rfl rfl)
  | n + 1, d, ht, hd => At.st (k := 65 + 2 * n) (by omega) t.ilist fun j hj => by
    refine list_ok ht hd fun x hx dx => ?_
    exact (At.step t.item (k := 64 + 2 * n) fun i hi => item_go hx dx (fun d h1 h2 => isline60 t (by omega) h1 h2) fun x h1 h2 => ilist_at t n x h1 h2 i hi) j (by omega)
theorem eq_w {cl : CL} {ρ : Env} {w v : List Nat} (h : rdB ρ 2 = .ok (.str w)) : evT cl (.cmp .eq (.v 2) (.c (.str v))) ρ = .ok (decide (w = v)) := by
  refine cmp_t (x := .str w) h rfl ?_
  rw [eq_ss, strBeqD]
theorem eq_n {cl : CL} {ρ : Env} {w v : List Nat} (h : rdB ρ 2 = .ok (.str w)) (hn : ¬ w = v) : evT cl (.cmp .eq (.v 2) (.c (.str v))) ρ = .ok false := by rw [eq_w h, decide_eq_false hn]
theorem block_ok {cl : CL} {n : Nat} {d : D} (ht : d.tm = true) (hd : d.depth < 60) (hl : ∀ d : D, d.tm = true → d.depth < 60 → cl 71 [d] = .ok (.bl (okLn d))) (hs : ∀ x : D, x.tm = true → x.depth < 60 → cl 73 [x, .int 3] = .ok (.bl (okLs 3 x)))
    (hq : ∀ m, n = m + 1 → ∀ x : D, x.tm = true → x.depth < 60 → cl 69 [x, .int m] = .ok (.bl (okD (okB m) x))) :
    evF cl ir_docs_is_block [d, .int n] = .ok (.bl (okB n d)) := by
  refine evF_st (ρ := [.val d, .val (.int n), .un, .un, .un]) rfl rfl ?_
  have out : ∀ {b : Bool}, b = false → evT cl (.or (.not (.pr (.isT false false false true false) [(.v 0)])) (.or (.cmp .eq (.pr .len [(.v 0)]) (.c (.int 0))) (.not (.pr (.isT false false true false false) [(.idx (.v 0) (.c (.int 0)))])))) [.val d, .val (.int n), .un, .un, .un] = .ok true → evSs cl ir_docs_is_block.body [.val d, .val (.int n), .un, .un, .un] = .ok (.rt (.bl b)) := fun {b} hb h => by
    rw [hb]
    exact iff_yes h (ret_ss rfl)
  cases d with
  | scr xs => cases ht
  | dct xs => cases ht
  | tup xs =>
    cases xs with
    | nil => exact out (by cases n <;> rfl) rfl
    | cons a r =>
      have test : ∀ {b : Bool}, isTyD false false true false false a = b → evT cl (.or (.not (.pr (.isT false false false true false) [(.v 0)])) (.or (.cmp .eq (.pr .len [(.v 0)]) (.c (.int 0))) (.not (.pr (.isT false false true false false) [(.idx (.v 0) (.c (.int 0)))])))) [.val (.tup (a :: r)), .val (.int n), .un, .un, .un] = .ok !b := fun {b} hb => by
        refine or_f rfl (or_f rfl ?_)
        have i0 : evE cl (.idx (.v 0) (.c (.int 0))) [.val (.tup (a :: r)), .val (.int n), .un, .un, .un] = .ok a := idx_t (xs := a :: r) (j := 0) rfl
        rw [evT_not, evT_pr, pr_1 rfl i0 (isT_any _ _ _ _ _ (tm_m ht (by simp))), hb]
        rfl
      cases a with
      | scr xs =>
        have : (D.scr xs).tm = true := tm_m ht (by simp)
        cases this
      | dct xs =>
        have : (D.dct xs).tm = true := tm_m ht (by simp)
        cases this
      | str w =>
        have tr : ∀ x ∈ r, x.tm = true ∧ x.depth < 59 := fun x hx => ⟨tm_m ht (List.mem_cons_of_mem _ hx), dp_m (n := 59) (by omega) (List.mem_cons_of_mem _ hx)⟩
        refine iff_no (test rfl) ?_
        refine asg_ss (d := .str w) (idx_t (xs := .str w :: r) (j := 0) rfl) (by simp) ?_
        show evSs cl _ [.val (.tup (.str w :: r)), .val (.int n), .val (.str w), .un, .un] = _
        by_cases h1 : w = wHead
        · subst h1
          have e : okB n (.tup (.str wHead :: r)) = okHead r := by cases n <;> rfl
          rw [e]
          refine iff_yes rfl ?_
          match r, tr with
          | [], _ => rfl
          | [a], _ => cases a <;> rfl
          | a :: b :: c :: r, _ => cases a <;> rfl
          | [a, x], tr =>
            obtain ⟨tx, dx⟩ := tr x (by simp)
            cases a with
            | scr xs => 
              have : (D.scr xs).tm = true := (tr (.scr xs) (by simp)).1
              cases this
            | dct xs => 
              have : (D.dct xs).tm = true := (tr (.dct xs) (by simp)).1
              cases this
            | int l =>
              have hx := hl x tx (by omega)
              refine asg_ss (d := .bl true) rfl (by simp) (ret_ss ?_)
              show evE cl (.and _ (.and _ _)) [.val (.tup [.str wHead, .int l, x]), .val (.int n), .val (.str wHead), .val (.bl true), .un] = R.ok (D.bl (decide (1 ≤ l ∧ l ≤ 3) && okLn x))
              refine and_y rfl (and_b ?_ fun _ => call_1 (d := x) (idx_t (xs := [.str wHead, .int l, x]) (j := 2) rfl) hx)
              show (R.ok (D.bl (decide (1 ≤ l)))).bind (andK (R.ok (D.bl (decide (l ≤ 3))))) = _
              by_cases z : 1 ≤ l
              · rw [decide_eq_true z]
                show R.ok (D.bl (decide (l ≤ 3))) = _
                congr 2
                exact decide_eq_decide.mpr ⟨fun h => ⟨z, h⟩, fun h => h.2⟩
              · rw [decide_eq_false z, decide_eq_false (p := 1 ≤ l ∧ l ≤ 3) (fun h => z h.1)]
                rfl
            | _ => rfl
        refine iff_no (eq_n rfl h1) ?_
        by_cases h2 : w = wPar
        · subst h2
          have e : okB n (.tup (.str wPar :: r)) = okPar r := by cases n <;> rfl
          rw [e]
          refine iff_yes rfl ?_
          match r, tr with
          | [], _ => rfl
          | [x], tr =>
            obtain ⟨tx, dx⟩ := tr x (by simp)
            exact ret_ss (and_y rfl (call_1 (d := x) (idx_t (xs := [.str wPar, x]) (j := 1) rfl) (hl x tx (by omega))))
          | a :: b :: r, _ => rfl
        refine iff_no (eq_n rfl h2) ?_
        by_cases h3 : w = wRule
        · subst h3
          have e : okB n (.tup (.str wRule :: r)) = r.isEmpty := by cases n <;> rfl
          rw [e]
          refine iff_yes rfl ?_
          cases r <;> rfl
        refine iff_no (eq_n rfl h3) ?_
        by_cases h4 : w = wCode
        · subst h4
          have e : okB n (.tup (.str wCode :: r)) = okCode r := by cases n <;> rfl
          rw [e]
          refine iff_yes rfl ?_
          match r, tr with
          | [], _ => rfl
          | [x], tr =>
            obtain ⟨tx, dx⟩ := tr x (by simp)
            cases x with
            | scr xs => cases tx
            | dct xs => cases tx
            | tup rows =>
              cases rows with
              | nil => rfl
              | cons y ys =>
                refine iff_no rfl (ret_ss ?_)
                refine all_lc (xs := y :: ys) (idx_t (xs := [.str wCode, .tup (y :: ys)]) (j := 1) rfl) (tm_l tx) fun z hz => ?_
                refine ⟨_, rfl, pr_v (d := z) rfl ?_⟩
                have hz := tm_m tx hz
                cases z <;> first | rfl | cases hz
            | _ => rfl
          | a :: b :: r, _ => cases a <;> rfl
        refine iff_no (eq_n rfl h4) ?_
        by_cases h5 : w = wQuote
        · subst h5
          have e : okB n (.tup (.str wQuote :: r)) = (match n with | 0 => false | n + 1 => okQ (okB n) r) := by cases n <;> rfl
          rw [e]
          refine iff_yes rfl ?_
          cases n with
          | zero => rfl
          | succ m =>
            have g0 : evE cl (.cmp .gt (.v 1) (.c (.int 0))) [.val (.tup (.str wQuote :: r)), .val (.int ((m + 1 : Nat) : Int)), .val (.str wQuote), .un, .un] = .ok (.bl true) := by
              show R.ok (D.bl (decide ((0 : Int) < ((m + 1 : Nat) : Int)))) = _
              rw [decide_eq_true (by omega)]
            match r, tr, g0 with
            | [], _, g0 => exact ret_ss (and_y g0 rfl)
            | a :: b :: r, _, g0 => exact ret_ss (and_y g0 rfl)
            | [x], tr, g0 =>
              obtain ⟨tx, dx⟩ := tr x (by simp)
              have i1 : evE cl (.idx (.v 0) (.c (.int 1))) [.val (.tup [.str wQuote, x]), .val (.int ((m + 1 : Nat) : Int)), .val (.str wQuote), .un, .un] = .ok x := idx_t (xs := [.str wQuote, x]) (j := 1) rfl
              refine ret_ss (and_y g0 (and_y rfl (and_b (call_2 i1 (d2 := .int m) ?_ (hq m rfl x tx (by omega))) fun q => ?_)))
              · show R.ok (D.int (((m + 1 : Nat) : Int) - 1)) = _
                rw [show ((m + 1 : Nat) : Int) - 1 = (m : Int) by omega]
              · cases x with
                | tup xs => exact len_gt rfl i1
                | _ => cases q
        refine iff_no (eq_n rfl h5) (ret_ss ?_)
        have e : okB n (.tup (.str w :: r)) = okLs 3 (.tup (.str w :: r)) := by
          cases n <;> (show (if w = wHead then okHead r else if w = wPar then okPar r else if w = wRule then r.isEmpty else if w = wCode then okCode r else if w = wQuote then _ else okLs 3 (.tup (.str w :: r))) = _; rw [if_neg h1, if_neg h2, if_neg h3, if_neg h4, if_neg h5])
        rw [e]
        exact call_2 (e := .v 0) (e2 := .c (.int 3)) rfl rfl (hs _ ht hd)
      | _ => exact out (by cases n <;> rfl) (test rfl)
  | _ => exact out (by cases n <;> rfl) rfl
theorem idoc_at (t : DrB T) : ∀ (n : Nat) (d : D), d.tm = true → d.depth < 60 → At T (72 + 2 * n) 69 [d, .int n] (.ok (.bl (okD (okB n) d))) := by
  have step : ∀ (n : Nat) (d : D), d.tm = true → d.depth < 60 → (∀ x : D, x.tm = true → x.depth < 60 → At T (71 + 2 * n) 67 [x, .int n] (.ok (.bl (okB n x)))) → At T (72 + 2 * n) 69 [d, .int n] (.ok (.bl (okD (okB n) d))) := fun n d ht hd rec => At.st (k := 71 + 2 * n) (by omega) t.docin fun j hj => by
    refine evF_st (ρ := [.val d, .val (.int n), .un]) rfl rfl (ret_ss ?_)
    cases d with
    | scr xs => cases ht
    | dct xs => cases ht
    | tup xs =>
      refine and_y rfl (all_lc (xs := xs) rfl (tm_l ht) fun x hx => ⟨_, rfl, ?_⟩)
      exact call_2 (e := .v 2) (e2 := .v 1) (d := x) (d2 := .int n) rfl rfl (rec x (tm_m ht hx) (dp_m (n := 59) (by omega) hx |> fun h => by omega) j hj)
    | _ => rfl
  intro n
  induction n with
  | zero => exact fun d ht hd => step 0 d ht hd fun x tx dx => At.step t.iblock (k := 70) fun j hj => block_ok tx dx (fun d h1 h2 => isline60 t (by omega) h1 h2) (fun x h1 h2 => ilist_at t 3 x h1 h2 j (by omega)) (fun m hm => by omega)
  | succ n ih => exact fun d ht hd => step (n + 1) d ht hd fun x tx dx => At.st (k := 72 + 2 * n) (by omega) t.iblock fun j hj => block_ok tx dx (fun d h1 h2 => isline60 t (by omega) h1 h2) (fun x h1 h2 => ilist_at t 3 x h1 h2 j (by omega)) (fun m hm x h1 h2 => by
      obtain rfl : n = m := by omega
      exact ih x h1 h2 j hj)
theorem isdoc_at (t : DrB T) {d : D} (ht : d.tm = true) (hd : d.depth < 60) : At T 79 68 [d] (.ok (.bl (okD (okB 3) d))) :=
  At.step t.isdoc (k := 78) fun j hj => evF_st (ρ := [.val d]) rfl rfl (ret_ss (call_2 (e := .v 0) (e2 := .c (.int 3)) rfl rfl (idoc_at t 3 d ht hd j hj)))
end MT
namespace MT
theorem line0_ok (c : Int) : okLn (.tup (Pc.ds (line0 c))) = true := line_okL 3 c [] ⟨List.nodup_nil, fun w h => by cases h⟩ rfl 60 (by decide)
theorem line0_tm (c : Int) : (D.tup (Pc.ds (line0 c))).tm = true := lineS_tm 4 c []
theorem items_ne (n : Nat) (c : Int) : (It.ds (itemsS (n + 1) c)).isEmpty = false := by
  rw [It.ds_map]
  have := (listN_le c).1
  cases h : listN c with
  | zero => omega
  | succ m =>
    unfold itemsS
    rw [h, List.range_succ_eq_map]
    rfl
theorem list_okOf {n : Nat} {b : Bool} {c : Int} (h : ∀ i ∈ itemsS (n + 1) c, okItem (okLs n) i.d = true) : okLs (n + 1) (listD b (itemsS (n + 1) c)) = true := by
  show (decide (wList = wList) && (decide (kindS b = kindS false ∨ kindS b = kindS true) && (!(It.ds (itemsS (n + 1) c)).isEmpty && (It.ds (itemsS (n + 1) c)).all (okItem (okLs n))))) = true
  have k : decide (kindS b = kindS false ∨ kindS b = kindS true) = true := by cases b <;> rfl
  have al : (It.ds (itemsS (n + 1) c)).all (okItem (okLs n)) = true := by
    rw [List.all_eq_true]
    intro x hx
    rw [It.ds_map] at hx
    obtain ⟨q, hq, rfl⟩ := List.mem_map.mp hx
    exact h q hq
  rw [k, items_ne, al, decide_eq_true rfl]
  rfl
theorem items_ok : ∀ (n : Nat) (c : Int), ∀ i ∈ itemsS (n + 1) c, okItem (okLs n) i.d = true
  | n, c, i, h => by
    have fl : ∀ c', okItem (okLs n) (It.flat (line0 c')).d = true := fun c' => by
      show (okLn (.tup (Pc.ds (line0 c'))) && (true || _)) = true
      rw [line0_ok]; rfl
    unfold itemsS at h
    rcases List.mem_append.mp h with h | h
    · obtain ⟨k, _, rfl⟩ := List.mem_map.mp h
      split
      · rename_i q
        cases n with
        | zero => exact absurd q.1 (by decide)
        | succ m =>
          show (okLn (.tup (Pc.ds (line0 _))) && (false || okLs (m + 1) (listD (cntOf (c + 17 * k + 5)) (itemsS (m + 1) (c + 17 * k + 5))))) = true
          rw [line0_ok, list_okOf (items_ok m _)]; rfl
      · exact fl _
    · split at h
      · obtain ⟨k, _, rfl⟩ := List.mem_map.mp h
        exact fl _
      · cases h
theorem items_tm : ∀ (n : Nat) (c : Int), ∀ i ∈ itemsS n c, i.d.tm = true
  | 0, c, i, h => by cases h
  | n + 1, c, i, h => by
    have fl : ∀ c', (It.flat (line0 c')).d.tm = true := fun c' => tm_pair (line0_tm c') rfl
    unfold itemsS at h
    rcases List.mem_append.mp h with h | h
    · obtain ⟨k, _, rfl⟩ := List.mem_map.mp h
      split
      · exact tm_pair (line0_tm _) (tm_trip rfl (by cases cntOf (c + 17 * k + 5) <;> rfl) (tm_tup (fun x hx => by
          rw [It.ds_map] at hx
          obtain ⟨q, hq, rfl⟩ := List.mem_map.mp hx
          exact items_tm n _ q hq) (by rw [It.ds_map, List.length_map]; have := items_len n (c + 17 * k + 5); omega)))
      · exact fl _
    · split at h
      · obtain ⟨k, _, rfl⟩ := List.mem_map.mp h
        exact fl _
      · cases h
theorem list_tm (b : Bool) (n : Nat) (c : Int) : (listD b (itemsS n c)).tm = true := tm_trip rfl (by cases b <;> rfl) (tm_tup (fun x hx => by
  rw [It.ds_map] at hx
  obtain ⟨q, hq, rfl⟩ := List.mem_map.mp hx
  exact items_tm n _ q hq) (by rw [It.ds_map, List.length_map]; have := items_len n c; omega))
theorem codeS_row {c : Int} {s : List Nat} (h : s ∈ codeS c) : s.length ≤ 30 := by
  unfold codeS at h
  obtain ⟨k, _, rfl⟩ := List.mem_map.mp h
  have m1 := mix_nn (c := c + k) (p := 9851) (m := 6) (by omega)
  have m2 := mix_lt (c := c + k) (p := 9851) (m := 6) (by omega)
  obtain ⟨n, hn⟩ : ∃ n : Nat, (mix (c + k) 9851 6).toNat = n := ⟨_, rfl⟩
  have : n < 6 := by omega
  rw [hn]
  match n, this with
  | 0, _ => exact Nat.zero_le _
  | 1, _ => exact (by decide : 3 ≤ 30)
  | 2, _ => exact (by decide : 3 ≤ 30)
  | 3, _ => exact text_len _
  | 4, _ => exact (by decide : 2 ≤ 30)
  | 5, _ => exact text_len _
theorem codeS_ne (c : Int) : 1 ≤ (codeS c).length ∧ (codeS c).length ≤ 3 := by
  have h1 := mix_nn (c := c) (p := 9839) (m := 3) (by omega)
  have h2 := mix_lt (c := c) (p := 9839) (m := 3) (by omega)
  unfold codeS
  rw [List.length_map, List.length_range]
  unfold codeN
  omega
theorem quoteN_le (c : Int) : 1 ≤ quoteN c ∧ quoteN c ≤ 2 := by
  have h1 := mix_nn (c := c) (p := 9833) (m := 2) (by omega)
  have h2 := mix_lt (c := c) (p := 9833) (m := 2) (by omega)
  unfold quoteN
  omega
theorem block_all (P : Nat → D → Prop) (head : ∀ d (n : Nat) c, 1 ≤ n → n ≤ 3 → P d (Bk.head n (line0 c)).d) (par : ∀ d c, P d (Bk.par (line0 c)).d) (rule : ∀ d, P d Bk.rule.d) (code : ∀ d c, P d (Bk.code (codeS c)).d) (list : ∀ d b c, P d (Bk.list b (itemsS 3 c)).d)
    (quote : ∀ d (bs : List Bk), bs.length ≤ 2 → bs ≠ [] → (∀ b ∈ bs, P d b.d) → P (d + 1) (Bk.quote bs).d) : ∀ (d : Nat) (c : Int), P d (blockS d c).d := by
  have key : ∀ (d : Nat) (rec : Option (Int → Bk)) (kind c : Int), (∀ f, rec = some f → ∃ e, d = e + 1 ∧ ∀ c, P e (f c).d) → P d (blockOf rec kind c).d := by
    intro d rec kind c hr
    unfold blockOf
    split
    · have h1 := mix_nn (c := c) (p := 9857) (m := 3) (by omega)
      have h2 := mix_lt (c := c) (p := 9857) (m := 3) (by omega)
      exact head _ _ _ (by omega) (by omega)
    · split
      · exact rule _
      · split
        · exact code _ _
        · split
          · exact list _ _ _
          · split
            · cases rec with
              | none => exact par _ _
              | some f =>
                obtain ⟨e, rfl, he⟩ := hr f rfl
                have q := quoteN_le c
                refine quote e _ (by rw [List.length_map, List.length_range]; omega) (fun z => ?_) fun b hb => ?_
                · have := congrArg List.length z
                  rw [List.length_map, List.length_range, List.length_nil] at this
                  omega
                · obtain ⟨k, _, rfl⟩ := List.mem_map.mp hb
                  exact he _
            · exact par _ _
  intro d
  induction d with
  | zero => intro c; exact key 0 none _ c (fun f h => by cases h)
  | succ d ih => intro c; exact key (d + 1) (some (blockS d)) _ c (fun f h => by cases h; exact ⟨d, rfl, ih⟩)
theorem block_okB : ∀ (d : Nat) (c : Int), okB d (blockS d c).d = true := by
  refine block_all (fun d x => okB d x = true) ?_ ?_ ?_ ?_ ?_ ?_
  · intro d n c h1 h2
    have e : okB d (Bk.head n (line0 c)).d = (decide (1 ≤ (n : Int) ∧ (n : Int) ≤ 3) && okLn (.tup (Pc.ds (line0 c)))) := by cases d <;> rfl
    rw [e, line0_ok, decide_eq_true (by omega)]; rfl
  · intro d c
    have e : okB d (Bk.par (line0 c)).d = okLn (.tup (Pc.ds (line0 c))) := by cases d <;> rfl
    rw [e, line0_ok]
  · intro d; cases d <;> rfl
  · intro d c
    have e : okB d (Bk.code (codeS c)).d = (!((codeS c).map D.str).isEmpty && ((codeS c).map D.str).all isStr) := by cases d <;> rfl
    rw [e]
    have := (codeS_ne c).1
    have al : ∀ xs : List (List Nat), (xs.map D.str).all isStr = true := fun xs => by
      rw [List.all_map, List.all_eq_true]; intro x _; rfl
    rw [al]
    cases h : codeS c with
    | nil => rw [h] at this; exact absurd this (by decide)
    | cons x r => rfl
  · intro d b c
    have e : okB d (Bk.list b (itemsS 3 c)).d = okLs 3 (listD b (itemsS 3 c)) := by cases d <;> rfl
    rw [e]
    exact list_okOf (items_ok 2 c)
  · intro d bs h1 h2 h3
    show ((Bk.ds bs).all (okB d) && !(Bk.ds bs).isEmpty) = true
    rw [Bk.ds_map]
    have : (bs.map Bk.d).all (okB d) = true := by
      rw [List.all_eq_true]
      intro x hx
      obtain ⟨b, hb, rfl⟩ := List.mem_map.mp hx
      exact h3 b hb
    rw [this]
    cases bs with
    | nil => exact absurd rfl h2
    | cons b r => rfl
theorem block_tm : ∀ (d : Nat) (c : Int), (blockS d c).d.tm = true := by
  refine block_all (fun d x => x.tm = true) ?_ ?_ ?_ ?_ ?_ ?_
  · intro d n c _ _; exact tm_trip rfl rfl (line0_tm c)
  · intro d c; exact tm_pair rfl (line0_tm c)
  · intro d; rfl
  · intro d c
    refine tm_pair rfl (tm_tup (fun x hx => ?_) ?_)
    · obtain ⟨s, hs, rfl⟩ := List.mem_map.mp hx
      exact tm_str (by have := codeS_row hs; omega)
    · rw [List.length_map]; have := codeS_ne c; omega
  · intro d b c; exact list_tm b 3 c
  · intro d bs h1 h2 h3
    refine tm_pair rfl (tm_tup (fun x hx => ?_) ?_)
    · rw [Bk.ds_map] at hx
      obtain ⟨b, hb, rfl⟩ := List.mem_map.mp hx
      exact h3 b hb
    · rw [Bk.ds_map, List.length_map]; omega
theorem doc_all {c : Int} {m : Nat} {d : D} (h : d ∈ Bk.ds (docS c m)) : okB 3 d = true ∧ d.tm = true ∧ d.depth ≤ 31 := by
  have g := (doc_mem h).2.dp
  rw [Bk.ds_map] at h
  obtain ⟨b, hb, rfl⟩ := List.mem_map.mp h
  obtain ⟨k, _, rfl⟩ := List.mem_map.mp hb
  exact ⟨block_okB 3 _, block_tm 3 _, g⟩
theorem depth_tup' {b : Nat} {xs : List D} (h : ∀ x ∈ xs, x.depth ≤ b) : (D.tup xs).depth ≤ b + 1 := Nat.succ_le_succ (depths_of h)
theorem call_3 {cl : CL} {ρ : Env} {f : Nat} {e e2 e3 : E} {d d2 d3 r : D} (h : evE cl e ρ = .ok d) (h1 : evE cl e2 ρ = .ok d2) (h2 : evE cl e3 ρ = .ok d3) (h3 : cl f [d, d2, d3] = .ok r) : evE cl (.call f [e, e2, e3]) ρ = .ok r := by
  rw [evE_call, es_c h (es_2 h1 h2), bnd_ok, h3]
/-! ### what is spoilt -/
def aItem : D := .tup [aLine, .non]
def deepD : Nat → D
  | 0 => .tup [.str wList, .str (kindS false), .tup [aItem]]
  | n + 1 => .tup [.str wList, .str (kindS true), .tup [.tup [aLine, deepD n]]]
def quotesD : Nat → D
  | 0 => .tup [.str wPar, aLine]
  | n + 1 => .tup [.str wQuote, .tup [quotesD n]]
def badB (L : D) : List D := ([(.tup [(.str [104, 101, 97, 100]), (.int 0), L]), (.tup [(.str [104, 101, 97, 100]), (.int 4), L]), (.tup [(.str [104, 101, 97, 100]), (.bl true), L])] : List D) ++ ([(.tup [(.str [104, 101, 97, 100]), (.int 1)]), (.tup [(.str [104, 101, 97, 100]), (.int 1), (.tup [])]), (.tup [(.str [104, 101, 97, 100]), (.str [49]), L])] : List D) ++ ([(.tup [(.str [112, 97, 114]), (.tup [])]), (.tup [(.str [112, 97, 114]), L, L]), (.tup [(.str [112, 97, 114]), (.str [97])]), (.tup [(.str [112, 97, 114])])] : List D) ++ ([(.tup [(.str [114, 117, 108, 101]), (.int 1)]), (.tup [(.str [114, 117, 108, 101]), (.tup [])]), (.tup [(.str [119, 111, 114, 100]), L]), (.tup [])] : List D) ++ ([(.tup [(.str [99, 111, 100, 101]), (.tup [])]), (.tup [(.str [99, 111, 100, 101]), (.lst [(.str [97])])]), (.tup [(.str [99, 111, 100, 101]), (.str [97])])] : List D) ++ ([(.tup [(.str [99, 111, 100, 101]), (.tup [(.str [97]), (.int 5)])]), (.tup [(.str [99, 111, 100, 101]), (.tup [(.str [97])]), (.int 1)]), (.tup [(.str [113, 117, 111, 116, 101]), (.tup [])])] : List D) ++ ([(.tup [(.str [113, 117, 111, 116, 101]), (.tup [(.str [112, 97, 114]), L])]), (.tup [(.str [113, 117, 111, 116, 101]), (.lst [(.tup [(.str [114, 117, 108, 101])])])])] : List D) ++ ([(.tup [(.str [113, 117, 111, 116, 101]), (.tup [(.tup [(.str [114, 117, 108, 101])])]), (.int 1)]), (.tup [(.str [108, 105, 115, 116]), (.str [100, 111, 116, 115]), (.tup [])])] : List D) ++ ([(.tup [(.str [108, 105, 115, 116]), (.str [119, 111, 114, 100]), (.tup [(.tup [L, .non])])]), (.tup [(.str [108, 105, 115, 116]), (.str [100, 111, 116, 115]), (.lst [(.tup [L, .non])])])] : List D) ++ ([(.tup [(.str [108, 105, 115, 116]), (.str [100, 111, 116, 115]), (.tup [L, .non])]), (.tup [(.str [108, 105, 115, 116]), (.tup [(.str [100, 111, 116, 115])]), (.tup [(.tup [L, .non])])])] : List D) ++ ([(.tup [(.str [108, 105, 115, 116]), (.str [100, 111, 116, 115]), (.tup [(.tup [L, (.tup [])])])]), (.tup [(.str [108, 105, 115, 116]), (.str [100, 111, 116, 115]), (.tup [(.tup [L])])])] : List D) ++ ([(.tup [(.str [108, 105, 115, 116]), (.str [100, 111, 116, 115]), (.tup [(.tup [(.tup []), .non])])])] : List D) ++ ([(.tup [(.str [108, 105, 115, 116]), (.str [100, 111, 116, 115]), (.tup [(.tup [L, (.tup [(.str [112, 97, 114]), L])])])])] : List D) ++ ([(.tup [(.str [108, 105, 115, 116]), (.str [100, 111, 116, 115]), (.tup [(.tup [L, (.tup [L, .non])])])])] : List D) ++ ([(.tup [(.str [108, 105, 115, 116]), (.tup [(.tup [L, .non])])])] : List D) ++ ([(deepD 3), L, (.str [114, 117, 108, 101]), .non, (.int 5), (.lst [(.str [114, 117, 108, 101])]), (.lst [(.tup [(.str [114, 117, 108, 101])])]), (.tup [(.str [104, 101, 97, 100]), (.int 1), L, L]), (.tup [(.tup [(.str [114, 117, 108, 101])])])] : List D)
theorem badLs {n : Nat} {w k : List Nat} {xs : List D} (h : xs.all (okItem (okLs n)) = false) : okLs (n + 1) (.tup [.str w, .str k, .tup xs]) = false := by
  show (_ && (_ && (_ && xs.all (okItem (okLs n))))) = false
  rw [h]; simp
theorem badIt {n : Nat} {L x : D} (h : isNon x = false) (h2 : okLs n x = false) : okItem (okLs n) (.tup [L, x]) = false := by
  show (_ && (isNon x || okLs n x)) = false
  rw [h, h2]; simp
theorem badLk {n : Nat} {k : List Nat} {xs : List D} (h : okLs 3 (.tup [.str wList, .str k, .tup xs]) = false) : okB n (.tup [.str wList, .str k, .tup xs]) = false := by
  cases n <;> exact h
theorem badNon {n : Nat} {k : List Nat} {L : D} : okB n (.tup [.str wList, .str k, .tup [L, .non]]) = false := badLk (badLs (by rw [List.all_cons]; exact Bool.and_false _))
theorem badb (x : D) (ys r : List D) (ht : (D.tup (.tup ys :: r)).tm = true) (hd : (D.tup (.tup ys :: r)).depth ≤ 9) (hx : x ∈ badB (.tup (.tup ys :: r))) : okB 3 x = false ∧ okB 2 x = false ∧ x.tm = true ∧ x.depth ≤ 20 := by
  generalize hL : (D.tup (.tup ys :: r)) = L at *
  have one : ∀ n, okB n L = false := fun n => by rw [← hL]; cases n <;> rfl
  have hdd := hd
  have dL : ∀ w : D, w.depth = 0 → max w.depth (max L.depth 0) + 1 ≤ 20 := fun w h => by omega
  have itm : (D.tup [L, .non]).tm = true := tm_pair ht rfl
  unfold badB at hx
  simp only [List.mem_append, List.mem_cons, List.not_mem_nil, or_false] at hx
  have two : ∀ {x : D}, (∀ n, okB n x = false) → okB 3 x = false ∧ okB 2 x = false := fun h => ⟨h 3, h 2⟩
  have dep : ∀ {xs : List D} {b : Nat}, D.depths xs ≤ b → (D.tup xs).depth ≤ b + 1 := fun h => Nat.succ_le_succ h
  have hz : ∀ {x : D} {xs : List D} {b : Nat}, x.depth ≤ b → D.depths xs ≤ b → D.depths (x :: xs) ≤ b := fun h1 h2 => Nat.max_le.mpr ⟨h1, h2⟩
  have dpx : x.tm = true ∧ x.depth ≤ 20 := by
    rcases hx with (((((((((((((((rfl | rfl | rfl) | (rfl | rfl | rfl)) | (rfl | rfl | rfl | rfl)) | (rfl | rfl | rfl | rfl)) | (rfl | rfl | rfl)) | (rfl | rfl | rfl)) | (rfl | rfl)) | (rfl | rfl)) | (rfl | rfl)) | (rfl | rfl)) | (rfl | rfl)) | rfl) | rfl) | rfl) | rfl) | (rfl | rfl | rfl | rfl | rfl | rfl | rfl | rfl | rfl)
    all_goals first
      | exact ⟨rfl, by decide⟩
      | refine ⟨?_, ?_⟩
        · repeat' (first | exact ht | rfl | exact itm | (show (D.tm _ && true) = true; rw [itm]; rfl) | (refine tm_tup (fun x hx => ?_) (by simp)) | (simp only [List.mem_cons, List.not_mem_nil, or_false] at hx) | (rcases hx with rfl | rfl | rfl | rfl) | (rcases hx with rfl | rfl | rfl) | (rcases hx with rfl | rfl) | (subst hx))
        · first
            | omega
            | (simp only [D.depth, D.depths]; omega)
  refine ⟨?_, ?_, dpx⟩
  all_goals
    rcases hx with (((((((((((((((rfl | rfl | rfl) | (rfl | rfl | rfl)) | (rfl | rfl | rfl | rfl)) | (rfl | rfl | rfl | rfl)) | (rfl | rfl | rfl)) | (rfl | rfl | rfl)) | (rfl | rfl)) | (rfl | rfl)) | (rfl | rfl)) | (rfl | rfl)) | (rfl | rfl)) | rfl) | rfl) | rfl) | rfl) | (rfl | rfl | rfl | rfl | rfl | rfl | rfl | rfl | rfl)
    all_goals first
      | rfl
      | exact one _
      | (subst hL; rfl)
      | exact badNon
      | exact badLk (badLs (by rw [List.all_cons, badIt rfl rfl]; rfl))
      | (subst hL; exact badLk (badLs (by rw [List.all_cons, badIt rfl rfl]; rfl)))
variable {T : Tab}
structure DrK02 (T : Tab) : Prop extends DrD T, DrB T where
  cell : T 4 = some (.ir ir_law_cell)
  deep : T 8 = some (.ir ir_law_deep)
  quotes : T 42 = some (.ir ir_law_quotes)
  nob : T 34 = some (.ir ir_law_no_blocks)
  law : T 86 = some (.ir ir_law_k02)
theorem deep_at (t : DrK02 T) (n : Nat) (h : n ≤ 3) : At T 1 8 [.int n] (.ok (deepD n)) := At.step t.deep (k := 0) fun j _ => evF_st (ρ := [.val (.int n), .un, .un]) rfl rfl (by
  match n, h with
  | 0, _ => rfl
  | 1, _ => rfl
  | 2, _ => rfl
  | 3, _ => rfl)
theorem quotes_at (t : DrK02 T) (n : Nat) (h : n ≤ 4) : At T 1 42 [.int n] (.ok (quotesD n)) := At.step t.quotes (k := 0) fun j _ => evF_st (ρ := [.val (.int n), .un, .un]) rfl rfl (by
  match n, h with
  | 0, _ => rfl
  | 1, _ => rfl
  | 2, _ => rfl
  | 3, _ => rfl
  | 4, _ => rfl)
theorem nob_at (t : DrK02 T) (c : Int) : At T 7 34 [.int c] (.ok (.lst (badB (.tup (Pc.ds (line0 c)))))) := by
  refine At.step t.nob fun j hj => evF_st (ρ := [.val (.int c), .un, .un, .un]) rfl rfl ?_
  have lx := line0_at t.toDrL c j hj
  have dx := deep_at t 3 (by decide) j (by omega)
  generalize D.tup (Pc.ds (line0 c)) = L at *
  unfold badB
  have add : ∀ {es : List E} {xs ys : List D}, evEs (callN T j) es [.val (.int c), .val L, .val (.tup [L, .non]), .val (.lst xs)] = .ok ys → xs.length + ys.length ≤ 100 → evE (callN T j) (.bin .add (.v 3) (.lst es)) [.val (.int c), .val L, .val (.tup [L, .non]), .val (.lst xs)] = .ok (.lst (xs ++ ys)) := fun {es xs ys} h2 h3 => bin_e (x := .lst xs) rfl (by rw [bor_lst]; exact lst_e h2) (add_ll (by omega))
  have st : ∀ {es : List E} {xs ys : List D} {rest : List S} {r : R Fl}, evEs (callN T j) es [.val (.int c), .val L, .val (.tup [L, .non]), .val (.lst xs)] = .ok ys → xs.length + ys.length ≤ 100 → evSs (callN T j) rest [.val (.int c), .val L, .val (.tup [L, .non]), .val (.lst (xs ++ ys))] = r → evSs (callN T j) (.asg 3 false (.bin .add (.v 3) (.lst es)) :: rest) [.val (.int c), .val L, .val (.tup [L, .non]), .val (.lst xs)] = r := fun h1 h2 h3 => asg_ss (add h1 h2) (by simp) h3
  refine asg_ss (call_2 (e := .v 0) (e2 := .tup []) rfl rfl lx) (by simp) ?_
  refine asg_ss (d := .tup [L, .non]) rfl (by simp) ?_
  refine asg_ss (d := .lst [(.tup [(.str [104, 101, 97, 100]), (.int 0), L]), (.tup [(.str [104, 101, 97, 100]), (.int 4), L]), (.tup [(.str [104, 101, 97, 100]), (.bl true), L])]) rfl (by simp) ?_
  show evSs (callN T j) _ [.val (.int c), .val L, .val (.tup [L, .non]), .val (.lst [(.tup [(.str [104, 101, 97, 100]), (.int 0), L]), (.tup [(.str [104, 101, 97, 100]), (.int 4), L]), (.tup [(.str [104, 101, 97, 100]), (.bl true), L])])] = _
  refine st (ys := [(.tup [(.str [104, 101, 97, 100]), (.int 1)]), (.tup [(.str [104, 101, 97, 100]), (.int 1), (.tup [])]), (.tup [(.str [104, 101, 97, 100]), (.str [49]), L])]) rfl (by simp) ?_
  refine st (ys := [(.tup [(.str [112, 97, 114]), (.tup [])]), (.tup [(.str [112, 97, 114]), L, L]), (.tup [(.str [112, 97, 114]), (.str [97])]), (.tup [(.str [112, 97, 114])])]) rfl (by simp) ?_
  refine st (ys := [(.tup [(.str [114, 117, 108, 101]), (.int 1)]), (.tup [(.str [114, 117, 108, 101]), (.tup [])]), (.tup [(.str [119, 111, 114, 100]), L]), (.tup [])]) rfl (by simp) ?_
  refine st (ys := [(.tup [(.str [99, 111, 100, 101]), (.tup [])]), (.tup [(.str [99, 111, 100, 101]), (.lst [(.str [97])])]), (.tup [(.str [99, 111, 100, 101]), (.str [97])])]) rfl (by simp) ?_
  refine st (ys := [(.tup [(.str [99, 111, 100, 101]), (.tup [(.str [97]), (.int 5)])]), (.tup [(.str [99, 111, 100, 101]), (.tup [(.str [97])]), (.int 1)]), (.tup [(.str [113, 117, 111, 116, 101]), (.tup [])])]) rfl (by simp) ?_
  refine st (ys := [(.tup [(.str [113, 117, 111, 116, 101]), (.tup [(.str [112, 97, 114]), L])]), (.tup [(.str [113, 117, 111, 116, 101]), (.lst [(.tup [(.str [114, 117, 108, 101])])])])]) rfl (by simp) ?_
  refine st (ys := [(.tup [(.str [113, 117, 111, 116, 101]), (.tup [(.tup [(.str [114, 117, 108, 101])])]), (.int 1)]), (.tup [(.str [108, 105, 115, 116]), (.str [100, 111, 116, 115]), (.tup [])])]) rfl (by simp) ?_
  refine st (ys := [(.tup [(.str [108, 105, 115, 116]), (.str [119, 111, 114, 100]), (.tup [(.tup [L, .non])])]), (.tup [(.str [108, 105, 115, 116]), (.str [100, 111, 116, 115]), (.lst [(.tup [L, .non])])])]) rfl (by simp) ?_
  refine st (ys := [(.tup [(.str [108, 105, 115, 116]), (.str [100, 111, 116, 115]), (.tup [L, .non])]), (.tup [(.str [108, 105, 115, 116]), (.tup [(.str [100, 111, 116, 115])]), (.tup [(.tup [L, .non])])])]) rfl (by simp) ?_
  refine st (ys := [(.tup [(.str [108, 105, 115, 116]), (.str [100, 111, 116, 115]), (.tup [(.tup [L, (.tup [])])])]), (.tup [(.str [108, 105, 115, 116]), (.str [100, 111, 116, 115]), (.tup [(.tup [L])])])]) rfl (by simp) ?_
  refine st (ys := [(.tup [(.str [108, 105, 115, 116]), (.str [100, 111, 116, 115]), (.tup [(.tup [(.tup []), .non])])])]) rfl (by simp) ?_
  refine st (ys := [(.tup [(.str [108, 105, 115, 116]), (.str [100, 111, 116, 115]), (.tup [(.tup [L, (.tup [(.str [112, 97, 114]), L])])])])]) rfl (by simp) ?_
  refine st (ys := [(.tup [(.str [108, 105, 115, 116]), (.str [100, 111, 116, 115]), (.tup [(.tup [L, (.tup [L, .non])])])])]) rfl (by simp) ?_
  refine st (ys := [(.tup [(.str [108, 105, 115, 116]), (.tup [(.tup [L, .non])])])]) rfl (by simp) ?_
  refine ret_ss ?_
  rw [bor_bin]
  refine add (ys := [(deepD 3), L, (.str [114, 117, 108, 101]), .non, (.int 5), (.lst [(.str [114, 117, 108, 101])]), (.lst [(.tup [(.str [114, 117, 108, 101])])]), (.tup [(.str [104, 101, 97, 100]), (.int 1), L, L]), (.tup [(.tup [(.str [114, 117, 108, 101])])])]) ?_ (by simp)
  exact es_c (call_1 (e := .c (.int 3)) rfl dx) rfl
theorem isd (t : DrK02 T) {j : Nat} (hj : 79 ≤ j) {xs : List D} {b : Bool} (h : ∀ x ∈ xs, x.tm = true ∧ x.depth ≤ 50) (hl : xs.length ≤ 100) (hb : xs.all (okB 3) = b) : callN T j 68 [.tup xs] = .ok (.bl b) := by
  have := isdoc_at t.toDrB (d := .tup xs) (tm_tup (fun x hx => (h x hx).1) (by omega)) (by have := depth_tup' (b := 50) fun x hx => (h x hx).2; omega) j hj
  rw [this]
  show R.ok (D.bl (xs.all (okB 3))) = _
  rw [hb]
theorem isntF {cl : CL} {ρ : Env} {f : Nat} {e : E} {a b : Bool} (h : evE cl (.call f [e]) ρ = .ok (.bl a)) (hab : a = b) : evT cl (.cmp .isnot (.call f [e]) (.c (.bl b))) ρ = .ok false := by
  subst hab
  rw [evT_cmp, evE_cmp, bor_call, h]
  cases a <;> rfl
theorem all_bad {xs : List D} {p : D} {f : D → Bool} (hp : p ∈ xs) (h : f p = false) : xs.all f = false := by
  rw [List.all_eq_false]
  exact ⟨p, hp, by rw [h]; decide⟩
def k02Inner : List S := [.iff (.cmp .isnot (.call 68 [(.bin .add (.bin .add (.slHi (.v 3) (.v 5)) (.tup [(.v 6)])) (.slLo (.v 3) (.v 5)))]) (.c (.bl false))) [.ret (.c (.bl false))] [], .iff (.cmp .isnot (.call 68 [(.tup [(.tup [(.c (.str [113, 117, 111, 116, 101])), (.tup [(.tup [(.c (.str [114, 117, 108, 101]))]), (.v 6)])])])]) (.c (.bl false))) [.ret (.c (.bl false))] []]
def k02Things : List S := [.iff (.cmp .isnot (.call 68 [(.v 8)]) (.c (.bl false))) [.ret (.c (.bl false))] []]
def k02Body : List S := [.asg 2 false (.bin .add (.call 4 [(.v 0), (.v 1)]) (.v 1)), .asg 3 false (.call 9 [(.v 2), (.c (.int 5))]), .asg 4 false (.tup [(.call 8 [(.c (.int 2))]), (.call 42 [(.c (.int 3))])]), .iff (.or (.cmp .isnot (.call 68 [(.v 3)]) (.c (.bl true))) (.cmp .isnot (.call 68 [(.bin .add (.v 3) (.v 4))]) (.c (.bl true)))) [.ret (.c (.bl false))] [], .asg 5 false (.call 32 [(.bin .add (.call 4 [(.v 0), (.c (.int 3))]) (.v 1)), (.c (.int 9811)), (.bin .add (.pr .len [(.v 3)]) (.c (.int 1)))]), .for (.nm 6) .seq [(.call 34 [(.bin .add (.call 4 [(.v 0), (.c (.int 4))]) (.v 1))])] k02Inner, .asg 7 false (.tup [(.c (.str [113, 117, 111, 116, 101])), (.tup [(.call 42 [(.c (.int 2))]), (.call 42 [(.c (.int 3))])])]), .iff (.or (.cmp .isnot (.call 68 [(.tup [(.call 42 [(.c (.int 4))])])]) (.c (.bl false))) (.cmp .isnot (.call 68 [(.bin .add (.v 3) (.tup [(.v 7)]))]) (.c (.bl false)))) [.ret (.c (.bl false))] [], .for (.nm 8) .seq [(.tup [(.pr .list [(.v 3)]), (.c .non), (.c (.str [100, 111, 99])), (.c (.int 5)), (.tup [(.c (.str [114, 117, 108, 101]))]), (.c (.bl true))])] k02Things]
theorem slhi_t (X : List D) (a : Nat) {cl : CL} {ρ : Env} {u v : Nat} (h1 : rdB ρ u = .ok (.tup X)) (h2 : rd ρ v = .ok (.int a)) : evE cl (.slHi (.v u) (.v v)) ρ = .ok (.tup (X.take a)) := by
  rw [evE_slHi, bor_v, h1, bnd_ok, evE_v, h2, bnd_ok, intD_i, bnd_ok]
  show R.ok (D.tup (cutL X none (some (a : Int)))) = _
  rw [cut_hi]
theorem sllo_t (X : List D) (a : Nat) {cl : CL} {ρ : Env} {u v : Nat} (h1 : rdB ρ u = .ok (.tup X)) (h2 : rd ρ v = .ok (.int a)) : evE cl (.slLo (.v u) (.v v)) ρ = .ok (.tup (X.drop a)) := by
  rw [evE_slLo, bor_v, h1, bnd_ok, evE_v, h2, bnd_ok, intD_i, bnd_ok]
  show R.ok (D.tup (cutL X (some (a : Int)) none)) = _
  rw [cut_lo]
theorem k02_inner (t : DrK02 T) {j : Nat} (hj : 79 ≤ j) {X : List D} (hX : ∀ x ∈ X, okB 3 x = true ∧ x.tm = true ∧ x.depth ≤ 31) (hl : X.length ≤ 5) {c : Int} {p : D} (hp : p ∈ badB (.tup (Pc.ds (line0 c)))) {a : Nat} {a0 a1 a2 a4 a7 a8 : SV} :
    evSs (callN T j) k02Inner [a0, a1, a2, .val (.tup X), a4, .val (.int a), .val p, a7, a8] = .ok (.nx [a0, a1, a2, .val (.tup X), a4, .val (.int a), .val p, a7, a8]) := by
  obtain ⟨ys, r, e⟩ : ∃ ys r, Pc.ds (line0 c) = .tup ys :: r := by
    have h1 := (lineN_le c).1
    have h2 : (line0 c).length = lineN c := line_acc (lineS 3) c [] (lineN c)
    cases q : line0 c with
    | nil => rw [q] at h2; simp at h2; omega
    | cons p r => cases p <;> exact ⟨_, _, rfl⟩
  have tl := line0_tm c
  have dl := (line0_gd c).dp
  rw [e] at hp tl dl
  obtain ⟨p1, p2, p3, p4⟩ := badb p ys r tl dl hp
  generalize hρ : ([a0, a1, a2, .val (.tup X), a4, .val (.int a), .val p, a7, a8] : Env) = ρ
  have c1 : evE (callN T j) (.bin .add (.bin .add (.slHi (.v 3) (.v 5)) (.tup [(.v 6)])) (.slLo (.v 3) (.v 5))) ρ = .ok (.tup (X.take a ++ [p] ++ X.drop a)) := by
    have s1 : evE (callN T j) (.slHi (.v 3) (.v 5)) ρ = .ok (.tup (X.take a)) := by rw [← hρ]; exact slhi_t X a rfl rfl
    have s2 : evE (callN T j) (.slLo (.v 3) (.v 5)) ρ = .ok (.tup (X.drop a)) := by rw [← hρ]; exact sllo_t X a rfl rfl
    have s3 : evE (callN T j) (.tup [(.v 6)]) ρ = .ok (.tup [p]) := by rw [← hρ]; rfl
    rw [evE_bin, bor_bin, evE_bin, bor_slHi, s1, bnd_ok, bor_tup, s3, bnd_ok, add_tt (by simp; omega), bnd_ok, bor_slLo, s2, bnd_ok, add_tt (by simp; omega)]
  have q1 := isd t hj (xs := X.take a ++ [p] ++ X.drop a) (b := false) (fun x hx => by
    rcases List.mem_append.mp hx with hx | hx
    · rcases List.mem_append.mp hx with hx | hx
      · have := hX x (List.mem_of_mem_take hx); exact ⟨this.2.1, by omega⟩
      · rw [List.mem_singleton.mp hx]; exact ⟨p3, by omega⟩
    · have := hX x (List.mem_of_mem_drop hx); exact ⟨this.2.1, by omega⟩) (by simp; omega) (all_bad (p := p) (by simp) p1)
  refine iff_no (isntF (call_1 c1 q1) rfl) ?_
  have c2 : evE (callN T j) (.tup [(.tup [(.c (.str [113, 117, 111, 116, 101])), (.tup [(.tup [(.c (.str [114, 117, 108, 101]))]), (.v 6)])])]) ρ = .ok (.tup [.tup [.str wQuote, .tup [.tup [.str wRule], p]]]) := by rw [← hρ]; rfl
  have q2 := isd t hj (xs := [.tup [.str wQuote, .tup [.tup [.str wRule], p]]]) (b := false) (fun x hx => by
    rw [List.mem_singleton.mp hx]
    refine ⟨tm_pair rfl (tm_pair rfl p3), ?_⟩
    show max 0 (max (max (max 0 0 + 1) (max p.depth 0) + 1) 0) + 1 ≤ 50
    omega) (by simp) (by
    show ((((true && (okB 2 p && true)) && true)) && true) = false
    rw [p2]; rfl)
  refine iff_no (isntF (call_1 c2 q2) rfl) ?_
  rfl
theorem k02_turn (t : DrK02 T) {j : Nat} (hj : 79 ≤ j) (ns : List Int) (k : Nat) (a2 a3 a4 a5 a6 a7 a8 : SV) :
    ∃ b2 b3 b4 b5 b6 b7 b8, evSs (callN T j) k02Body [.val (.scr ns), .val (.int k), a2, a3, a4, a5, a6, a7, a8] = .ok (.nx [.val (.scr ns), .val (.int k), b2, b3, b4, b5, b6, b7, b8]) := by
  generalize hcell : cellS ns k + (k : Int) = cell
  have dx := doc_at t.toDrD cell 5 (by decide) j (by omega)
  have hX : ∀ x ∈ Bk.ds (docS cell 5), okB 3 x = true ∧ x.tm = true ∧ x.depth ≤ 31 := fun x hx => doc_all hx
  have hl := doc_len cell 5
  generalize Bk.ds (docS cell 5) = X at *
  have m1 := mix_nn (c := cellS ns 3 + (k : Int)) (p := 9811) (m := (X.length : Int) + 1) (by omega)
  have m2 := mix_lt (c := cellS ns 3 + (k : Int)) (p := 9811) (m := (X.length : Int) + 1) (by omega)
  obtain ⟨at_, hat⟩ : ∃ n : Nat, mix (cellS ns 3 + (k : Int)) 9811 ((X.length : Int) + 1) = (n : Int) := ⟨(mix (cellS ns 3 + (k : Int)) 9811 ((X.length : Int) + 1)).toNat, by omega⟩
  have cx := fun n => cell_at t.cell ns n j (by omega)
  have allX : X.all (okB 3) = true := by rw [List.all_eq_true]; exact fun x hx => (hX x hx).1
  have q1 := isd t hj (xs := X) (b := true) (fun x hx => ⟨(hX x hx).2.1, by have := (hX x hx).2.2; omega⟩) (by omega) allX
  have q2 := isd t hj (xs := X ++ [deepD 2, quotesD 3]) (b := true) (fun x hx => by
    rcases List.mem_append.mp hx with hx | hx
    · exact ⟨(hX x hx).2.1, by have := (hX x hx).2.2; omega⟩
    · simp only [List.mem_cons, List.not_mem_nil, or_false] at hx
      rcases hx with rfl | rfl
      · exact ⟨rfl, by decide⟩
      · exact ⟨rfl, by decide⟩) (by simp; omega) (by rw [List.all_append, allX]; rfl)
  have q3 := isd t hj (xs := [quotesD 4]) (b := false) (fun x hx => by rw [List.mem_singleton.mp hx]; exact ⟨rfl, by decide⟩) (by simp) rfl
  have q4 := isd t hj (xs := X ++ [.tup [.str wQuote, .tup [quotesD 2, quotesD 3]]]) (b := false) (fun x hx => by
    rcases List.mem_append.mp hx with hx | hx
    · exact ⟨(hX x hx).2.1, by have := (hX x hx).2.2; omega⟩
    · rw [List.mem_singleton.mp hx]; exact ⟨rfl, by decide⟩) (by simp; omega) (all_bad (p := .tup [.str wQuote, .tup [quotesD 2, quotesD 3]]) (by simp) rfl)
  have d2 := deep_at t 2 (by decide) j (by omega)
  have u2 := quotes_at t 2 (by decide) j (by omega)
  have u3 := quotes_at t 3 (by decide) j (by omega)
  have u4 := quotes_at t 4 (by decide) j (by omega)
  have nb := nob_at t (cellS ns 4 + (k : Int)) j (by omega)
  have mx := mix_at t.mix (c := cellS ns 3 + (k : Int)) (p := 9811) (m := (X.length : Int) + 1) (by decide) (by decide) (by omega) j (by omega)
  rw [hat] at mx
  -- the loop over what is spoilt
  obtain ⟨ρ', e, b6, rfl⟩ := forGo_P (t := .nm 6) (body := evSs (callN T j) k02Inner) (fun i ρ => ∃ b6, ρ = [.val (.scr ns), .val (.int k), .val (.int cell), .val (.tup X), .val (.tup [deepD 2, quotesD 3]), .val (.int at_), b6, a7, a8])
    (xs := badB (.tup (Pc.ds (line0 (cellS ns 4 + (k : Int)))))) (ρ := [.val (.scr ns), .val (.int k), .val (.int cell), .val (.tup X), .val (.tup [deepD 2, quotesD 3]), .val (.int at_), a6, a7, a8]) 0 ⟨_, rfl⟩ (by
      rintro i d ρ hd ⟨b6, rfl⟩
      exact ⟨_, rfl, _, .inl (k02_inner t hj hX hl (List.mem_of_getElem? hd)), _, rfl⟩)
  -- the things that are no docs
  have no : ∀ x ∈ [D.lst X, .non, .str [100, 111, 99], .int 5, .tup [.str wRule], .bl true], callN T j 68 [x] = .ok (.bl false) := by
    intro x hx
    have g : x.tm = true ∧ x.depth ≤ 50 ∧ okD (okB 3) x = false := by
      simp only [List.mem_cons, List.not_mem_nil, or_false] at hx
      rcases hx with rfl | rfl | rfl | rfl | rfl | rfl
      · refine ⟨tms_of fun x hx => (hX x hx).2.1, ?_, rfl⟩
        have := depth_tup' (b := 31) fun x hx => (hX x hx).2.2
        exact Nat.le_trans this (by decide)
      · exact ⟨rfl, by decide, rfl⟩
      · exact ⟨rfl, by decide, rfl⟩
      · exact ⟨rfl, by decide, rfl⟩
      · exact ⟨rfl, by decide, rfl⟩
      · exact ⟨rfl, by decide, rfl⟩
    rw [isdoc_at t.toDrB g.1 (by omega) j hj, g.2.2]
  obtain ⟨ρ', e', b8, rfl⟩ := forGo_P (t := .nm 8) (body := evSs (callN T j) k02Things) (fun i ρ => ∃ b8, ρ = [.val (.scr ns), .val (.int k), .val (.int cell), .val (.tup X), .val (.tup [deepD 2, quotesD 3]), .val (.int at_), b6, .val (.tup [.str wQuote, .tup [quotesD 2, quotesD 3]]), b8])
    (xs := [D.lst X, .non, .str [100, 111, 99], .int 5, .tup [.str wRule], .bl true]) (ρ := [.val (.scr ns), .val (.int k), .val (.int cell), .val (.tup X), .val (.tup [deepD 2, quotesD 3]), .val (.int at_), b6, .val (.tup [.str wQuote, .tup [quotesD 2, quotesD 3]]), a8]) 0 ⟨_, rfl⟩ (by
      rintro i d ρ hd ⟨b8, rfl⟩
      exact ⟨_, rfl, _, .inl (iff_no (isntF (call_1 (e := .v 8) rfl (no d (List.mem_of_getElem? hd))) rfl) rfl), _, rfl⟩)
  refine ⟨.val (.int cell), .val (.tup X), .val (.tup [deepD 2, quotesD 3]), .val (.int at_), b6, .val (.tup [.str wQuote, .tup [quotesD 2, quotesD 3]]), b8, ?_⟩
  · refine asg_ss (d := .int cell) ?_ (by simp) ?_
    · have c2 := call_2 (cl := callN T j) (ρ := [.val (.scr ns), .val (.int k), a2, a3, a4, a5, a6, a7, a8]) (f := 4) (e := .v 0) (e2 := .v 1) (d := .scr ns) (d2 := .int k) rfl rfl (cx k)
      rw [evE_bin, bor_call, c2]
      show R.ok (D.int (cellS ns k + (k : Int))) = _
      rw [hcell]
    refine asg_ss (call_2 (e := .v 2) (e2 := .c (.int 5)) rfl rfl dx) (by simp) ?_
    refine asg_ss (d := .tup [deepD 2, quotesD 3]) (tup_e (es_c (call_1 (e := .c (.int 2)) rfl d2) (es_c (call_1 (e := .c (.int 3)) rfl u3) rfl))) (by simp) ?_
    show evSs (callN T j) _ [.val (.scr ns), .val (.int k), .val (.int cell), .val (.tup X), .val (.tup [deepD 2, quotesD 3]), a5, a6, a7, a8] = _
    refine iff_no (or_ff (isntF (call_1 (e := .v 3) rfl q1) rfl) (isntF (call_1 (bin_e (o := .add) (a := .v 3) (b := .v 4) (x := .tup X) (y := .tup [deepD 2, quotesD 3]) rfl rfl (add_tt (by simp; omega))) q2) rfl)) ?_
    refine asg_ss (d := .int at_) ?_ (by simp) ?_
    · refine call_3 (d := .int (cellS ns 3 + (k : Int))) (d2 := .int 9811) (d3 := .int ((X.length : Int) + 1)) ?_ rfl rfl mx
      exact bin_e (o := .add) (by rw [bor_call]; exact call_2 (e := .v 0) (e2 := .c (.int 3)) rfl rfl (cx 3)) rfl rfl
    show evSs (callN T j) _ [.val (.scr ns), .val (.int k), .val (.int cell), .val (.tup X), .val (.tup [deepD 2, quotesD 3]), .val (.int at_), a6, a7, a8] = _
    refine for_ss (ds := [.lst (badB (.tup (Pc.ds (line0 (cellS ns 4 + (k : Int))))))]) (es_1 ?_) (seq_l _) e ?_
    · refine call_1 (d := .int (cellS ns 4 + (k : Int))) ?_ nb
      exact bin_e (o := .add) (by rw [bor_call]; exact call_2 (e := .v 0) (e2 := .c (.int 4)) rfl rfl (cx 4)) rfl rfl
    refine asg_ss (d := .tup [.str wQuote, .tup [quotesD 2, quotesD 3]]) (tup_e (es_c rfl (es_c (tup_e (es_c (call_1 (e := .c (.int 2)) rfl u2) (es_c (call_1 (e := .c (.int 3)) rfl u3) rfl))) rfl))) (by simp) ?_
    show evSs (callN T j) _ [.val (.scr ns), .val (.int k), .val (.int cell), .val (.tup X), .val (.tup [deepD 2, quotesD 3]), .val (.int at_), b6, .val (.tup [.str wQuote, .tup [quotesD 2, quotesD 3]]), a8] = _
    refine iff_no (or_ff (isntF (call_1 (tup_e (es_c (call_1 (e := .c (.int 4)) rfl u4) rfl)) q3) rfl) (isntF (call_1 (bin_e (o := .add) (a := .v 3) (x := .tup X) (y := .tup [.tup [.str wQuote, .tup [quotesD 2, quotesD 3]]]) rfl rfl (add_tt (by simp; omega))) q4) rfl)) ?_
    exact for_ss (ds := [.tup [D.lst X, .non, .str [100, 111, 99], .int 5, .tup [.str wRule], .bl true]]) (es_1 (tup_e (es_c (pr_v rfl rfl) rfl))) (seq_t _) e' rfl
theorem k02_true (t : DrK02 T) (ns : List Int) : At T 80 86 [.scr ns] (.ok (.bl true)) := by
  refine At.step t.law fun n hn => evF_st (ρ := [.val (.scr ns), .un, .un, .un, .un, .un, .un, .un, .un]) rfl rfl ?_
  obtain ⟨ρ', e, a1, a2, a3, a4, a5, a6, a7, a8, rfl⟩ := forGo_P (t := .nm 1) (body := evSs (callN T n) k02Body)
    (fun i ρ => ∃ a1 a2 a3 a4 a5 a6 a7 a8, ρ = [.val (.scr ns), a1, a2, a3, a4, a5, a6, a7, a8]) (xs := (List.range 3).map fun (k : Nat) => .int k) (ρ := [.val (.scr ns), .un, .un, .un, .un, .un, .un, .un, .un]) 0 ⟨_, _, _, _, _, _, _, _, rfl⟩ (by
      rintro k d ρ hd ⟨a1, a2, a3, a4, a5, a6, a7, a8, rfl⟩
      have hk : k < 3 := by
        have := (List.getElem?_eq_some_iff.mp hd).1
        simpa using this
      have ed : d = .int k := by
        rw [List.getElem?_map, List.getElem?_range hk] at hd
        exact (Option.some.inj hd).symm
      subst ed
      obtain ⟨b2, b3, b4, b5, b6, b7, b8, e⟩ := k02_turn t hn ns k a2 a3 a4 a5 a6 a7 a8
      exact ⟨_, rfl, _, .inl e, _, _, _, _, _, _, _, _, rfl⟩)
  have q := isd t hn (xs := []) (b := true) (fun x hx => by cases hx) (by simp) rfl
  refine for_ss (ds := [.int 3]) rfl (rng1_n (n := 3) (by omega)) e (ret_ss ?_)
  rw [bor_cmp]
  exact cmp_e (x := .bl true) (y := .bl true) (by rw [bor_call]; exact call_1 (e := .tup []) rfl q) rfl rfl
end MT
namespace MT
/-! ### plain texts, pieces -/
mutual
def Pc.plain : Pc → List Nat
  | .text s => s
  | .code s => s
  | .strong l => plainL l
  | .slant l => plainL l
  | .link l a => plainL l ++ [32, 60] ++ a ++ [62]
def plainL : List Pc → List Nat
  | [] => []
  | p :: ps => p.plain ++ plainL ps
end
mutual
def Pc.dp : Pc → Nat
  | .text _ => 0
  | .code _ => 0
  | .strong l => dpL l + 1
  | .slant l => dpL l + 1
  | .link l _ => dpL l + 1
def dpL : List Pc → Nat
  | [] => 0
  | p :: ps => max p.dp (dpL ps)
end
mutual
def Pc.pcs : Pc → List Pc
  | .text s => [.text s]
  | .code s => [.code s]
  | .strong l => .strong l :: piecesL l
  | .slant l => .slant l :: piecesL l
  | .link l a => .link l a :: piecesL l
def piecesL : List Pc → List Pc
  | [] => []
  | p :: ps => p.pcs ++ piecesL ps
end
theorem plainL_map : ∀ l : List Pc, plainL l = (l.map Pc.plain).flatten
  | [] => rfl
  | p :: ps => by rw [plainL, plainL_map ps]; rfl
theorem plainL_app (a b : List Pc) : plainL (a ++ b) = plainL a ++ plainL b := by rw [plainL_map, plainL_map, plainL_map, List.map_append, List.flatten_append]
theorem dpL_mem : ∀ {l : List Pc} {p : Pc}, p ∈ l → p.dp ≤ dpL l
  | q :: l, p, h => by
    rcases List.mem_cons.mp h with rfl | h
    · exact Nat.le_max_left _ _
    · exact Nat.le_trans (dpL_mem h) (Nat.le_max_right _ _)
theorem plain_mem : ∀ {l : List Pc} {p : Pc}, p ∈ l → p.plain.length ≤ (plainL l).length
  | q :: l, p, h => by
    rw [plainL, List.length_append]
    rcases List.mem_cons.mp h with rfl | h
    · omega
    · have := plain_mem h
      omega
theorem piecesL_app (a b : List Pc) : piecesL (a ++ b) = piecesL a ++ piecesL b := by
  induction a with
  | nil => rfl
  | cons p a ih => rw [List.cons_append, piecesL, piecesL, ih, List.append_assoc]
/-! ### lists walked, by what is behind -/
theorem lcGo_F {α : Type} {t : Tg} {cond : Env → R Bool} {el : Env → R D} {ρ : Env} {f g : α → D} {p : α → Bool} : ∀ {xs : List α}, (∀ x ∈ xs, ∃ ρ1, bindT t (f x) ρ = .ok ρ1 ∧ cond ρ1 = .ok (p x) ∧ (p x = true → el ρ1 = .ok (g x))) → lcGo t cond el ρ (xs.map f) = .ok ((xs.filter p).map g)
  | [], _ => rfl
  | x :: xs, h => by
    obtain ⟨ρ1, h1, h2, h3⟩ := h x List.mem_cons_self
    have ih := lcGo_F (p := p) (g := g) (xs := xs) fun y hy => h y (List.mem_cons_of_mem _ hy)
    show ((bindT t (f x) ρ).bind fun ρ' => (cond ρ').bind fun b => if b = true then (el ρ').bind fun y => (lcGo t cond el ρ (xs.map f)).bind fun ys => .ok (y :: ys) else lcGo t cond el ρ (xs.map f)) = _
    rw [h1, bnd_ok, h2, bnd_ok, ih]
    cases q : p x with
    | true => rw [if_pos rfl, h3 q, List.filter_cons_of_pos q]; rfl
    | false => rw [if_neg (by decide), List.filter_cons_of_neg (by simp [q])]
theorem lcGo_M {α : Type} {t : Tg} {cl : CL} {el : Env → R D} {ρ : Env} {f g : α → D} {xs : List α} (h : ∀ x ∈ xs, ∃ ρ1, bindT t (f x) ρ = .ok ρ1 ∧ el ρ1 = .ok (g x)) : lcGo t (evC cl []) el ρ (xs.map f) = .ok (xs.map g) := by
  have := lcGo_F (t := t) (cond := evC cl []) (el := el) (ρ := ρ) (f := f) (g := g) (p := fun _ => true) (xs := xs) fun x hx => by
    obtain ⟨ρ1, h1, h2⟩ := h x hx
    exact ⟨ρ1, h1, rfl, fun _ => h2⟩
  rw [this, List.filter_eq_self.mpr (fun _ _ => rfl)]
theorem forGo_L {α : Type} {t : Tg} {body : Env → R Fl} {enc : α → D} (Q : List α → Env → Prop) : ∀ (rest pre : List α) {ρ : Env}, (∀ p x r ρ, pre ++ rest = p ++ x :: r → Q p ρ → ∃ ρ1, bindT t (enc x) ρ = .ok ρ1 ∧ ∃ ρ2, body ρ1 = .ok (.nx ρ2) ∧ Q (p ++ [x]) ρ2) → Q pre ρ → ∃ ρ', forGo t body (rest.map enc) ρ = .ok (.nx ρ') ∧ Q (pre ++ rest) ρ'
  | [], pre, ρ, _, h0 => ⟨ρ, rfl, by rw [List.append_nil]; exact h0⟩
  | x :: rest, pre, ρ, h, h0 => by
    obtain ⟨ρ1, h1, ρ2, h2, p2⟩ := h pre x rest ρ rfl h0
    obtain ⟨ρ', e, p⟩ := forGo_L Q rest (pre ++ [x]) (ρ := ρ2) (fun p y r ρ e => h p y r ρ (by rw [← e]; simp)) p2
    refine ⟨ρ', ?_, by rw [show pre ++ x :: rest = pre ++ [x] ++ rest by simp]; exact p⟩
    show ((bindT t (enc x) ρ).bind fun ρ1 => (body ρ1).bind fun f => match f with
      | .nx ρ2 => forGo t body (rest.map enc) ρ2
      | .ct ρ2 => forGo t body (rest.map enc) ρ2
      | .rt d => .ok (.rt d)) = _
    rw [h1, bnd_ok, h2]
    exact e
theorem mem_mid {α : Type} {w p r : List α} {x : α} (h : w = p ++ x :: r) : x ∈ w := by rw [h]; simp
variable {T : Tab}
structure DrP (T : Tab) : Prop where
  plain : T 80 = some (.ir ir_docs_plain)
  ppiece : T 81 = some (.ir ir_docs_plain_piece)
theorem pcs_mem : ∀ {l : List Pc} {p : Pc}, p ∈ l → p.pcs.length ≤ (piecesL l).length
  | q :: l, p, h => by
    rw [piecesL, List.length_append]
    rcases List.mem_cons.mp h with rfl | h
    · omega
    · have := pcs_mem h
      omega
theorem pcs_pos (p : Pc) : 1 ≤ p.pcs.length := by cases p <;> simp [Pc.pcs]
theorem pieces_ge : ∀ l : List Pc, l.length ≤ (piecesL l).length
  | [] => Nat.le_refl _
  | p :: l => by
    have := pieces_ge l
    have := pcs_pos p
    rw [piecesL, List.length_append, List.length_cons]
    omega
theorem plain_at (t : DrP T) : ∀ n : Nat, (∀ p : Pc, p.dp ≤ n → p.pcs.length ≤ 1000000 → p.plain.length ≤ 1000000 → At T (2 * n + 1) 81 [p.d] (.ok (.str p.plain))) ∧ ∀ l : List Pc, dpL l ≤ n → (piecesL l).length ≤ 1000000 → (plainL l).length ≤ 1000000 → At T (2 * n + 2) 80 [.tup (Pc.ds l)] (.ok (.str (plainL l))) := by
  have line : ∀ n, (∀ p : Pc, p.dp ≤ n → p.pcs.length ≤ 1000000 → p.plain.length ≤ 1000000 → At T (2 * n + 1) 81 [p.d] (.ok (.str p.plain))) → ∀ l : List Pc, dpL l ≤ n → (piecesL l).length ≤ 1000000 → (plainL l).length ≤ 1000000 → At T (2 * n + 2) 80 [.tup (Pc.ds l)] (.ok (.str (plainL l))) := fun n ih l hl hn hs => At.step t.plain fun j hj => by
    refine evF_st (ρ := [.val (.tup (Pc.ds l)), .un]) rfl rfl (ret_ss ?_)
    have pg := pieces_ge l
    rw [bor_me, Pc.ds_map]
    have L := lc_ev (cl := callN T j) (ρ := [.val (.tup (l.map Pc.d)), .un]) (k := .seq) (t := .nm 1) (es_1 (e := .v 0) rfl) (seq_t _) rfl (lcGo_M (cl := callN T j) (f := Pc.d) (g := fun p => .str p.plain) (xs := l) fun p hp => ⟨_, rfl, call_1 (e := .v 1) rfl (ih p (Nat.le_trans (dpL_mem hp) hl) (Nat.le_trans (pcs_mem hp) hn) (Nat.le_trans (plain_mem hp) hs) j hj)⟩) (by rw [List.length_map]; omega)
    have J := join_l (s := []) (xs := l.map Pc.plain) (by
      rw [plainL_map, List.length_flatten] at hs
      simp at hs ⊢
      omega)
    rw [joinL_nil, ← plainL_map, List.map_map] at J
    exact me_1 rfl rfl rfl L J
  have piece : ∀ n, (∀ l : List Pc, dpL l + 1 ≤ n → (piecesL l).length ≤ 1000000 → (plainL l).length ≤ 1000000 → At T (2 * n) 80 [.tup (Pc.ds l)] (.ok (.str (plainL l)))) → ∀ p : Pc, p.dp ≤ n → p.pcs.length ≤ 1000000 → p.plain.length ≤ 1000000 → At T (2 * n + 1) 81 [p.d] (.ok (.str p.plain)) := fun n ih p hp hn hs => At.step t.ppiece fun j hj => by
    have inner : ∀ (w : Wd) (l : List Pc) (r : List D), (w = .strong ∨ w = .slant) → dpL l + 1 ≤ n → (piecesL l).length ≤ 1000000 → (plainL l).length ≤ 1000000 → evF (callN T j) ir_docs_plain_piece [.tup (.str w.s :: .tup (Pc.ds l) :: r)] = .ok (.str (plainL l)) := fun w l r hw h1 h2 h3 => by
      refine evF_st (ρ := [.val (.tup (.str w.s :: .tup (Pc.ds l) :: r))]) rfl rfl ?_
      have i0 : evE (callN T j) (.idx (.v 0) (.c (.int 0))) [.val (.tup (.str w.s :: .tup (Pc.ds l) :: r))] = .ok (.str w.s) := idx_t (xs := .str w.s :: .tup (Pc.ds l) :: r) (j := 0) rfl
      have i1 : evE (callN T j) (.idx (.v 0) (.c (.int 1))) [.val (.tup (.str w.s :: .tup (Pc.ds l) :: r))] = .ok (.tup (Pc.ds l)) := idx_t (xs := .str w.s :: .tup (Pc.ds l) :: r) (j := 1) rfl
      refine iff_no (cmp_t (x := .str w.s) (by rw [bor_idx, i0]) rfl ?_) (iff_no (cmp_t (x := .str w.s) (by rw [bor_idx, i0]) rfl ?_) (ret_ss (call_1 i1 (ih l h1 h2 h3 j hj))))
      · rcases hw with rfl | rfl <;> rfl
      · rcases hw with rfl | rfl <;> rfl
    cases p with
    | text s => rfl
    | code s => rfl
    | strong l => exact inner .strong l [] (.inl rfl) hp (by have : (Pc.pcs (.strong l)).length = (piecesL l).length + 1 := rfl; omega) hs
    | slant l => exact inner .slant l [] (.inr rfl) hp (by have : (Pc.pcs (.slant l)).length = (piecesL l).length + 1 := rfl; omega) hs
    | link l a =>
      have hs : (plainL l ++ [32, 60] ++ a ++ [62]).length ≤ 1000000 := hs
      rw [List.length_append, List.length_append, List.length_append] at hs
      have h1 : dpL l + 1 ≤ n := hp
      have h2 : (piecesL l).length + 1 ≤ 1000000 := hn
      refine evF_st (ρ := [.val (.tup [.str (Wd.s .link), .tup (Pc.ds l), .str a])]) rfl rfl ?_
      refine iff_no rfl (iff_yes rfl (ret_ss ?_))
      have c := ih l h1 (by omega) (by omega) j hj
      refine bin_e (o := .add) (x := .str (plainL l ++ [32, 60] ++ a)) (y := .str [62]) ?_ rfl (add_ss (by simp at hs ⊢; omega))
      rw [bor_bin]
      refine bin_e (o := .add) (x := .str (plainL l ++ [32, 60])) (y := .str a) ?_ rfl (add_ss (by simp at hs ⊢; omega))
      rw [bor_bin]
      refine bin_e (o := .add) (x := .str (plainL l)) (y := .str [32, 60]) ?_ rfl (add_ss (by simp at hs ⊢; omega))
      rw [bor_call]
      exact call_1 (e := .idx (.v 0) (.c (.int 1))) rfl c
  intro n
  induction n with
  | zero =>
    have p0 := piece 0 (fun l h => by omega)
    exact ⟨p0, line 0 p0⟩
  | succ n ih =>
    have p1 := piece (n + 1) fun l h1 h2 h3 => ih.2 l (by omega) h2 h3
    exact ⟨p1, line (n + 1) p1⟩
/-! ### the law's own plain walk -/
def lpB : List S := [.iff (.cmp .isin (.idx (.v 2) (.c (.int 0))) (.tup [(.c (.str [116, 101, 120, 116])), (.c (.str [99, 111, 100, 101]))])) [.asg 1 false (.bin .add (.v 1) (.idx (.v 2) (.c (.int 1))))] [.asg 1 false (.bin .add (.v 1) (.call 39 [(.idx (.v 2) (.c (.int 1)))]))], .iff (.cmp .eq (.idx (.v 2) (.c (.int 0))) (.c (.str [108, 105, 110, 107]))) [.asg 1 false (.bin .add (.bin .add (.bin .add (.v 1) (.c (.str [32, 60]))) (.idx (.v 2) (.c (.int 2)))) (.c (.str [62])))] []]
theorem lplain_at (hT : T 39 = some (.ir ir_law_plain)) : ∀ (n : Nat) (l : List Pc), dpL l ≤ n → (plainL l).length ≤ 1000000 → At T (n + 1) 39 [.tup (Pc.ds l)] (.ok (.str (plainL l))) := by
  have go : ∀ (n : Nat) (l : List Pc), (∀ l' : List Pc, dpL l' + 1 ≤ n → (plainL l').length ≤ 1000000 → At T n 39 [.tup (Pc.ds l')] (.ok (.str (plainL l')))) → dpL l ≤ n → (plainL l).length ≤ 1000000 → At T (n + 1) 39 [.tup (Pc.ds l)] (.ok (.str (plainL l))) := fun n l ih hd hs => At.step hT fun j hj => by
    refine evF_st (ρ := [.val (.tup (Pc.ds l)), .un, .un]) rfl rfl (asg_ss (d := .str []) rfl (by simp) ?_)
    obtain ⟨ρ', e, b2, rfl⟩ := forGo_L (t := .nm 2) (body := evSs (callN T j) lpB) (enc := Pc.d) (fun done ρ => ∃ b2, ρ = [.val (.tup (Pc.ds l)), .val (.str (plainL done)), b2]) l [] (ρ := [.val (.tup (Pc.ds l)), .val (.str []), .un]) (by
      rintro pre p post ρ e ⟨b2, rfl⟩
      have e : l = pre ++ p :: post := e
      have hp := mem_mid e
      have dp := Nat.le_trans (dpL_mem hp) hd
      have tot : (plainL pre).length + p.plain.length ≤ 1000000 := by
        have : plainL l = plainL pre ++ (p.plain ++ plainL post) := by rw [e, plainL_app]; rfl
        rw [this, List.length_append, List.length_append] at hs
        omega
      have fin : plainL (pre ++ [p]) = plainL pre ++ p.plain := by rw [plainL_app]; show _ ++ (p.plain ++ []) = _; simp
      refine ⟨_, rfl, [.val (.tup (Pc.ds l)), .val (.str (plainL (pre ++ [p]))), .val p.d], ?_, _, rfl⟩
      rw [fin]
      have inner : ∀ (w : Wd) (l' : List Pc), (w = .strong ∨ w = .slant) → dpL l' + 1 ≤ n → (plainL pre).length + (plainL l').length ≤ 1000000 → evSs (callN T j) lpB [.val (.tup (Pc.ds l)), .val (.str (plainL pre)), .val (.tup [.str w.s, .tup (Pc.ds l')])] = .ok (.nx [.val (.tup (Pc.ds l)), .val (.str (plainL pre ++ plainL l')), .val (.tup [.str w.s, .tup (Pc.ds l')])]) := fun w l' hw h1 h2 => by
        refine iff_nx (b := false) ?_ (ρ' := [.val (.tup (Pc.ds l)), .val (.str (plainL pre ++ plainL l')), .val (.tup [.str w.s, .tup (Pc.ds l')])]) ?_ (iff_nx (b := false) ?_ rfl rfl)
        · rcases hw with rfl | rfl <;> rfl
        · refine asg_ss (d := .str (plainL pre ++ plainL l')) (bin_e (o := .add) (x := .str (plainL pre)) (y := .str (plainL l')) rfl ?_ (add_ss (by omega))) (by simp) rfl
          rw [bor_call]
          exact call_1 (e := .idx (.v 2) (.c (.int 1))) rfl (ih l' h1 (by omega) j hj)
        · rcases hw with rfl | rfl <;> rfl
      cases p with
      | text s =>
        refine iff_nx (b := true) rfl (ρ' := [.val (.tup (Pc.ds l)), .val (.str (plainL pre ++ s)), .val (Pc.text s).d]) ?_ (iff_nx (b := false) rfl rfl rfl)
        exact asg_ss (d := .str (plainL pre ++ s)) (bin_e (o := .add) (x := .str (plainL pre)) (y := .str s) rfl rfl (add_ss (by have : (Pc.plain (.text s)).length = s.length := rfl; omega))) (by simp) rfl
      | code s =>
        refine iff_nx (b := true) rfl (ρ' := [.val (.tup (Pc.ds l)), .val (.str (plainL pre ++ s)), .val (Pc.code s).d]) ?_ (iff_nx (b := false) rfl rfl rfl)
        exact asg_ss (d := .str (plainL pre ++ s)) (bin_e (o := .add) (x := .str (plainL pre)) (y := .str s) rfl rfl (add_ss (by have : (Pc.plain (.code s)).length = s.length := rfl; omega))) (by simp) rfl
      | strong l' => exact inner .strong l' (.inl rfl) dp tot
      | slant l' => exact inner .slant l' (.inr rfl) dp tot
      | link l' a =>
        have tot : (plainL pre).length + (plainL l' ++ [32, 60] ++ a ++ [62]).length ≤ 1000000 := tot
        rw [List.length_append, List.length_append, List.length_append] at tot
        have tot : (plainL pre).length + ((plainL l').length + 2 + a.length + 1) ≤ 1000000 := tot
        refine iff_nx (b := false) rfl (ρ' := [.val (.tup (Pc.ds l)), .val (.str (plainL pre ++ plainL l')), .val (Pc.link l' a).d]) ?_ (iff_nx (b := true) rfl ?_ rfl)
        · refine asg_ss (d := .str (plainL pre ++ plainL l')) (bin_e (o := .add) (x := .str (plainL pre)) (y := .str (plainL l')) rfl ?_ (add_ss (by omega))) (by simp) rfl
          rw [bor_call]
          exact call_1 (e := .idx (.v 2) (.c (.int 1))) rfl (ih l' dp (by omega) j hj)
        · refine asg_ss (d := .str (plainL pre ++ plainL l' ++ [32, 60] ++ a ++ [62])) ?_ (by simp) ?_
          · refine bin_e (o := .add) (x := .str (plainL pre ++ plainL l' ++ [32, 60] ++ a)) (y := .str [62]) ?_ rfl (add_ss (by simp; omega))
            rw [bor_bin]
            refine bin_e (o := .add) (x := .str (plainL pre ++ plainL l' ++ [32, 60])) (y := .str a) ?_ rfl (add_ss (by simp; omega))
            rw [bor_bin]
            exact bin_e (o := .add) (x := .str (plainL pre ++ plainL l')) (y := .str [32, 60]) rfl rfl (add_ss (by simp; omega))
          · have : plainL pre ++ plainL l' ++ [32, 60] ++ a ++ [62] = plainL pre ++ (Pc.link l' a).plain := by
              show _ = plainL pre ++ (plainL l' ++ [32, 60] ++ a ++ [62])
              simp
            rw [this]
            rfl) ⟨_, rfl⟩
    rw [← Pc.ds_map] at e
    exact for_ss (ds := [.tup (Pc.ds l)]) rfl (seq_t _) e (ret_ss rfl)
  intro n
  induction n with
  | zero => exact fun l h1 h2 => go 0 l (fun l' h => by omega) h1 h2
  | succ n ih => exact fun l h1 h2 => go (n + 1) l (fun l' h1 h2 => ih l' (by omega) h2) h1 h2
/-! ### drawn lines -/
theorem line_all (P : Nat → Pc → Prop) (ht : ∀ n c, P n (.text (textS c))) (hc : ∀ n c, P n (.code (textS c))) (hs : ∀ n l, l.length ≤ (if n = 0 then 0 else 3) → (∀ p ∈ l, P n p) → P (n + 1) (.strong l)) (hl : ∀ n l, l.length ≤ (if n = 0 then 0 else 3) → (∀ p ∈ l, P n p) → P (n + 1) (.slant l)) (hk : ∀ n l c, l.length ≤ (if n = 0 then 0 else 3) → (∀ p ∈ l, P n p) → P (n + 1) (.link l (addrS c))) : ∀ (n : Nat) (c : Int) (wi : List Wd), ∀ p ∈ lineS n c wi, P n p
  | 0, _, _, p, h => by cases h
  | n + 1, c, wi, p, h => by
    have ih := line_all P ht hc hs hl hk n
    have ll : ∀ c wi, (lineS n c wi).length ≤ (if n = 0 then 0 else 3) := fun c wi => by
      by_cases h0 : n = 0
      · subst h0; exact Nat.le_refl _
      · rw [if_neg h0]; exact lineS_len _ _ _
    have key : ∀ (k : Nat), ∀ p ∈ (List.range k).foldl (lineGo (lineS n) c wi) [], P (n + 1) p := by
      intro k
      induction k with
      | zero => intro p hp; cases hp
      | succ k ihk =>
        intro p hp
        rw [List.range_succ, List.foldl_append] at hp
        rcases List.mem_append.mp (show p ∈ _ ++ [mkPc (lineS n) (c + 13 * k) wi _] from hp) with hp | hp
        · exact ihk p hp
        · rw [List.mem_singleton.mp hp]
          generalize wordOf c wi ((List.range k).foldl (lineGo (lineS n) c wi) []) k = w
          cases w with
          | text => exact ht _ _
          | code => exact hc _ _
          | strong => exact hs n _ (ll _ _) (ih _ _)
          | slant => exact hl n _ (ll _ _) (ih _ _)
          | link => exact hk n _ _ (ll _ _) (ih _ _)
    exact key (lineN c) p h
theorem plainL_len {b : Nat} : ∀ {l : List Pc}, (∀ p ∈ l, p.plain.length ≤ b) → (plainL l).length ≤ l.length * b
  | [], _ => Nat.zero_le _
  | p :: l, h => by
    have := plainL_len (l := l) fun q hq => h q (List.mem_cons_of_mem _ hq)
    have := h p List.mem_cons_self
    rw [plainL, List.length_append, List.length_cons, Nat.add_mul]
    omega
theorem piecesL_len {b : Nat} : ∀ {l : List Pc}, (∀ p ∈ l, p.pcs.length ≤ b) → (piecesL l).length ≤ l.length * b
  | [], _ => Nat.zero_le _
  | p :: l, h => by
    have := piecesL_len (l := l) fun q hq => h q (List.mem_cons_of_mem _ hq)
    have := h p List.mem_cons_self
    rw [piecesL, List.length_append, List.length_cons, Nat.add_mul]
    omega
theorem dpL_le {b : Nat} : ∀ {l : List Pc}, (∀ p ∈ l, p.dp ≤ b) → dpL l ≤ b
  | [], _ => Nat.zero_le _
  | p :: l, h => Nat.max_le.mpr ⟨h p List.mem_cons_self, dpL_le fun q hq => h q (List.mem_cons_of_mem _ hq)⟩
def bndP : Nat → Nat
  | 0 => 30
  | n + 1 => max 30 ((if n = 0 then 0 else 3) * bndP n + 9)
def bndN : Nat → Nat
  | 0 => 1
  | n + 1 => 3 * bndN n + 1
/-- what is asked of a line -/
structure LOk (l : List Pc) : Prop where
  ok : okLn (.tup (Pc.ds l)) = true
  tm : (D.tup (Pc.ds l)).tm = true
  gd : Gd 9 (.tup (Pc.ds l))
  pl : (plainL l).length ≤ 2790
  pc : (piecesL l).length ≤ 500
  dp : dpL l ≤ 4
theorem line_bnd : ∀ (n : Nat) (c : Int) (wi : List Wd), ∀ p ∈ lineS n c wi, p.plain.length ≤ bndP n ∧ p.pcs.length ≤ bndN n ∧ p.dp ≤ n := by
  have t0 : ∀ n, 30 ≤ bndP n := fun n => by cases n <;> simp [bndP]; omega
  have n0 : ∀ n, 1 ≤ bndN n := fun n => by cases n <;> simp [bndN]
  have inn : ∀ n l, l.length ≤ (if n = 0 then 0 else 3) → (∀ p ∈ l, (Pc.plain p).length ≤ bndP n ∧ (Pc.pcs p).length ≤ bndN n ∧ p.dp ≤ n) → (plainL l).length ≤ (if n = 0 then 0 else 3) * bndP n ∧ (piecesL l).length ≤ 3 * bndN n ∧ dpL l ≤ n := fun n l hl h => by
    have a := plainL_len (b := bndP n) fun p hp => (h p hp).1
    have b := piecesL_len (b := bndN n) fun p hp => (h p hp).2.1
    have c := dpL_le (b := n) fun p hp => (h p hp).2.2
    exact ⟨Nat.le_trans a (Nat.mul_le_mul_right _ hl), Nat.le_trans b (Nat.mul_le_mul_right _ (Nat.le_trans hl (by split <;> omega))), c⟩
  refine line_all (fun n p => p.plain.length ≤ bndP n ∧ p.pcs.length ≤ bndN n ∧ p.dp ≤ n) ?_ ?_ ?_ ?_ ?_
  · intro n c; exact ⟨Nat.le_trans (text_len c) (t0 n), n0 n, Nat.zero_le _⟩
  · intro n c; exact ⟨Nat.le_trans (text_len c) (t0 n), n0 n, Nat.zero_le _⟩
  · intro n l hl h
    obtain ⟨a, b, c⟩ := inn n l hl h
    refine ⟨?_, ?_, ?_⟩
    · show (plainL l).length ≤ max 30 ((if n = 0 then 0 else 3) * bndP n + 9); omega
    · show (piecesL l).length + 1 ≤ 3 * bndN n + 1; omega
    · show dpL l + 1 ≤ n + 1; omega
  · intro n l hl h
    obtain ⟨a, b, c⟩ := inn n l hl h
    refine ⟨?_, ?_, ?_⟩
    · show (plainL l).length ≤ max 30 ((if n = 0 then 0 else 3) * bndP n + 9); omega
    · show (piecesL l).length + 1 ≤ 3 * bndN n + 1; omega
    · show dpL l + 1 ≤ n + 1; omega
  · intro n l c hl h
    obtain ⟨a, b, c'⟩ := inn n l hl h
    have := addr_len c
    refine ⟨?_, ?_, ?_⟩
    · show (plainL l ++ [32, 60] ++ addrS c ++ [62]).length ≤ max 30 ((if n = 0 then 0 else 3) * bndP n + 9)
      rw [List.length_append, List.length_append, List.length_append]
      show (plainL l).length + 2 + (addrS c).length + 1 ≤ _
      omega
    · show (piecesL l).length + 1 ≤ 3 * bndN n + 1; omega
    · show dpL l + 1 ≤ n + 1; omega
theorem line0_lok (c : Int) : LOk (line0 c) := by
  have b := line_bnd 4 c []
  have hl := line0_len c
  refine ⟨line0_ok c, line0_tm c, line0_gd c, ?_, ?_, ?_⟩
  · have := plainL_len (l := line0 c) (b := bndP 4) fun p hp => (b p hp).1
    exact Nat.le_trans this (Nat.le_trans (Nat.mul_le_mul_right _ hl) (by decide))
  · have := piecesL_len (l := line0 c) (b := bndN 4) fun p hp => (b p hp).2.1
    exact Nat.le_trans this (Nat.le_trans (Nat.mul_le_mul_right _ hl) (by decide))
  · exact dpL_le fun p hp => (b p hp).2.2
theorem okL_plain : ∀ (m : Nat) (wi : List (List Nat)) (l : List Pc), okL m wi (.tup (Pc.ds l)) = true → plainL l ≠ []
  | 0, _, _, h => by cases h
  | m + 1, wi, l, h => by
    have h : (!(Pc.ds l).isEmpty && ((Pc.ds l).all (okP m wi) && !twoT (Pc.ds l))) = true := h
    simp only [Bool.and_eq_true] at h
    cases l with
    | nil => exact absurd h.1 (by decide)
    | cons p r =>
      have hp : okP m wi p.d = true := List.all_eq_true.mp h.2.1 _ (List.mem_cons_self)
      have key : p.plain ≠ [] := by
        cases m with
        | zero => cases hp
        | succ k =>
          cases p with
          | text s =>
            have hp : okW (.str s) = true := hp
            intro e
            have e : s = [] := e
            subst e
            cases hp
          | code s =>
            have hp : okW (.str s) = true := hp
            intro e
            have e : s = [] := e
            subst e
            cases hp
          | strong l' =>
            have hp : (if (Wd.s .strong = Wd.s .strong ∨ Wd.s .strong = Wd.s .slant) ∧ Wd.s .strong ∉ wi then okL k (wi ++ [Wd.s .strong]) (.tup (Pc.ds l')) else false) = true := hp
            split at hp
            · exact okL_plain k _ l' hp
            · cases hp
          | slant l' =>
            have hp : (if (Wd.s .slant = Wd.s .strong ∨ Wd.s .slant = Wd.s .slant) ∧ Wd.s .slant ∉ wi then okL k (wi ++ [Wd.s .slant]) (.tup (Pc.ds l')) else false) = true := hp
            split at hp
            · exact okL_plain k _ l' hp
            · cases hp
          | link l' a =>
            intro e
            have e : plainL l' ++ [32, 60] ++ a ++ [62] = [] := e
            simp at e
      intro e
      have e : p.plain ++ plainL r = [] := e
      exact key (List.append_eq_nil_iff.mp e).1
def poorL (l : List Pc) : List Pc := [.text (plainL l)]
theorem poorL_ok {l : List Pc} (h : LOk l) : LOk (poorL l) := by
  have ne := okL_plain 60 [] l h.ok
  refine ⟨?_, ?_, ?_, ?_, ?_, ?_⟩
  · show okL 60 [] (.tup [.tup [.str (Wd.s .text), .str (plainL l)]]) = true
    cases q : plainL l with
    | nil => exact absurd q ne
    | cons x r => rfl
  · exact tm_tup (fun x hx => by rw [List.mem_singleton.mp (show x ∈ [D.tup [.str (Wd.s .text), .str (plainL l)]] from hx)]; exact tm_pair rfl (tm_str (by have := h.pl; omega))) (by simp [poorL, Pc.ds])
  · exact (Gd.one (Gd.pair (Gd.str 0 _) (Gd.str 0 _))).mono (by decide)
  · show (plainL l ++ []).length ≤ 2790; rw [List.append_nil]; exact h.pl
  · show 1 ≤ 500; decide
  · show max 0 0 ≤ 4; decide
end MT
namespace MT
open L2
variable {T : Tab}
/-! ### single steps -/
def stepsN : List Nat → List Nat → List Ch
  | [], [] => []
  | [], y :: ys => .inn [blk y] :: stepsN [] ys
  | x :: xs, [] => .out 1 :: stepsN xs []
  | x :: xs, y :: ys => if x = y then .keep 1 :: stepsN xs ys else if dsN xs (y :: ys) ≤ dsN (x :: xs) ys then .out 1 :: stepsN xs (y :: ys) else .inn [blk y] :: stepsN (x :: xs) ys
termination_by xs ys => xs.length + ys.length
theorem stepsN_nn : stepsN [] [] = [] := by rw [stepsN]
theorem stepsN_nc (y : Nat) (ys : List Nat) : stepsN [] (y :: ys) = .inn [blk y] :: stepsN [] ys := by rw [stepsN]
theorem stepsN_cn (x : Nat) (xs : List Nat) : stepsN (x :: xs) [] = .out 1 :: stepsN xs [] := by rw [stepsN]
theorem stepsN_cc (x y : Nat) (xs ys : List Nat) : stepsN (x :: xs) (y :: ys) = if x = y then .keep 1 :: stepsN xs ys else if dsN xs (y :: ys) ≤ dsN (x :: xs) ys then .out 1 :: stepsN xs (y :: ys) else .inn [blk y] :: stepsN (x :: xs) ys := by rw [stepsN]
def Ch.pos : Ch → Prop
  | .keep n => 1 ≤ n
  | .out n => 1 ≤ n
  | .inn xs => xs ≠ []
structure StOk (doc : List D) (p : Nat) (xs ys : List Nat) (cs : List Ch) : Prop where
  use : usedC cs = xs.length
  out : outsC doc p cs = encB ys
  hm : hmC cs = dsN xs ys
  pos : ∀ c ∈ cs, c.pos
  ln : cs.length ≤ xs.length + ys.length
  ins : insN cs ≤ ys.length
theorem hmC_cons (c : Ch) (cs : List Ch) : hmC (c :: cs) = hmC [c] + hmC cs := hmC_app [c] cs
theorem steps_ok (doc : List D) : ∀ (n : Nat) (xs ys : List Nat) (p : Nat), xs.length + ys.length ≤ n → doc.drop p = encB xs → StOk doc p xs ys (stepsN xs ys) := by
  intro n
  induction n with
  | zero =>
    intro xs ys p h hd
    obtain rfl : xs = [] := List.eq_nil_of_length_eq_zero (by omega)
    obtain rfl : ys = [] := List.eq_nil_of_length_eq_zero (by omega)
    rw [stepsN_nn]
    exact ⟨rfl, rfl, by rw [dsN_nil]; rfl, (fun c h => nomatch h), Nat.le_refl _, Nat.le_refl _⟩
  | succ n ih =>
    intro xs ys p h hd
    have out1 : ∀ (x : Nat) (xs' ys' : List Nat), xs = x :: xs' → xs'.length + ys'.length ≤ n → ys' = ys → dsN xs ys = 1 + dsN xs' ys' → StOk doc p xs ys (.out 1 :: stepsN xs' ys') := fun x xs' ys' e1 l1 e2 e3 => by
      subst e1 e2
      have hd' : doc.drop (p + 1) = encB xs' := by
        rw [← List.drop_drop, hd]; rfl
      have i := ih xs' ys' (p + 1) l1 hd'
      have lc := i.ln
      refine ⟨by show 1 + usedC _ = _; rw [i.use, List.length_cons]; omega, i.out, ?_, fun c hc => ?_, by simp only [List.length_cons]; omega, i.ins⟩
      · rw [hmC_cons, i.hm, e3]
        show (1 : Int) + 0 + 0 + _ = _
        omega
      · rcases List.mem_cons.mp hc with rfl | hc
        · exact Nat.le_refl 1
        · exact i.pos c hc
    have inn1 : ∀ (y : Nat) (xs' ys' : List Nat), ys = y :: ys' → xs'.length + ys'.length ≤ n → xs' = xs → dsN xs ys = 1 + dsN xs' ys' → StOk doc p xs ys (.inn [blk y] :: stepsN xs' ys') := fun y xs' ys' e1 l1 e2 e3 => by
      subst e1 e2
      have i := ih xs' ys' p l1 hd
      have lc := i.ln
      have li := i.ins
      refine ⟨by show 0 + usedC _ = _; rw [i.use]; omega, ?_, ?_, fun c hc => ?_, by simp only [List.length_cons]; omega, ?_⟩
      · show [blk y] ++ outsC doc p _ = _
        rw [i.out]; rfl
      · rw [hmC_cons, i.hm, e3]
        show (0 : Int) + (1 + 0) + _ = _
        omega
      · rcases List.mem_cons.mp hc with rfl | hc
        · exact fun e => nomatch e
        · exact i.pos c hc
      · have e : insN (.inn [blk y] :: stepsN xs' ys') = insN [.inn [blk y]] + insN (stepsN xs' ys') := insN_app [.inn [blk y]] _
        rw [e, List.length_cons]
        have : insN [.inn [blk y]] = 1 := rfl
        omega
    match xs, ys, h with
    | [], [], _ =>
      rw [stepsN_nn]
      exact ⟨rfl, rfl, by rw [dsN_nil]; rfl, (fun c h => nomatch h), Nat.le_refl _, Nat.le_refl _⟩
    | [], y :: ys', h =>
      rw [stepsN_nc]
      exact inn1 y [] ys' rfl (by simpa using h) rfl (by rw [dsN_nil, dsN_nil, List.length_cons]; omega)
    | x :: xs', [], h =>
      rw [stepsN_cn]
      exact out1 x xs' [] rfl (by simpa using h) rfl (by rw [dsN_nil2, dsN_nil2, List.length_cons]; omega)
    | x :: xs', y :: ys', h =>
      simp only [List.length_cons] at h
      rw [stepsN_cc]
      by_cases e : x = y
      · rw [if_pos e]
        subst e
        have hd' : doc.drop (p + 1) = encB xs' := by
          rw [← List.drop_drop, hd]; rfl
        have i := ih xs' ys' (p + 1) (by omega) hd'
        have lc := i.ln
        have t1 : (doc.drop p).take 1 = [blk x] := by rw [hd]; rfl
        refine ⟨by show 1 + usedC _ = _; rw [i.use, List.length_cons]; omega, ?_, ?_, fun c hc => ?_, by simp only [List.length_cons]; omega, by have := i.ins; show insN (stepsN xs' ys') ≤ _; simp only [List.length_cons]; omega⟩
        · show (doc.drop p).take 1 ++ outsC doc (p + 1) _ = _
          rw [t1, i.out]; rfl
        · rw [hmC_cons, i.hm, dsN_cons, if_pos rfl]
          show (0 : Int) + 0 + _ = _
          omega
        · rcases List.mem_cons.mp hc with rfl | hc
          · exact Nat.le_refl 1
          · exact i.pos c hc
      · rw [if_neg e]
        by_cases q : dsN xs' (y :: ys') ≤ dsN (x :: xs') ys'
        · rw [if_pos q]
          exact out1 x xs' (y :: ys') rfl (by simp only [List.length_cons]; omega) rfl (by rw [dsN_cons, if_neg e, Nat.min_eq_left q])
        · rw [if_neg q]
          exact inn1 y (x :: xs') ys' rfl (by simp only [List.length_cons]; omega) rfl (by rw [dsN_cons, if_neg e, Nat.min_eq_right (by omega)])
/-! ### neighbours put together -/
def jm : Ch → Ch → Option Ch
  | .keep n, .keep m => some (.keep (n + m))
  | .out n, .out m => some (.out (n + m))
  | .inn xs, .inn ys => some (.inn (xs ++ ys))
  | _, _ => none
def jstep (acc : List Ch) (c : Ch) : List Ch := match acc.getLast? with
  | none => [c]
  | some l => match jm l c with
    | some u => acc.dropLast ++ [u]
    | none => acc ++ [c]
def joinC (cs : List Ch) : List Ch := cs.foldl jstep []
theorem jm_same {l c u : Ch} (h : jm l c = some u) (doc : List D) (p : Nat) : usedC [u] = usedC [l, c] ∧ outsC doc p [u] = outsC doc p [l, c] ∧ hmC [u] = hmC [l, c] ∧ insN [u] = insN [l, c] ∧ (l.pos → c.pos → u.pos) := by
  cases l with
  | keep n =>
    cases c with
    | keep m =>
      cases h
      refine ⟨by show n + m + 0 = n + (m + 0); omega, ?_, rfl, rfl, fun a b => by have a : 1 ≤ n := a; show 1 ≤ n + m; omega⟩
      show (doc.drop p).take (n + m) ++ [] = (doc.drop p).take n ++ ((doc.drop (p + n)).take m ++ [])
      rw [List.append_nil, List.append_nil, List.take_add, List.drop_drop]
    | out m => cases h
    | inn ys => cases h
  | out n =>
    cases c with
    | out m =>
      cases h
      refine ⟨by show n + m + 0 = n + (m + 0); omega, rfl, ?_, rfl, fun a b => by have a : 1 ≤ n := a; show 1 ≤ n + m; omega⟩
      show ((n + m : Nat) : Int) + 0 + 0 = (n : Int) + ((m : Int) + 0) + 0
      omega
    | keep m => cases h
    | inn ys => cases h
  | inn xs =>
    cases c with
    | inn ys =>
      cases h
      refine ⟨rfl, ?_, ?_, ?_, fun a _ e => a (List.append_eq_nil_iff.mp e).1⟩
      · show xs ++ ys ++ [] = xs ++ (ys ++ [])
        simp
      · show (0 : Int) + (((xs ++ ys).length : Int) + 0) = 0 + ((xs.length : Int) + ((ys.length : Int) + 0))
        rw [List.length_append]
        omega
      · show (xs ++ ys).length + 0 = xs.length + (ys.length + 0)
        simp
    | keep m => cases h
    | out m => cases h
theorem snoc_cases {α : Type} (xs : List α) : xs = [] ∨ ∃ pre l, xs = pre ++ [l] := by
  rcases List.eq_nil_or_concat xs with h | ⟨pre, l, h⟩
  · exact .inl h
  · exact .inr ⟨pre, l, by simpa using h⟩
theorem jstep_snoc (pre : List Ch) (l c : Ch) : jstep (pre ++ [l]) c = match jm l c with
    | some u => pre ++ [u]
    | none => pre ++ [l] ++ [c] := by
  unfold jstep
  rw [List.getLast?_concat]
  show (match jm l c with
    | some u => (pre ++ [l]).dropLast ++ [u]
    | none => pre ++ [l] ++ [c]) = _
  rw [List.dropLast_concat]
theorem jstep_ok {doc : List D} {p : Nat} (acc : List Ch) (c : Ch) : usedC (jstep acc c) = usedC (acc ++ [c]) ∧ outsC doc p (jstep acc c) = outsC doc p (acc ++ [c]) ∧ hmC (jstep acc c) = hmC (acc ++ [c]) ∧ insN (jstep acc c) = insN (acc ++ [c]) ∧ ((∀ d ∈ acc, d.pos) → c.pos → ∀ d ∈ jstep acc c, d.pos) ∧ (jstep acc c).length ≤ acc.length + 1 := by
  rcases snoc_cases acc with rfl | ⟨pre, l, rfl⟩
  · refine ⟨rfl, rfl, rfl, rfl, fun _ h d hd => ?_, Nat.le_refl _⟩
    rw [List.mem_singleton.mp (show d ∈ [c] from hd)]
    exact h
  · rw [jstep_snoc]
    cases q : jm l c with
    | none => exact ⟨rfl, rfl, rfl, rfl, fun h1 h2 d hd => by
        rcases List.mem_append.mp hd with hd | hd
        · exact h1 d hd
        · rw [List.mem_singleton.mp hd]; exact h2, by simp⟩
    | some u =>
      obtain ⟨a1, a2, a3, a4, a5⟩ := jm_same q doc (p + usedC pre)
      have e : pre ++ [l] ++ [c] = pre ++ [l, c] := by simp
      simp only
      rw [e, usedC_app, usedC_app, outsC_app, outsC_app, hmC_app, hmC_app, insN_app, insN_app, a1, a2, a3, a4]
      refine ⟨rfl, rfl, rfl, rfl, fun h1 h2 d hd => ?_, by simp⟩
      rcases List.mem_append.mp hd with hd | hd
      · exact h1 d (List.mem_append_left _ hd)
      · rw [List.mem_singleton.mp hd]
        exact a5 (h1 l (by simp)) h2
theorem join_go {doc : List D} {p : Nat} : ∀ (cs acc : List Ch), usedC (cs.foldl jstep acc) = usedC (acc ++ cs) ∧ outsC doc p (cs.foldl jstep acc) = outsC doc p (acc ++ cs) ∧ hmC (cs.foldl jstep acc) = hmC (acc ++ cs) ∧ insN (cs.foldl jstep acc) = insN (acc ++ cs) ∧ ((∀ d ∈ acc, d.pos) → (∀ d ∈ cs, d.pos) → ∀ d ∈ cs.foldl jstep acc, d.pos) ∧ (cs.foldl jstep acc).length ≤ acc.length + cs.length
  | [], acc => by simp
  | c :: cs, acc => by
    obtain ⟨a1, a2, a3, a4, a5, a6⟩ := join_go (doc := doc) (p := p) cs (jstep acc c)
    obtain ⟨b1, b2, b3, b4, b5, b6⟩ := jstep_ok (doc := doc) (p := p) acc c
    have e : acc ++ c :: cs = acc ++ [c] ++ cs := by simp
    rw [List.foldl_cons, e, a1, a2, a3, a4, usedC_app, usedC_app (acc ++ [c]), outsC_app, outsC_app doc (acc ++ [c]), hmC_app, hmC_app (acc ++ [c]), insN_app, insN_app (acc ++ [c]), b1, b2, b3, b4]
    refine ⟨rfl, rfl, rfl, rfl, fun h1 h2 d hd => a5 (b5 h1 (h2 c List.mem_cons_self)) (fun d hd => h2 d (List.mem_cons_of_mem _ hd)) d hd, by rw [List.length_cons]; omega⟩
/-- the least changes from one to the other -/
def leastC (xs ys : List Nat) : List Ch := joinC (stepsN xs ys)
theorem least_ok (xs ys : List Nat) : StOk (encB xs) 0 xs ys (leastC xs ys) := by
  have h := steps_ok (encB xs) _ xs ys 0 (Nat.le_refl _) rfl
  obtain ⟨a1, a2, a3, a4, a5, a6⟩ := join_go (doc := encB xs) (p := 0) (stepsN xs ys) []
  have lc := h.ln
  exact ⟨a1.trans h.use, a2.trans h.out, a3.trans h.hm, a5 (fun d h => nomatch h) h.pos, by show (List.foldl jstep [] _).length ≤ _; simp only [List.length_nil] at a6; omega, by show insN (List.foldl jstep [] _) ≤ _; rw [a4]; exact h.ins⟩
theorem and_t {cl : CL} {ρ : Env} {a b : E} {x y : Bool} (h : evT cl a ρ = .ok x) (h2 : x = true → evT cl b ρ = .ok y) (hy : x = false → y = false) : evT cl (.and a b) ρ = .ok y := by
  rw [evT_and, h, bnd_ok]
  cases x with
  | true => rw [if_pos rfl, h2 rfl]
  | false => rw [if_neg (by decide), hy rfl]
/-! ### joined, run -/
def jnB : List S := [.iff (.and (.v 1) (.cmp .eq (.idx (.idx (.v 1) (.neg (.c (.int 1)))) (.c (.int 0))) (.v 2))) [.apop 1 2 3] [.app 1 (.tup [(.v 2), (.v 3)])]]
def Ch.w : Ch → List Nat
  | .keep _ => wKeep
  | .out _ => wOut
  | .inn _ => wIn
def Ch.v : Ch → D
  | .keep n => .int n
  | .out n => .int n
  | .inn xs => .tup xs
theorem Ch.d_eq (c : Ch) : c.d = .tup [.str c.w, c.v] := by cases c <;> rfl
theorem jm_w (l c : Ch) : (jm l c).isSome = (l.w == c.w) := by cases l <;> cases c <;> rfl
def Ch.sm : Ch → Prop
  | .keep n => n ≤ 1000
  | .out n => n ≤ 1000
  | .inn xs => xs.length ≤ 1000000
theorem jm_add {l c u : Ch} (h : jm l c = some u) (h1 : insN [l] + insN [c] ≤ 1000000) : binD .add l.v c.v = .ok u.v ∧ u.w = c.w := by
  cases l with
  | keep n => cases c <;> cases h; exact ⟨rfl, rfl⟩
  | out n => cases c <;> cases h; exact ⟨rfl, rfl⟩
  | inn xs =>
    cases c with
    | inn ys =>
      cases h
      have h1 : xs.length + 0 + (ys.length + 0) ≤ 1000000 := h1
      exact ⟨add_tt (by omega), rfl⟩
    | keep m => cases h
    | out m => cases h
theorem apop_s {cl : CL} {ρ : Env} {i w x : Nat} {xs : List D} {dw dx k v u : D} (ho : ρ[i]? = some (.own (xs ++ [.tup [k, v]]))) (hw : rd ρ w = .ok dw) (hx : rd ρ x = .ok dx) (hb : binD .add v dx = .ok u) (hl : xs.length + 1 < 16777216) : evS cl (.apop i w x) ρ = .ok (.nx (ρ.set i (.own (xs ++ [.tup [dw, u]])))) := by
  have hi : i < ρ.length := (List.getElem?_eq_some_iff.mp ho).1
  have hg : getOwn ρ i = .ok (xs ++ [.tup [k, v]]) := by unfold getOwn; rw [ho]
  show ((getOwn ρ i).bind fun xs => (rd ρ w).bind fun dw => (rd ρ x).bind fun dx => match xs.getLast? with
    | some (.tup [_, v]) => (binD .add v dx).bind fun u => guardR (decide (xs.length < 16777216)) ((put ρ i (.own (xs.dropLast ++ [.tup [dw, u]]))).bind fun ρ' => R.ok (Fl.nx ρ'))
    | _ => .no) = _
  rw [hg, bnd_ok, hw, bnd_ok, hx, bnd_ok, List.getLast?_concat]
  show ((binD .add v dx).bind fun u => guardR (decide ((xs ++ [D.tup [k, v]]).length < 16777216)) ((put ρ i (.own ((xs ++ [D.tup [k, v]]).dropLast ++ [D.tup [dw, u]]))).bind fun ρ' => R.ok (Fl.nx ρ'))) = _
  rw [hb, bnd_ok, List.dropLast_concat, decide_eq_true (by simp; omega), guardR_t, put_ok hi, bnd_ok]
theorem joined_at (hT : T 63 = some (.ir ir_changes_joined)) {cs : List Ch} (hl : cs.length ≤ 1000) (hi : insN cs ≤ 1000000) : At T 1 63 [.lst (cs.map Ch.d)] (.ok (.tup ((joinC cs).map Ch.d))) := by
  refine At.step hT fun j _ => evF_st (ρ := [.val (.lst (cs.map Ch.d)), .un, .un, .un]) rfl rfl (ss_nx (ρ' := [.val (.lst (cs.map Ch.d)), .own [], .un, .un]) rfl ?_)
  obtain ⟨ρ', e, b2, b3, rfl⟩ := forGo_L (t := .tp [.nm 2, .nm 3]) (body := evSs (callN T j) jnB) (enc := Ch.d) (fun done ρ => ∃ b2 b3, ρ = [.val (.lst (cs.map Ch.d)), .own ((joinC done).map Ch.d), b2, b3]) cs [] (ρ := [.val (.lst (cs.map Ch.d)), .own [], .un, .un]) (by
    rintro pre c post ρ e ⟨b2, b3, rfl⟩
    have e : cs = pre ++ c :: post := e
    have lp : pre.length < 1000 := by rw [e] at hl; simp at hl; omega
    obtain ⟨_, _, _, ai, _, al⟩ := join_go (doc := []) (p := 0) pre []
    have ai : insN (joinC pre) = insN pre := ai
    have al : (joinC pre).length ≤ pre.length := by simp only [List.length_nil, Nat.zero_add] at al; exact al
    have ip : insN pre + insN [c] ≤ 1000000 := by
      have : insN cs = insN pre + (insN [c] + insN post) := by rw [e, insN_app]; congr 1; exact insN_app [c] post
      omega
    have fin : joinC (pre ++ [c]) = jstep (joinC pre) c := by unfold joinC; rw [List.foldl_append]; rfl
    rw [fin]
    generalize joinC pre = acc at *
    refine ⟨[.val (.lst (cs.map Ch.d)), .own (acc.map Ch.d), .val (.str c.w), .val c.v], by rw [Ch.d_eq]; rfl, [.val (.lst (cs.map Ch.d)), .own ((jstep acc c).map Ch.d), .val (.str c.w), .val c.v], ?_, _, _, rfl⟩
    have ap : ∀ acc : List Ch, acc.length ≤ 1000 → evSs (callN T j) [.app 1 (.tup [(.v 2), (.v 3)])] [.val (.lst (cs.map Ch.d)), .own (acc.map Ch.d), .val (.str c.w), .val c.v] = .ok (.nx [.val (.lst (cs.map Ch.d)), .own ((acc ++ [c]).map Ch.d), .val (.str c.w), .val c.v]) := fun acc ha => by
      refine app_ss (xs := acc.map Ch.d) (d := c.d) rfl (by rw [Ch.d_eq]; rfl) (by rw [List.length_map]; omega) ?_
      rw [List.map_append]
      rfl
    rcases snoc_cases acc with rfl | ⟨ac, l, rfl⟩
    · exact iff_nx (b := false) rfl (ap [] (by simp)) rfl
    · have tt : evT (callN T j) (.and (.v 1) (.cmp .eq (.idx (.idx (.v 1) (.neg (.c (.int 1)))) (.c (.int 0))) (.v 2))) [.val (.lst (cs.map Ch.d)), .own ((ac ++ [l]).map Ch.d), .val (.str c.w), .val c.v] = .ok (l.w == c.w) := by
        have e9 : (ac ++ [l]).map Ch.d = ac.map Ch.d ++ [.tup [.str l.w, l.v]] := by rw [List.map_append]; show _ ++ [l.d] = _; rw [Ch.d_eq l]
        rw [e9]
        refine and_t (x := true) ?_ (fun _ => cmp_t (x := .str l.w) (y := .str c.w) ?_ rfl (eq_ss _ _)) (fun z => nomatch z)
        · show truth (D.lst (ac.map Ch.d ++ [.tup [.str l.w, l.v]])) = _
          rw [truth_l]
          cases ac.map Ch.d <;> rfl
        · rw [bor_idx, evE_idx, bor_idx, evE_idx]
          show ((idxD (.lst (ac.map Ch.d ++ [.tup [.str l.w, l.v]])) (.int (-1))).bind fun x => (R.ok (D.int 0)).bind fun y => idxD x y) = _
          rw [idx_last, bnd_ok]
          rfl
      rw [jstep_snoc]
      cases q : jm l c with
      | none =>
        have w := jm_w l c
        rw [q] at w
        rw [← w] at tt
        have := ap (ac ++ [l]) (by omega)
        exact iff_nx tt this rfl
      | some u =>
        have w := jm_w l c
        rw [q] at w
        rw [← w] at tt
        have il : insN [l] + insN [c] ≤ 1000000 := by
          rw [insN_app] at ai
          omega
        obtain ⟨h1, h2⟩ := jm_add q il
        refine iff_nx tt (ss_nx (apop_s (i := 1) (w := 2) (x := 3) (xs := ac.map Ch.d) (k := .str l.w) (v := l.v) (u := u.v) (dw := .str c.w) (dx := c.v) ?_ rfl rfl h1 ?_) ?_) rfl
        · rw [List.map_append]
          show some (SV.own (ac.map Ch.d ++ [l.d])) = _
          rw [Ch.d_eq]
        · rw [List.length_map]
          simp at al
          omega
        · have e9 : (ac ++ [u]).map Ch.d = ac.map Ch.d ++ [.tup [.str c.w, u.v]] := by rw [List.map_append]; show _ ++ [u.d] = _; rw [Ch.d_eq u, h2]
          show R.ok (Fl.nx [_, SV.own (ac.map Ch.d ++ [.tup [.str c.w, u.v]]), _, _]) = R.ok (Fl.nx [_, SV.own ((ac ++ [u]).map Ch.d), _, _])
          rw [e9]) ⟨_, _, rfl⟩
  refine for_ss (ds := [.lst (cs.map Ch.d)]) rfl (seq_l _) e (ret_ss ?_)
  rw [bor_pr]
  exact pr_v (d := .lst ((joinC cs).map Ch.d)) rfl rfl
/-! ### changes, run -/
def cgB : List S := [.iff (.and (.cmp .lt (.v 4) (.pr .len [(.v 0)])) (.and (.cmp .lt (.v 5) (.pr .len [(.v 1)])) (.cmp .eq (.idx (.v 0) (.v 4)) (.idx (.v 1) (.v 5))))) [.app 3 (.tup [(.c (.str [107, 101, 101, 112])), (.c (.int 1))]), .asg 4 false (.bin .add (.v 4) (.c (.int 1))), .asg 5 false (.bin .add (.v 5) (.c (.int 1)))] [.iff (.or (.cmp .eq (.v 5) (.pr .len [(.v 1)])) (.and (.cmp .lt (.v 4) (.pr .len [(.v 0)])) (.cmp .le (.dgt 2 [(.bin .add (.v 4) (.c (.int 1))), (.v 5)]) (.dgt 2 [(.v 4), (.bin .add (.v 5) (.c (.int 1)))])))) [.app 3 (.tup [(.c (.str [111, 117, 116])), (.c (.int 1))]), .asg 4 false (.bin .add (.v 4) (.c (.int 1)))] [.app 3 (.tup [(.c (.str [105, 110])), (.tup [(.idx (.v 1) (.v 5))])]), .asg 5 false (.bin .add (.v 5) (.c (.int 1)))]]]
def cgC : E := .or (.cmp .lt (.v 4) (.pr .len [(.v 0)])) (.cmp .lt (.v 5) (.pr .len [(.v 1)]))
theorem len_lt {cl : CL} {ρ : Env} {i v : Nat} {X : List D} {a : Nat} (h1 : rdB ρ v = .ok (.int a)) (h2 : rdB ρ i = .ok (.tup X)) : evT cl (.cmp .lt (.v v) (.pr .len [(.v i)])) ρ = .ok (decide (a < X.length)) := by
  refine cmp_t (x := .int a) (y := .int X.length) h1 (by rw [bor_pr]; exact pr_v h2 (len_t X)) ?_
  rw [lt_ii]
  congr 2
  exact decide_eq_decide.mpr (by omega)
def cgE (xs ys : List Nat) (kvs : List (List Int × Int)) (acc : List Ch) (a b : Nat) : Env := [.val (.tup (encB xs)), .val (.tup (encB ys)), .val (.dct kvs), .own (acc.map Ch.d), .val (.int a), .val (.int b)]
theorem cg_app {cl : CL} {xs ys : List Nat} {kvs : List (List Int × Int)} {acc : List Ch} {a b : Nat} {e : E} {c : Ch} {rest : List S} {r : R Fl} (h : evE cl e (cgE xs ys kvs acc a b) = .ok c.d) (hl : acc.length ≤ 1000) (hr : evSs cl rest (cgE xs ys kvs (acc ++ [c]) a b) = r) : evSs cl (.app 3 e :: rest) (cgE xs ys kvs acc a b) = r := by
  refine app_ss (xs := acc.map Ch.d) (d := c.d) rfl h (by rw [List.length_map]; omega) ?_
  unfold cgE at hr
  rw [List.map_append] at hr
  exact hr
theorem cg_turn {cl : CL} {xs ys : List Nat} (hx : Sm xs) (hy : Sm ys) {kvs : List (List Int × Int)} (ok : TbOk xs ys kvs) {a b : Nat} (ha : a ≤ xs.length) (hb : b ≤ ys.length) (hab : a < xs.length ∨ b < ys.length) {acc : List Ch} (hl : acc.length ≤ 1000) :
    ∃ c a' b', a' ≤ xs.length ∧ b' ≤ ys.length ∧ a + b < a' + b' ∧ stepsN (xs.drop a) (ys.drop b) = c :: stepsN (xs.drop a') (ys.drop b') ∧ evSs cl cgB (cgE xs ys kvs acc a b) = .ok (.nx (cgE xs ys kvs (acc ++ [c]) a' b')) := by
  have c1 : ((a + 1 : Nat) : Int) = (a : Int) + 1 := by omega
  have c2 : ((b + 1 : Nat) : Int) = (b : Int) + 1 := by omega
  have t0 : evT cl (.cmp .lt (.v 4) (.pr .len [(.v 0)])) (cgE xs ys kvs acc a b) = .ok (decide (a < xs.length)) := by
    have := len_lt (cl := cl) (ρ := cgE xs ys kvs acc a b) (v := 4) (i := 0) (X := encB xs) (a := a) rfl rfl
    rw [encB_len] at this; exact this
  have t1 : evT cl (.cmp .lt (.v 5) (.pr .len [(.v 1)])) (cgE xs ys kvs acc a b) = .ok (decide (b < ys.length)) := by
    have := len_lt (cl := cl) (ρ := cgE xs ys kvs acc a b) (v := 5) (i := 1) (X := encB ys) (a := b) rfl rfl
    rw [encB_len] at this; exact this
  have t2 : evT cl (.cmp .eq (.v 5) (.pr .len [(.v 1)])) (cgE xs ys kvs acc a b) = .ok (decide (b = ys.length)) := by
    have := len_eq (cl := cl) (ρ := cgE xs ys kvs acc a b) (v := 5) (i := 1) (X := encB ys) (a := b) rfl rfl
    rw [encB_len] at this; exact this
  have keepR : ∀ acc : List Ch, acc.length ≤ 1000 → evSs cl [.app 3 (.tup [(.c (.str [107, 101, 101, 112])), (.c (.int 1))]), .asg 4 false (.bin .add (.v 4) (.c (.int 1))), .asg 5 false (.bin .add (.v 5) (.c (.int 1)))] (cgE xs ys kvs acc a b) = .ok (.nx (cgE xs ys kvs (acc ++ [.keep 1]) (a + 1) (b + 1))) := fun acc h => cg_app (c := .keep 1) rfl h (asg_ss (d := .int ((a + 1 : Nat) : Int)) rfl (by simp [cgE]) (asg_ss (d := .int ((b + 1 : Nat) : Int)) rfl (by simp [cgE]) rfl))
  have outR : ∀ acc : List Ch, acc.length ≤ 1000 → evSs cl [.app 3 (.tup [(.c (.str [111, 117, 116])), (.c (.int 1))]), .asg 4 false (.bin .add (.v 4) (.c (.int 1)))] (cgE xs ys kvs acc a b) = .ok (.nx (cgE xs ys kvs (acc ++ [.out 1]) (a + 1) b)) := fun acc h => cg_app (c := .out 1) rfl h (asg_ss (d := .int ((a + 1 : Nat) : Int)) rfl (by simp [cgE]) rfl)
  have innR : ∀ (hb' : b < ys.length) (acc : List Ch), acc.length ≤ 1000 → evSs cl [.app 3 (.tup [(.c (.str [105, 110])), (.tup [(.idx (.v 1) (.v 5))])]), .asg 5 false (.bin .add (.v 5) (.c (.int 1)))] (cgE xs ys kvs acc a b) = .ok (.nx (cgE xs ys kvs (acc ++ [.inn [blk ys[b]]]) a (b + 1))) := fun hb' acc h => by
    have i1 : evE cl (.idx (.v 1) (.v 5)) (cgE xs ys kvs acc a b) = .ok (blk ys[b]) := by rw [evE_idx]; exact idx_t (encB_get hb')
    exact cg_app (c := .inn [blk ys[b]]) (tup_e (es_2 rfl (tup_e (es_1 i1)))) h (asg_ss (d := .int ((b + 1 : Nat) : Int)) rfl (by simp [cgE]) rfl)
  by_cases h1 : a < xs.length
  · rw [decide_eq_true h1] at t0
    have da : xs.drop a = xs[a] :: xs.drop (a + 1) := List.drop_eq_getElem_cons h1
    by_cases h2 : b < ys.length
    · rw [decide_eq_true h2] at t1
      rw [decide_eq_false (by omega)] at t2
      have db : ys.drop b = ys[b] :: ys.drop (b + 1) := List.drop_eq_getElem_cons h2
      have tq : evT cl (.cmp .eq (.idx (.v 0) (.v 4)) (.idx (.v 1) (.v 5))) (cgE xs ys kvs acc a b) = .ok (decide (xs[a] = ys[b])) := cmp_t (x := blk xs[a]) (y := blk ys[b]) (by rw [bor_idx, evE_idx]; exact idx_t (encB_get h1)) (by rw [bor_idx, evE_idx]; exact idx_t (encB_get h2)) (blk_eq (hx.get h1) (hy.get h2))
      by_cases q : xs[a] = ys[b]
      · rw [decide_eq_true q] at tq
        refine ⟨.keep 1, a + 1, b + 1, h1, h2, by omega, by rw [da, db, stepsN_cc, if_pos q], ?_⟩
        exact iff_nx (and_t t0 (fun _ => and_t t1 (fun _ => tq) (fun z => nomatch z)) (fun z => nomatch z)) (keepR acc hl) rfl
      · rw [decide_eq_false q] at tq
        have g2 := ok (a + 1) b (by omega) hb
        have g3 := ok a (b + 1) ha (by omega)
        rw [c1] at g2
        rw [c2] at g3
        have tl : evT cl (.cmp .le (.dgt 2 [(.bin .add (.v 4) (.c (.int 1))), (.v 5)]) (.dgt 2 [(.v 4), (.bin .add (.v 5) (.c (.int 1)))])) (cgE xs ys kvs acc a b) = .ok (decide (dsN (xs.drop (a + 1)) (ys.drop b) ≤ dsN (xs.drop a) (ys.drop (b + 1)))) := by
          refine cmp_t (x := .int _) (y := .int _) (by rw [bor_nv rfl]; exact dgt_e (x := (a : Int) + 1) (y := (b : Int)) rfl rfl g2) (by rw [bor_nv rfl]; exact dgt_e (x := (a : Int)) (y := (b : Int) + 1) rfl rfl g3) ?_
          rw [le_ii]
          congr 2
          exact decide_eq_decide.mpr (by omega)
        have tn : evT cl (.and (.cmp .lt (.v 4) (.pr .len [(.v 0)])) (.and (.cmp .lt (.v 5) (.pr .len [(.v 1)])) (.cmp .eq (.idx (.v 0) (.v 4)) (.idx (.v 1) (.v 5))))) (cgE xs ys kvs acc a b) = .ok false := and_t t0 (fun _ => and_t t1 (fun _ => tq) (fun z => nomatch z)) (fun z => nomatch z)
        by_cases m : dsN (xs.drop (a + 1)) (ys.drop b) ≤ dsN (xs.drop a) (ys.drop (b + 1))
        · rw [decide_eq_true m] at tl
          refine ⟨.out 1, a + 1, b, h1, hb, by omega, ?_, ?_⟩
          · rw [da, db] at m ⊢
            rw [stepsN_cc, if_neg q, if_pos m]
          · exact iff_nx tn (iff_nx (or_t t2 (fun _ => and_t t0 (fun _ => tl) (fun z => nomatch z)) (fun z => nomatch z)) (outR acc hl) rfl) rfl
        · rw [decide_eq_false m] at tl
          refine ⟨.inn [blk ys[b]], a, b + 1, ha, h2, by omega, ?_, ?_⟩
          · rw [da, db] at m ⊢
            rw [stepsN_cc, if_neg q, if_neg m]
          · exact iff_nx tn (iff_nx (or_t t2 (fun _ => and_t t0 (fun _ => tl) (fun z => nomatch z)) (fun z => nomatch z)) (innR h2 acc hl) rfl) rfl
    · rw [decide_eq_false h2] at t1
      rw [decide_eq_true (by omega)] at t2
      have db : ys.drop b = [] := List.drop_eq_nil_of_le (by omega)
      refine ⟨.out 1, a + 1, b, h1, hb, by omega, by rw [da, db, stepsN_cn], ?_⟩
      exact iff_nx (and_t t0 (fun _ => and_t t1 (fun z => nomatch z) (fun _ => rfl)) (fun z => nomatch z)) (iff_nx (or_t t2 (fun z => nomatch z) (fun _ => rfl)) (outR acc hl) rfl) rfl
  · rw [decide_eq_false h1] at t0
    have h2 : b < ys.length := by omega
    rw [decide_eq_false (by omega)] at t2
    have da : xs.drop a = [] := List.drop_eq_nil_of_le (by omega)
    have db : ys.drop b = ys[b] :: ys.drop (b + 1) := List.drop_eq_getElem_cons h2
    refine ⟨.inn [blk ys[b]], a, b + 1, ha, h2, by omega, by rw [da, db, stepsN_nc], ?_⟩
    exact iff_nx (and_t t0 (fun z => nomatch z) (fun _ => rfl)) (iff_nx (or_t t2 (fun _ => and_t t0 (fun z => nomatch z) (fun _ => rfl)) (fun z => nomatch z)) (innR h2 acc hl) rfl) rfl
theorem cg_whl {cl : CL} {xs ys : List Nat} (hx : Sm xs) (hy : Sm ys) {kvs : List (List Int × Int)} (ok : TbOk xs ys kvs) : ∀ (f a b : Nat) (acc : List Ch), a ≤ xs.length → b ≤ ys.length → (xs.length - a) + (ys.length - b) < f → acc.length + ((xs.length - a) + (ys.length - b)) ≤ 1000 →
    whlGo (evT cl cgC) (evSs cl cgB) f (cgE xs ys kvs acc a b) = .ok (.nx (cgE xs ys kvs (acc ++ stepsN (xs.drop a) (ys.drop b)) xs.length ys.length))
  | 0, a, b, acc, ha, hb, hf, _ => absurd hf (by omega)
  | f + 1, a, b, acc, ha, hb, hf, hl => by
    have t0 : evT cl (.cmp .lt (.v 4) (.pr .len [(.v 0)])) (cgE xs ys kvs acc a b) = .ok (decide (a < xs.length)) := by
      have := len_lt (cl := cl) (ρ := cgE xs ys kvs acc a b) (v := 4) (i := 0) (X := encB xs) (a := a) rfl rfl
      rw [encB_len] at this; exact this
    have t1 : evT cl (.cmp .lt (.v 5) (.pr .len [(.v 1)])) (cgE xs ys kvs acc a b) = .ok (decide (b < ys.length)) := by
      have := len_lt (cl := cl) (ρ := cgE xs ys kvs acc a b) (v := 5) (i := 1) (X := encB ys) (a := b) rfl rfl
      rw [encB_len] at this; exact this
    have tc : evT cl cgC (cgE xs ys kvs acc a b) = .ok (decide (a < xs.length ∨ b < ys.length)) := or_t t0 (fun z => by
      rw [t1]
      congr 1
      simp at z
      exact decide_eq_decide.mpr (by omega)) (fun z => by simp at z; exact decide_eq_true (.inl z))
    show ((evT cl cgC (cgE xs ys kvs acc a b)).bind fun b' => if b' = true then (evSs cl cgB (cgE xs ys kvs acc a b)).bind fun g => match g with
      | .nx ρ2 => whlGo (evT cl cgC) (evSs cl cgB) f ρ2
      | .ct ρ2 => whlGo (evT cl cgC) (evSs cl cgB) f ρ2
      | .rt d => .ok (.rt d)
    else .ok (.nx (cgE xs ys kvs acc a b))) = _
    rw [tc, bnd_ok]
    by_cases h : a < xs.length ∨ b < ys.length
    · rw [decide_eq_true h, if_pos rfl]
      obtain ⟨c, a', b', h1, h2, h3, h4, h5⟩ := cg_turn (cl := cl) hx hy ok ha hb h (acc := acc) (by omega)
      rw [h5, bnd_ok]
      show whlGo (evT cl cgC) (evSs cl cgB) f (cgE xs ys kvs (acc ++ [c]) a' b') = _
      rw [cg_whl hx hy ok f a' b' (acc ++ [c]) h1 h2 (by omega) (by simp; omega), h4, List.append_assoc]
      rfl
    · rw [decide_eq_false h, if_neg (by decide)]
      have ea : a = xs.length := by omega
      have eb : b = ys.length := by omega
      subst ea eb
      rw [List.drop_length, List.drop_length, stepsN_nn, List.append_nil]
theorem changes_at (hT : T 61 = some (.ir ir_changes_changes)) (hT2 : T 64 = some (.ir ir_changes_table)) (hT3 : T 63 = some (.ir ir_changes_joined)) {xs ys : List Nat} (hx : Sm xs) (hy : Sm ys) : At T 2 61 [.tup (encB xs), .tup (encB ys)] (.ok (.tup ((leastC xs ys).map Ch.d))) := by
  refine At.step hT fun j hj => evF_st (ρ := [.val (.tup (encB xs)), .val (.tup (encB ys)), .un, .un, .un, .un]) rfl rfl ?_
  have lx := hx.ln
  have ly := hy.ln
  obtain ⟨kvs, ok, e⟩ := table_at hT2 hx hy j hj
  refine asg_ss (d := .dct kvs) (call_2 (e := .v 0) (e2 := .v 1) rfl rfl e) (by simp) ?_
  refine ss_nx (ρ' := [.val (.tup (encB xs)), .val (.tup (encB ys)), .val (.dct kvs), .own [], .un, .un]) rfl ?_
  refine asg_ss (d := .int 0) rfl (by simp) (asg_ss (d := .int 0) rfl (by simp) ?_)
  have W := cg_whl (cl := callN T j) hx hy ok wfuel 0 0 [] (Nat.zero_le _) (Nat.zero_le _) (by unfold wfuel; omega) (by simp; omega)
  refine ss_nx (ρ' := cgE xs ys kvs (stepsN xs ys) xs.length ys.length) W ?_
  refine ss_nx (ρ' := [.val (.tup (encB xs)), .val (.tup (encB ys)), .val (.dct kvs), .val (.lst ((stepsN xs ys).map Ch.d)), .val (.int xs.length), .val (.int ys.length)]) rfl ?_
  have so := steps_ok (encB xs) _ xs ys 0 (Nat.le_refl _) rfl
  have s1 := so.ln
  have s2 := so.ins
  exact ret_ss (by rw [bor_call]; exact call_1 (e := .v 3) (d := .lst ((stepsN xs ys).map Ch.d)) rfl (joined_at hT3 (by omega) (by omega) j (by omega)))
end MT
namespace MT
open L2
variable {T : Tab}
/-! ### a doc led by changes, by the law's walk -/
def ledB : List S := [.iff (.or (.not (.pr (.isT false false false true false) [(.v 3)])) (.or (.cmp .ne (.pr .len [(.v 3)]) (.c (.int 2))) (.cmp .notin (.idx (.v 3) (.c (.int 0))) (.tup [(.c (.str [107, 101, 101, 112])), (.c (.str [111, 117, 116])), (.c (.str [105, 110]))])))) [.ret (.c .non)] [], .iff (.cmp .eq (.idx (.v 3) (.c (.int 0))) (.c (.str [105, 110]))) [.iff (.or (.not (.pr (.isT false false false true false) [(.idx (.v 3) (.c (.int 1)))])) (.cmp .eq (.pr .len [(.idx (.v 3) (.c (.int 1)))]) (.c (.int 0)))) [.ret (.c .non)] [], .asg 2 false (.bin .add (.v 2) (.idx (.v 3) (.c (.int 1))))] [.iff (.or (.not (.pr (.isT false true false false false) [(.idx (.v 3) (.c (.int 1)))])) (.or (.pr (.isT true false false false false) [(.idx (.v 3) (.c (.int 1)))]) (.not (.chain .le .le (.c (.int 1)) (.idx (.v 3) (.c (.int 1))) (.pr .len [(.v 0)]))))) [.ret (.c .non)] [], .iff (.cmp .eq (.idx (.v 3) (.c (.int 0))) (.c (.str [107, 101, 101, 112]))) [.asg 2 false (.bin .add (.v 2) (.slHi (.v 0) (.idx (.v 3) (.c (.int 1)))))] [], .asg 0 false (.slLo (.v 0) (.idx (.v 3) (.c (.int 1))))]]
theorem led_go {cl : CL} {X : List D} {s : SV} : ∀ (cs : List Ch) (f : List D) (p : Nat) (a3 : SV), (∀ c ∈ cs, c.pos) → p + usedC cs ≤ X.length → f.length + (outsC X p cs).length ≤ 16777216 →
    ∃ b3, forGo (.nm 3) (evSs cl ledB) (cs.map Ch.d) [.val (.tup (X.drop p)), s, .val (.tup f), a3] = .ok (.nx [.val (.tup (X.drop (p + usedC cs))), s, .val (.tup (f ++ outsC X p cs)), b3])
  | [], f, p, a3, _, _, _ => ⟨a3, by show R.ok (Fl.nx _) = R.ok (Fl.nx _); simp [outsC, usedC]⟩
  | c :: cs, f, p, a3, hp, hu, h => by
    have hc := hp c List.mem_cons_self
    have hp' := fun d hd => hp d (List.mem_cons_of_mem c hd)
    have step : ∀ (f' : List D) (p' : Nat), f ++ outsC X p (c :: cs) = f' ++ outsC X p' cs → p + usedC (c :: cs) = p' + usedC cs → evSs cl ledB [.val (.tup (X.drop p)), s, .val (.tup f), .val c.d] = .ok (.nx [.val (.tup (X.drop p')), s, .val (.tup f'), .val c.d]) →
        ∃ b3, forGo (.nm 3) (evSs cl ledB) ((c :: cs).map Ch.d) [.val (.tup (X.drop p)), s, .val (.tup f), a3] = .ok (.nx [.val (.tup (X.drop (p + usedC (c :: cs)))), s, .val (.tup (f ++ outsC X p (c :: cs))), b3]) := fun f' p' e2 e3 e4 => by
      obtain ⟨b3, e⟩ := led_go (cl := cl) (X := X) (s := s) cs f' p' (.val c.d) hp' (by omega) (by
        have := congrArg List.length e2
        rw [List.length_append, List.length_append] at this
        omega)
      refine ⟨b3, ?_⟩
      rw [e2, e3, List.map_cons]
      show ((evSs cl ledB [.val (.tup (X.drop p)), s, .val (.tup f), .val c.d]).bind fun g => match g with
        | .nx ρ2 => forGo (.nm 3) (evSs cl ledB) (cs.map Ch.d) ρ2
        | .ct ρ2 => forGo (.nm 3) (evSs cl ledB) (cs.map Ch.d) ρ2
        | .rt d => .ok (.rt d)) = _
      rw [e4]
      exact e
    have num : ∀ (w : List Nat) (n : Nat), 1 ≤ n → n ≤ (X.drop p).length → evT cl (.or (.not (.pr (.isT false true false false false) [(.idx (.v 3) (.c (.int 1)))])) (.or (.pr (.isT true false false false false) [(.idx (.v 3) (.c (.int 1)))]) (.not (.chain .le .le (.c (.int 1)) (.idx (.v 3) (.c (.int 1))) (.pr .len [(.v 0)]))))) [.val (.tup (X.drop p)), s, .val (.tup f), .val (.tup [.str w, .int n])] = .ok false := fun w n h1 h2 => by
      refine or_t rfl (fun _ => or_t rfl (fun _ => ?_) (fun z => nomatch z)) (fun z => nomatch z)
      rw [evT_not, evT_chain, evE_chain]
      show ((((R.ok (D.bl (decide ((1 : Int) ≤ (n : Int))))).bind (andK (R.ok (D.bl (decide ((n : Int) ≤ ((X.drop p).length : Int))))))).bind truth).bind fun x => R.ok !x) = _
      have q1 : decide ((1 : Int) ≤ (n : Int)) = true := decide_eq_true (by omega)
      have q2 : decide ((n : Int) ≤ ((X.drop p).length : Int)) = true := decide_eq_true (by omega)
      rw [bnd_ok, q1, andK_t, q2]
      rfl
    cases c with
    | keep n =>
      have hu : p + (n + usedC cs) ≤ X.length := hu
      have hn : n ≤ (X.drop p).length := by rw [List.length_drop]; omega
      have h : f.length + ((X.drop p).take n ++ outsC X (p + n) cs).length ≤ 16777216 := h
      rw [List.length_append] at h
      refine step (f ++ (X.drop p).take n) (p + n) (by rw [List.append_assoc]; rfl) (by show p + (n + usedC cs) = _; omega) ?_
      refine iff_nx (b := false) rfl rfl (iff_nx (b := false) rfl ?_ rfl)
      refine iff_nx (num wKeep n hc hn) rfl ?_
      refine iff_nx (b := true) rfl (ρ' := [.val (.tup (X.drop p)), s, .val (.tup (f ++ (X.drop p).take n)), .val (Ch.keep n).d]) ?_ ?_
      · refine asg_ss (d := .tup (f ++ (X.drop p).take n)) (bin_e (o := .add) (x := .tup f) (y := .tup ((X.drop p).take n)) rfl ?_ (add_tt (by omega))) (by simp) rfl
        rw [bor_slHi, evE_slHi]
        show R.ok (D.tup (cutL (X.drop p) none (some (n : Int)))) = _
        rw [cut_hi]
      · refine asg_ss (d := .tup (X.drop (p + n))) ?_ (by simp) rfl
        rw [evE_slLo]
        show R.ok (D.tup (cutL (X.drop p) (some (n : Int)) none)) = _
        rw [cut_lo, List.drop_drop]
    | out n =>
      have hu : p + (n + usedC cs) ≤ X.length := hu
      have hn : n ≤ (X.drop p).length := by rw [List.length_drop]; omega
      refine step f (p + n) rfl (by show p + (n + usedC cs) = _; omega) ?_
      refine iff_nx (b := false) rfl rfl (iff_nx (b := false) rfl ?_ rfl)
      refine iff_nx (num wOut n hc hn) rfl ?_
      refine iff_nx (b := false) rfl rfl ?_
      refine asg_ss (d := .tup (X.drop (p + n))) ?_ (by simp) rfl
      rw [evE_slLo]
      show R.ok (D.tup (cutL (X.drop p) (some (n : Int)) none)) = _
      rw [cut_lo, List.drop_drop]
    | inn xs =>
      have h : f.length + (xs ++ outsC X p cs).length ≤ 16777216 := h
      rw [List.length_append] at h
      refine step (f ++ xs) p (by rw [List.append_assoc]; rfl) (by show p + (0 + usedC cs) = _; omega) ?_
      refine iff_nx (b := false) rfl rfl (iff_nx (b := true) rfl ?_ rfl)
      have hne : xs ≠ [] := hc
      refine iff_nx (b := false) (or_t rfl (fun _ => ?_) (fun z => nomatch z)) rfl ?_
      · refine cmp_t (x := .int xs.length) (y := .int 0) rfl rfl ?_
        rw [eq_ii]
        congr 2
        exact beq_eq_false_iff_ne.mpr (by have := List.length_pos_iff.mpr hne; omega)
      · exact asg_ss (d := .tup (f ++ xs)) (bin_e (o := .add) (x := .tup f) (y := .tup xs) rfl rfl (add_tt (by omega))) (by simp) rfl
theorem led_at (hT : T 24 = some (.ir ir_law_led)) {X : List D} {cs : List Ch} (hp : ∀ c ∈ cs, c.pos) (hu : usedC cs = X.length) (hb : (outsC X 0 cs).length ≤ 16777216) : At T 1 24 [.tup X, .tup (cs.map Ch.d)] (.ok (.tup (outsC X 0 cs))) := by
  refine At.step hT fun j _ => evF_st (ρ := [.val (.tup X), .val (.tup (cs.map Ch.d)), .un, .un]) rfl rfl ?_
  obtain ⟨b3, e⟩ := led_go (cl := callN T j) (X := X) (s := .val (.tup (cs.map Ch.d))) cs [] 0 .un hp (by omega) (by simpa using hb)
  refine asg_ss (d := .tup []) rfl (by simp) ?_
  refine for_ss (ds := [.tup (cs.map Ch.d)]) rfl (seq_t _) e ?_
  have z : X.drop (0 + usedC cs) = [] := by rw [Nat.zero_add, hu]; exact List.drop_length
  rw [z]
  exact iff_no rfl (ret_ss rfl)
/-! ### the longest row that both have, by the law's table -/
theorem lcN_snoc (us vs : List Nat) (x y : Nat) : lcN (us ++ [x]) (vs ++ [y]) = if x = y then lcN us vs + 1 else max (lcN us (vs ++ [y])) (lcN (us ++ [x]) vs) := by
  rw [← lcN_rev, List.reverse_append, List.reverse_append]
  show lcN (x :: us.reverse) (y :: vs.reverse) = _
  rw [lcN_cons, lcN_rev]
  by_cases h : x = y
  · rw [if_pos h, if_pos h]
  · rw [if_neg h, if_neg h]
    have e1 : lcN us.reverse (y :: vs.reverse) = lcN us (vs ++ [y]) := by rw [← lcN_rev us, List.reverse_append]; rfl
    have e2 : lcN (x :: us.reverse) vs.reverse = lcN (us ++ [x]) vs := by rw [← lcN_rev (us ++ [x]), List.reverse_append]; rfl
    rw [e1, e2]
def lrow (us ys : List Nat) (m : Nat) : List D := (List.range (m + 1)).map fun k => .int (lcN us (ys.take k) : Nat)
theorem lrow_get {us ys : List Nat} {m k : Nat} (h : k ≤ m) : (lrow us ys m)[k]? = some (.int (lcN us (ys.take k) : Nat)) := by
  unfold lrow
  rw [List.getElem?_map, List.getElem?_range (by omega)]; rfl
theorem lrow_len (us ys : List Nat) (m : Nat) : (lrow us ys m).length = m + 1 := by unfold lrow; simp
theorem lrow_snoc (us ys : List Nat) (m : Nat) : lrow us ys (m + 1) = lrow us ys m ++ [.int (lcN us (ys.take (m + 1)) : Nat)] := by
  unfold lrow
  rw [List.range_succ, List.map_append]; rfl
def lgI' : List S := [.iff (.cmp .eq (.v 3) (.v 6)) [.app 4 (.bin .add (.idx (.idx (.v 2) (.neg (.c (.int 1)))) (.v 5)) (.c (.int 1)))] [.app 4 (.pr .max2 [(.idx (.idx (.v 2) (.neg (.c (.int 1)))) (.bin .add (.v 5) (.c (.int 1)))), (.idx (.v 4) (.v 5))])]]
def lgB : List S := [.asg 4 true (.lst [(.c (.int 0))]), .for (.tp [(.nm 5), (.nm 6)]) .enum [(.v 1)] lgI', .frz 4, .app 2 (.v 4)]
theorem enum_get {xs : List D} : ∀ {k i : Nat} {d : D}, (enumL k xs)[i]? = some d → ∃ e, xs[i]? = some e ∧ d = .tup [.int (k + i : Nat), e] := by
  induction xs with
  | nil => intro k i d h; simp [enumL] at h
  | cons x xs ih =>
    intro k i d h
    cases i with
    | zero =>
      have h : some (D.tup [.int k, x]) = some d := h
      exact ⟨x, rfl, (Option.some.inj h).symm⟩
    | succ i =>
      obtain ⟨e, h1, h2⟩ := ih (k := k + 1) (i := i) (d := d) h
      refine ⟨e, h1, ?_⟩
      rw [h2]
      congr 3
      omega
theorem enum_len' (xs : List D) : ∀ k, (enumL k xs).length = xs.length := by
  induction xs with
  | nil => intro k; rfl
  | cons x xs ih => intro k; show (enumL (k + 1) xs).length + 1 = _; rw [ih]; rfl
theorem longest_at (hT : T 28 = some (.ir ir_law_longest)) {xs ys : List Nat} (hx : Sm xs) (hy : Sm ys) : At T 1 28 [.tup (encB xs), .tup (encB ys)] (.ok (.int (lcN xs ys : Nat))) := by
  have lx := hx.ln
  have ly := hy.ln
  refine At.step hT fun j _ => evF_st (ρ := [.val (.tup (encB xs)), .val (.tup (encB ys)), .un, .un, .un, .un, .un]) rfl rfl ?_
  have first : evE (callN T j) (.lst [(.lc (.nm 5) .rng1 [(.bin .add (.pr .len [(.v 1)]) (.c (.int 1)))] [] (.c (.int 0)))]) [.val (.tup (encB xs)), .val (.tup (encB ys)), .un, .un, .un, .un, .un] = .ok (.lst [.lst (lrow [] ys ys.length)]) := by
    refine lst_e (es_1 ?_)
    have e : lrow [] ys ys.length = ((List.range (ys.length + 1)).map fun (k : Nat) => D.int k).map fun _ => D.int 0 := by
      unfold lrow
      rw [List.map_map]
      refine List.map_congr_left fun k _ => ?_
      rw [lcN_nil]; rfl
    rw [e]
    exact lc_ev (len1_e (X := encB ys) rfl) (by rw [encB_len]; exact rng1_n (by omega)) rfl (lcGo_map (g := fun _ => D.int 0) fun x hx => by
      obtain ⟨k, _, rfl⟩ := List.mem_map.mp hx
      exact ⟨_, rfl, rfl, rfl⟩) (by simp; omega)
  obtain ⟨ρ', e, rows, b3, b4, b5, b6, rfl, hl⟩ := forGo_L (t := .nm 3) (body := evSs (callN T j) lgB) (enc := blk) (fun done ρ => ∃ rows b3 b4 b5 b6, ρ = [.val (.tup (encB xs)), .val (.tup (encB ys)), .own (rows ++ [.lst (lrow done ys ys.length)]), b3, b4, b5, b6] ∧ rows.length = done.length) xs [] (ρ := [.val (.tup (encB xs)), .val (.tup (encB ys)), .own [.lst (lrow [] ys ys.length)], .un, .un, .un, .un]) (by
    rintro pre x post ρ e ⟨rows, b3, b4, b5, b6, rfl, hl⟩
    have e : xs = pre ++ x :: post := e
    have hx4 : x < 4 := hx.lt x (by rw [e]; simp)
    have lp : pre.length < 100 := by have := congrArg List.length e; simp at this; omega
    refine ⟨_, rfl, [.val (.tup (encB xs)), .val (.tup (encB ys)), .own (rows ++ [.lst (lrow pre ys ys.length)] ++ [.lst (lrow (pre ++ [x]) ys ys.length)]), .val (blk x), .val (.lst (lrow (pre ++ [x]) ys ys.length)), (if ys.length = 0 then b5 else .val (.int ((ys.length - 1 : Nat) : Int))), (if h : ys.length = 0 ∨ ys.length < ys.length then b6 else .val (blk (ys.getD (ys.length - 1) 0)))], ?_, _, _, _, _, _, rfl, by simp [hl]⟩
    refine ss_nx (ρ' := [.val (.tup (encB xs)), .val (.tup (encB ys)), .own (rows ++ [.lst (lrow pre ys ys.length)]), .val (blk x), .own (lrow (pre ++ [x]) ys 0), b5, b6]) (by
      have : lrow (pre ++ [x]) ys 0 = [.int 0] := by unfold lrow; show [D.int ((lcN (pre ++ [x]) (ys.take 0) : Nat) : Int)] = _; rw [List.take_zero, lcN_nil2]; rfl
      rw [this]; rfl) ?_
    obtain ⟨ρ2, e2, h2⟩ := forGo_P (t := .tp [.nm 5, .nm 6]) (body := evSs (callN T j) lgI') (fun k ρ => ρ = [.val (.tup (encB xs)), .val (.tup (encB ys)), .own (rows ++ [.lst (lrow pre ys ys.length)]), .val (blk x), .own (lrow (pre ++ [x]) ys k), (if k = 0 then b5 else .val (.int ((k - 1 : Nat) : Int))), (if h : k = 0 ∨ ys.length < k then b6 else .val (blk (ys.getD (k - 1) 0)))]) (xs := enumL 0 (encB ys)) (ρ := [.val (.tup (encB xs)), .val (.tup (encB ys)), .own (rows ++ [.lst (lrow pre ys ys.length)]), .val (blk x), .own (lrow (pre ++ [x]) ys 0), b5, b6]) 0 rfl (by
      rintro k d ρ hd h
      obtain ⟨y0, hy0, rfl⟩ := enum_get hd
      have hk : k < ys.length := by
        have := (List.getElem?_eq_some_iff.mp hy0).1
        rwa [encB_len] at this
      have hyk := encB_get hk
      rw [hyk] at hy0
      have e0 : blk ys[k] = y0 := Option.some.inj hy0
      subst e0
      rw [Nat.zero_add] at h ⊢
      subst h
      have tk : ys.take (k + 1) = ys.take k ++ [ys[k]] := by rw [List.take_succ, List.getElem?_eq_getElem hk]; rfl
      refine ⟨[.val (.tup (encB xs)), .val (.tup (encB ys)), .own (rows ++ [.lst (lrow pre ys ys.length)]), .val (blk x), .own (lrow (pre ++ [x]) ys k), .val (.int (k : Nat)), .val (blk ys[k])], rfl, _, .inl ?_, rfl⟩
      have tt : evT (callN T j) (.cmp .eq (.v 3) (.v 6)) [.val (.tup (encB xs)), .val (.tup (encB ys)), .own (rows ++ [.lst (lrow pre ys ys.length)]), .val (blk x), .own (lrow (pre ++ [x]) ys k), .val (.int (k : Nat)), .val (blk ys[k])] = .ok (decide (x = ys[k])) := cmp_t (x := blk x) (y := blk ys[k]) rfl rfl (blk_eq hx4 (hy.get hk))
      have last : evE (callN T j) (.idx (.v 2) (.neg (.c (.int 1)))) [.val (.tup (encB xs)), .val (.tup (encB ys)), .own (rows ++ [.lst (lrow pre ys ys.length)]), .val (blk x), .own (lrow (pre ++ [x]) ys k), .val (.int (k : Nat)), .val (blk ys[k])] = .ok (.lst (lrow pre ys ys.length)) := by
        rw [evE_idx]
        show ((R.ok (D.int (-1))).bind fun y => idxD (.lst (rows ++ [.lst (lrow pre ys ys.length)])) y) = _
        exact idx_last
      have fin : ∀ n : Nat, lcN (pre ++ [x]) (ys.take (k + 1)) = n → lrow (pre ++ [x]) ys (k + 1) = lrow (pre ++ [x]) ys k ++ [.int (n : Nat)] := fun n h => by rw [lrow_snoc, h]
      have ev6 : (if h : k + 1 = 0 ∨ ys.length < k + 1 then b6 else SV.val (blk (ys.getD (k + 1 - 1) 0))) = .val (blk ys[k]) := by
        have g : ys.getD (k + 1 - 1) 0 = ys[k] := by
          rw [Nat.add_sub_cancel, List.getD_eq_getElem?_getD, List.getElem?_eq_getElem hk]
          rfl
        rw [dif_neg (by omega), g]
      have ev5 : (if k + 1 = 0 then b5 else SV.val (.int ((k + 1 - 1 : Nat) : Int))) = .val (.int (k : Nat)) := by rw [if_neg (by omega)]; rfl
      rw [ev5, ev6]
      by_cases q : x = ys[k]
      · rw [decide_eq_true q] at tt
        rw [fin (lcN pre (ys.take k) + 1) (by rw [tk, lcN_snoc, if_pos q])]
        refine iff_nx tt (app_ss (xs := lrow (pre ++ [x]) ys k) (d := .int ((lcN pre (ys.take k) + 1 : Nat) : Int)) rfl ?_ (by rw [lrow_len]; omega) rfl) rfl
        refine bin_e (o := .add) (x := .int (lcN pre (ys.take k) : Nat)) (y := .int 1) ?_ rfl rfl
        rw [bor_idx, evE_idx, bor_idx, last, bnd_ok]
        show idxD (.lst (lrow pre ys ys.length)) (.int (k : Nat)) = _
        exact idx_l (lrow_get (by omega))
      · rw [decide_eq_false q] at tt
        rw [fin (max (lcN pre (ys.take (k + 1))) (lcN (pre ++ [x]) (ys.take k))) (by rw [tk, lcN_snoc, if_neg q])]
        refine iff_nx tt (app_ss (xs := lrow (pre ++ [x]) ys k) (d := .int ((max (lcN pre (ys.take (k + 1))) (lcN (pre ++ [x]) (ys.take k)) : Nat) : Int)) rfl ?_ (by rw [lrow_len]; omega) rfl) rfl
        refine pr_2 (d := .int (lcN pre (ys.take (k + 1)) : Nat)) (g := .int (lcN (pre ++ [x]) (ys.take k) : Nat)) rfl rfl ?_ ?_ ?_
        · rw [evE_idx, bor_idx, last, bnd_ok]
          show idxD (.lst (lrow pre ys ys.length)) (.int ((k + 1 : Nat) : Int)) = _
          exact idx_l (lrow_get (by omega))
        · show idxD (.lst (lrow (pre ++ [x]) ys k)) (.int (k : Nat)) = _
          exact idx_l (lrow_get (Nat.le_refl _))
        · show R.ok (D.int (if ((lcN (pre ++ [x]) (ys.take k) : Nat) : Int) > ((lcN pre (ys.take (k + 1)) : Nat) : Int) then ((lcN (pre ++ [x]) (ys.take k) : Nat) : Int) else ((lcN pre (ys.take (k + 1)) : Nat) : Int))) = _
          have g : (if ((lcN (pre ++ [x]) (ys.take k) : Nat) : Int) > ((lcN pre (ys.take (k + 1)) : Nat) : Int) then ((lcN (pre ++ [x]) (ys.take k) : Nat) : Int) else ((lcN pre (ys.take (k + 1)) : Nat) : Int)) = ((max (lcN pre (ys.take (k + 1))) (lcN (pre ++ [x]) (ys.take k)) : Nat) : Int) := by
            split <;> omega
          rw [g])
    rw [Nat.zero_add, enum_len', encB_len] at h2
    subst h2
    refine for_ss (ds := [.tup (encB ys)]) rfl (enum_t _) e2 ?_
    refine ss_nx (ρ' := [.val (.tup (encB xs)), .val (.tup (encB ys)), .own (rows ++ [.lst (lrow pre ys ys.length)]), .val (blk x), .val (.lst (lrow (pre ++ [x]) ys ys.length)), (if ys.length = 0 then b5 else .val (.int ((ys.length - 1 : Nat) : Int))), (if h : ys.length = 0 ∨ ys.length < ys.length then b6 else .val (blk (ys.getD (ys.length - 1) 0)))]) rfl ?_
    refine app_ss (xs := rows ++ [.lst (lrow pre ys ys.length)]) (d := .lst (lrow (pre ++ [x]) ys ys.length)) rfl rfl (by simp; omega) ?_
    rfl) ⟨[], _, _, _, _, rfl, rfl⟩
  refine ss_nx (ρ' := [.val (.tup (encB xs)), .val (.tup (encB ys)), .own [.lst (lrow [] ys ys.length)], .un, .un, .un, .un]) (by rw [evS_asg, first]; rfl) ?_
  refine for_ss (ds := [.tup (encB xs)]) rfl (seq_t _) e (ret_ss ?_)
  rw [bor_idx, evE_idx, bor_idx, evE_idx]
  show (((idxD (.lst (rows ++ [.lst (lrow ([] ++ xs) ys ys.length)])) (.int (-1))).bind fun x => (R.ok (D.int (-1))).bind fun y => idxD x y)) = _
  rw [idx_last, bnd_ok, bnd_ok]
  have e1 : lrow ([] ++ xs) ys ys.length = (List.range ys.length).map (fun k => D.int (lcN xs (ys.take k) : Nat)) ++ [.int (lcN xs ys : Nat)] := by
    unfold lrow
    rw [List.range_succ, List.map_append, List.nil_append]
    show _ ++ [D.int ((lcN xs (ys.take ys.length) : Nat) : Int)] = _
    rw [List.take_length]
  rw [e1, idx_last]
/-! ### the law -/
def idxS (c : Int) (m : Nat) : List Nat := (List.range (mix c 9767 (m + 1)).toNat).map fun (k : Nat) => (mix (c + 7 * k) 9769 4).toNat
theorem alike_enc (c : Int) (m : Nat) : alikeS c m = encB (idxS c m) := by
  unfold alikeS encB idxS
  rw [List.map_map]
  rfl
theorem idx_sm (c : Int) (m : Nat) (hm : m ≤ 100) : Sm (idxS c m) ∧ (idxS c m).length ≤ m := by
  have h2 := mix_lt (c := c) (p := 9767) (m := m + 1) (by omega)
  have hl : (idxS c m).length ≤ m := by unfold idxS; rw [List.length_map, List.length_range]; omega
  refine ⟨⟨fun x hx => ?_, by omega⟩, hl⟩
  obtain ⟨k, _, rfl⟩ := List.mem_map.mp hx
  have h3 := mix_nn (c := c + 7 * k) (p := 9769) (m := 4) (by omega)
  have h4 := mix_lt (c := c + 7 * k) (p := 9769) (m := 4) (by omega)
  omega
theorem Sm.sub {xs ys : List Nat} (h : Sm xs) (hs : ∀ y ∈ ys, y ∈ xs) (hl : ys.length ≤ 100) : Sm ys := ⟨fun y hy => h.lt y (hs y hy), hl⟩
theorem Sm.app {xs ys : List Nat} (h : Sm xs) (q : Sm ys) (hl : (xs ++ ys).length ≤ 100) : Sm (xs ++ ys) := ⟨fun x hx => (List.mem_append.mp hx).elim (h.lt x) (q.lt x), hl⟩
theorem blk_pl {i : Nat} (h : i < 4) : (blk i).pl = true ∧ (blk i).depth ≤ 5 := by
  have key : ∀ a : Fin 4, (blk a.val).pl = true ∧ (blk a.val).depth ≤ 5 := by decide +kernel
  exact key ⟨i, h⟩
theorem encB_pl : ∀ {xs : List Nat}, (∀ x ∈ xs, x < 4) → D.pls (encB xs) = true ∧ D.depths (encB xs) ≤ 5
  | [], _ => ⟨rfl, Nat.zero_le _⟩
  | x :: xs, h => by
    have a := blk_pl (h x List.mem_cons_self)
    have b := encB_pl fun y hy => h y (List.mem_cons_of_mem _ hy)
    refine ⟨?_, ?_⟩
    · show ((blk x).pl && D.pls (encB xs)) = true
      rw [a.1, b.1]; rfl
    · show max (blk x).depth (D.depths (encB xs)) ≤ 5
      omega
theorem encT_pl {xs : List Nat} (h : Sm xs) : (D.tup (encB xs)).pl = true ∧ (D.tup (encB xs)).depth ≤ 6 := by
  have a := encB_pl h.lt
  have l := h.ln
  refine ⟨?_, by show D.depths (encB xs) + 1 ≤ 6; omega⟩
  show (decide ((encB xs).length ≤ 16777216) && D.pls (encB xs)) = true
  rw [a.1, encB_len, decide_eq_true (by omega)]; rfl
structure DrCg (T : Tab) : Prop where
  chg : T 60 = some (.ir ir_changes_changed)
  cgs : T 61 = some (.ir ir_changes_changes)
  how : T 62 = some (.ir ir_changes_how_many)
  joi : T 63 = some (.ir ir_changes_joined)
  tbl : T 64 = some (.ir ir_changes_table)
theorem cgs_at (t : DrCg T) {xs ys : List Nat} (hx : Sm xs) (hy : Sm ys) : At T 2 61 [.tup (encB xs), .tup (encB ys)] (.ok (.tup ((leastC xs ys).map Ch.d))) := changes_at t.cgs t.tbl t.joi hx hy
theorem chgd_at (t : DrCg T) {xs ys : List Nat} (hx : Sm xs) (hy : Sm ys) : At T 1 60 [.tup (encB xs), .tup ((leastC xs ys).map Ch.d)] (.ok (.tup (encB ys))) := by
  have lo := least_ok xs ys
  have lx := hx.ln
  have ly := hy.ln
  have li := lo.ins
  have := changed_ok t.chg (doc := encB xs) (cs := leastC xs ys) (by rw [lo.use]; omega) (by rw [lo.use, encB_len])
  rw [lo.out] at this
  exact this
theorem how_l (t : DrCg T) {xs ys : List Nat} (hx : Sm xs) (hy : Sm ys) : At T 1 62 [.tup ((leastC xs ys).map Ch.d)] (.ok (.int (dsN xs ys : Nat))) := by
  have lo := least_ok xs ys
  have lx := hx.ln
  have ly := hy.ln
  have ll := lo.ln
  have := how_at t.how (cs := leastC xs ys) (by omega)
  rw [lo.hm] at this
  exact this
structure DrK20 (T : Tab) : Prop extends DrCg T where
  cell : T 4 = some (.ir ir_law_cell)
  mix : T 32 = some (.ir ir_law_mix)
  alike : T 1 = some (.ir ir_law_alike)
  same : T 46 = some (.ir ir_law_same)
  led : T 24 = some (.ir ir_law_led)
  lon : T 28 = some (.ir ir_law_longest)
  law : T 86 = some (.ir ir_law_k20)
def k20I : List S := [.asg 9 false (.call 61 [(.v 7), (.v 8)]), .iff (.or (.not (.pr (.isT false false false true false) [(.v 9)])) (.not (.call 46 [(.call 24 [(.v 7), (.v 9)]), (.v 8)]))) [.ret (.c (.bl false))] [], .asg 10 false (.bin .sub (.bin .add (.pr .len [(.v 7)]) (.pr .len [(.v 8)])) (.bin .mul (.c (.int 2)) (.call 28 [(.v 7), (.v 8)]))), .iff (.not (.call 46 [(.tup [(.call 62 [(.v 9)]), (.call 60 [(.v 7), (.v 9)])]), (.tup [(.v 10), (.v 8)])])) [.ret (.c (.bl false))] []]
theorem k20_in (t : DrK20 T) {j : Nat} (hj : 9 ≤ j) {xs ys : List Nat} (hx : Sm xs) (hy : Sm ys) (a0 a1 a2 a3 a4 a5 a6 a9 a10 : SV) :
    ∃ b9 b10, evSs (callN T j) k20I [a0, a1, a2, a3, a4, a5, a6, .val (.tup (encB xs)), .val (.tup (encB ys)), a9, a10] = .ok (.nx [a0, a1, a2, a3, a4, a5, a6, .val (.tup (encB xs)), .val (.tup (encB ys)), b9, b10]) := by
  have lo := least_ok xs ys
  have lx := hx.ln
  have ly := hy.ln
  have cg := cgs_at t.toDrCg hx hy j (by omega)
  have ld := led_at t.led (X := encB xs) (cs := leastC xs ys) lo.pos (by rw [lo.use, encB_len]) (by rw [lo.out, encB_len]; omega) j (by omega)
  rw [lo.out] at ld
  have hm := how_l t.toDrCg hx hy j (by omega)
  have ch := chgd_at t.toDrCg hx hy j (by omega)
  have ln := longest_at t.lon hx hy j (by omega)
  have py := encT_pl hy
  have s1 := same_at t.same 6 _ py.1 py.2 j (by omega)
  have ds := ds_lc xs ys
  have lc := lcN_le xs ys
  have s2 := same_at t.same 7 (.tup [.int (dsN xs ys : Nat), .tup (encB ys)]) (by show (true && (true && ((D.tup (encB ys)).pl && true))) = true; rw [py.1]; rfl) (by show max 0 (max (D.tup (encB ys)).depth 0) + 1 ≤ 7; omega) j (by omega)
  generalize leastC xs ys = cs at *
  refine ⟨.val (.tup (cs.map Ch.d)), .val (.int (dsN xs ys : Nat)), ?_⟩
  refine asg_ss (d := .tup (cs.map Ch.d)) (call_2 (e := .v 7) (e2 := .v 8) rfl rfl cg) (by simp) ?_
  have t2 : evT (callN T j) (.not (.call 46 [(.call 24 [(.v 7), (.v 9)]), (.v 8)])) [a0, a1, a2, a3, a4, a5, a6, .val (.tup (encB xs)), .val (.tup (encB ys)), .val (.tup (cs.map Ch.d)), a10] = .ok false := by
    rw [evT_not, evT_call, call_2 (e := .call 24 [(.v 7), (.v 9)]) (e2 := .v 8) (call_2 (e := .v 7) (e2 := .v 9) rfl rfl ld) rfl s1]; rfl
  refine iff_no (or_ff rfl t2) ?_
  refine asg_ss (d := .int (dsN xs ys : Nat)) ?_ (by simp) ?_
  · have l1 : evE (callN T j) (.pr .len [(.v 7)]) [a0, a1, a2, a3, a4, a5, a6, .val (.tup (encB xs)), .val (.tup (encB ys)), .val (.tup (cs.map Ch.d)), a10] = .ok (.int (xs.length : Int)) := by rw [← encB_len xs]; rfl
    have l2 : evE (callN T j) (.pr .len [(.v 8)]) [a0, a1, a2, a3, a4, a5, a6, .val (.tup (encB xs)), .val (.tup (encB ys)), .val (.tup (cs.map Ch.d)), a10] = .ok (.int (ys.length : Int)) := by rw [← encB_len ys]; rfl
    have e := bin_e (cl := callN T j) (ρ := [a0, a1, a2, a3, a4, a5, a6, .val (.tup (encB xs)), .val (.tup (encB ys)), .val (.tup (cs.map Ch.d)), a10]) (o := .sub) (a := .bin .add (.pr .len [(.v 7)]) (.pr .len [(.v 8)])) (b := .bin .mul (.c (.int 2)) (.call 28 [(.v 7), (.v 8)])) (by rw [bor_bin]; exact bin_e (o := .add) (by rw [bor_pr]; exact l1) (by rw [bor_pr]; exact l2) (add_ii _ _)) (by rw [bor_bin]; exact bin_e (o := .mul) (x := .int 2) rfl (by rw [bor_call]; exact call_2 (e := .v 7) (e2 := .v 8) rfl rfl ln) (mul_ii rfl)) (sub_ii _ _)
    refine Eq.trans e ?_
    congr 2
    omega
  · refine iff_no ?_ rfl
    rw [evT_not, evT_call]
    rw [call_2 (cl := callN T j) (e := .tup [(.call 62 [(.v 9)]), (.call 60 [(.v 7), (.v 9)])]) (e2 := .tup [(.v 10), (.v 8)]) (tup_e (es_2 (call_1 (e := .v 9) rfl hm) (call_2 (e := .v 7) (e2 := .v 9) rfl rfl ch))) (tup_e (es_2 rfl rfl)) s2]
    rfl
def pairsN (xs ys : List Nat) (at_ : Nat) : List (List Nat × List Nat) := [(xs, ys), (ys, xs), (xs, xs), (xs, []), ([], xs), (xs, xs.reverse), (xs, xs.take at_ ++ ys.take 2 ++ xs.drop (at_ + 1))]
def pairD (p : List Nat × List Nat) : D := .tup [.tup (encB p.1), .tup (encB p.2)]
theorem pairs_sm {xs ys : List Nat} (hx : Sm xs) (hy : Sm ys) (lx : xs.length ≤ 8) (ly : ys.length ≤ 8) (at_ : Nat) : ∀ p ∈ pairsN xs ys at_, Sm p.1 ∧ Sm p.2 := by
  have h0 : Sm [] := ⟨(fun x h => nomatch h), by simp⟩
  have hr : Sm xs.reverse := hx.sub (fun y h => List.mem_reverse.mp h) (by rw [List.length_reverse]; omega)
  have h1 : Sm (xs.take at_) := hx.sub (fun y h => List.mem_of_mem_take h) (by rw [List.length_take]; omega)
  have h2 : Sm (ys.take 2) := hy.sub (fun y h => List.mem_of_mem_take h) (by rw [List.length_take]; omega)
  have h3 : Sm (xs.drop (at_ + 1)) := hx.sub (fun y h => List.mem_of_mem_drop h) (by rw [List.length_drop]; omega)
  have hm : Sm (xs.take at_ ++ ys.take 2 ++ xs.drop (at_ + 1)) := (h1.app h2 (by simp; omega)).app h3 (by simp; omega)
  intro p hp
  unfold pairsN at hp
  simp only [List.mem_cons, List.not_mem_nil, or_false] at hp
  rcases hp with rfl | rfl | rfl | rfl | rfl | rfl | rfl
  · exact ⟨hx, hy⟩
  · exact ⟨hy, hx⟩
  · exact ⟨hx, hx⟩
  · exact ⟨hx, h0⟩
  · exact ⟨h0, hx⟩
  · exact ⟨hx, hr⟩
  · exact ⟨hx, hm⟩
def k20B : List S := [.asg 2 false (.bin .add (.call 4 [(.v 0), (.v 1)]) (.v 1)), .asg 3 false (.call 1 [(.v 2), (.c (.int 8))]), .asg 4 false (.call 1 [(.call 4 [(.v 0), (.bin .add (.c (.int 3)) (.v 1))]), (.c (.int 8))]), .asg 5 true (.lst [(.tup [(.v 3), (.v 4)]), (.tup [(.v 4), (.v 3)]), (.tup [(.v 3), (.v 3)]), (.tup [(.v 3), (.tup [])]), (.tup [(.tup []), (.v 3)]), (.tup [(.v 3), (.rev (.v 3))])]), .asg 6 false (.call 32 [(.v 2), (.c (.int 9811)), (.bin .add (.pr .len [(.v 3)]) (.c (.int 1)))]), .app 5 (.tup [(.v 3), (.bin .add (.bin .add (.slHi (.v 3) (.v 6)) (.slHi (.v 4) (.c (.int 2)))) (.slLo (.v 3) (.bin .add (.v 6) (.c (.int 1)))))]), .frz 5, .for (.tp [(.nm 7), (.nm 8)]) .seq [(.v 5)] k20I]
theorem k20_turn (t : DrK20 T) {j : Nat} (hj : 9 ≤ j) (ns : List Int) (k : Nat) (a2 a3 a4 a5 a6 a7 a8 a9 a10 : SV) : ∃ b2 b3 b4 b5 b6 b7 b8 b9 b10, evSs (callN T j) k20B [.val (.scr ns), .val (.int k), a2, a3, a4, a5, a6, a7, a8, a9, a10] = .ok (.nx [.val (.scr ns), .val (.int k), b2, b3, b4, b5, b6, b7, b8, b9, b10]) := by
  have cx := cell_at t.cell ns k j (by omega)
  have cy := cell_at t.cell ns (3 + k) j (by omega)
  generalize hcell : cellS ns k + (k : Int) = cell
  have ax := alike_at t.mix t.alike cell 8 (by decide) j (by omega)
  have ay := alike_at t.mix t.alike (cellS ns (3 + k)) 8 (by decide) j (by omega)
  rw [alike_enc] at ax ay
  obtain ⟨hx, lx⟩ := idx_sm cell 8 (by decide)
  obtain ⟨hy, ly⟩ := idx_sm (cellS ns (3 + k)) 8 (by decide)
  generalize idxS cell 8 = xs at *
  generalize idxS (cellS ns (3 + k)) 8 = ys at *
  have mx := mix_at t.mix (c := cell) (p := 9811) (m := (xs.length : Int) + 1) (by decide) (by decide) (by omega) j (by omega)
  have m0 := mix_nn (c := cell) (p := 9811) (m := (xs.length : Int) + 1) (by omega)
  obtain ⟨at_, hat⟩ : ∃ n : Nat, mix cell 9811 ((xs.length : Int) + 1) = n := ⟨(mix cell 9811 ((xs.length : Int) + 1)).toNat, by omega⟩
  rw [hat] at mx
  have ps := pairs_sm hx hy lx ly at_
  obtain ⟨ρ', e, b7, b8, b9, b10, rfl⟩ := forGo_L (t := .tp [.nm 7, .nm 8]) (body := evSs (callN T j) k20I) (enc := pairD) (fun done ρ => ∃ b7 b8 b9 b10, ρ = [.val (.scr ns), .val (.int k), .val (.int cell), .val (.tup (encB xs)), .val (.tup (encB ys)), .val (.lst ((pairsN xs ys at_).map pairD)), .val (.int at_), b7, b8, b9, b10]) (pairsN xs ys at_) [] (ρ := [.val (.scr ns), .val (.int k), .val (.int cell), .val (.tup (encB xs)), .val (.tup (encB ys)), .val (.lst ((pairsN xs ys at_).map pairD)), .val (.int at_), a7, a8, a9, a10]) (by
    rintro pre p post ρ e ⟨b7, b8, b9, b10, rfl⟩
    have hp : p ∈ pairsN xs ys at_ := by rw [show pairsN xs ys at_ = pre ++ p :: post from e]; simp
    obtain ⟨h1, h2⟩ := ps p hp
    obtain ⟨c9, c10, e2⟩ := k20_in t hj h1 h2 (.val (.scr ns)) (.val (.int k)) (.val (.int cell)) (.val (.tup (encB xs))) (.val (.tup (encB ys))) (.val (.lst ((pairsN xs ys at_).map pairD))) (.val (.int at_)) b9 b10
    exact ⟨_, rfl, _, e2, _, _, _, _, rfl⟩) ⟨_, _, _, _, rfl⟩
  refine ⟨.val (.int cell), .val (.tup (encB xs)), .val (.tup (encB ys)), .val (.lst ((pairsN xs ys at_).map pairD)), .val (.int at_), b7, b8, b9, b10, ?_⟩
  refine asg_ss (d := .int cell) (bin_e (o := .add) (by rw [bor_call]; exact call_2 (e := .v 0) (e2 := .v 1) rfl rfl cx) rfl (by rw [add_ii, hcell])) (by simp) ?_
  refine asg_ss (d := .tup (encB xs)) (call_2 (e := .v 2) (e2 := .c (.int 8)) rfl rfl ax) (by simp) ?_
  refine asg_ss (d := .tup (encB ys)) (call_2 (e2 := .c (.int 8)) (d := .int (cellS ns (3 + k))) (call_2 (e := .v 0) (e2 := .bin .add (.c (.int 3)) (.v 1)) (d2 := .int ((3 + k : Nat) : Int)) rfl rfl cy) rfl ay) (by simp) ?_
  refine ss_nx (ρ' := [.val (.scr ns), .val (.int k), .val (.int cell), .val (.tup (encB xs)), .val (.tup (encB ys)), .own ([(xs, ys), (ys, xs), (xs, xs), (xs, []), ([], xs), (xs, xs.reverse)].map pairD), a6, a7, a8, a9, a10]) ?_ ?_
  · have er : (encB xs).reverse = encB xs.reverse := by unfold encB; rw [List.map_reverse]
    show R.ok (Fl.nx [_, _, _, _, _, SV.own [_, _, _, _, _, .tup [.tup (encB xs), .tup (encB xs).reverse]], _, _, _, _, _]) = _
    rw [er]
    rfl
  refine asg_ss (d := .int at_) ?_ (by simp) ?_
  · rw [evE_call, es_3 (a := .v 2) (b := .c (.int 9811)) (c := .bin .add (.pr .len [(.v 3)]) (.c (.int 1))) (x := .int cell) (y := .int 9811) (z := .int ((xs.length : Int) + 1)) rfl rfl (by rw [← encB_len xs]; rfl), bnd_ok]
    exact mx
  refine app_ss (xs := [(xs, ys), (ys, xs), (xs, xs), (xs, []), ([], xs), (xs, xs.reverse)].map pairD) (d := pairD (xs, xs.take at_ ++ ys.take 2 ++ xs.drop (at_ + 1))) rfl ?_ (by simp) ?_
  · refine tup_e (es_2 rfl (d := .tup (encB xs)) (g := .tup (encB (xs.take at_ ++ ys.take 2 ++ xs.drop (at_ + 1)))) ?_)
    have e9 : encB (xs.take at_ ++ ys.take 2 ++ xs.drop (at_ + 1)) = (encB xs).take at_ ++ (encB ys).take 2 ++ (encB xs).drop (at_ + 1) := by
      unfold encB
      rw [List.map_append, List.map_append, List.map_take, List.map_take, List.map_drop]
    have l1 : (encB xs).length ≤ 8 := by rw [encB_len]; exact lx
    have l2 : (encB ys).length ≤ 8 := by rw [encB_len]; exact ly
    rw [e9]
    refine bin_e (o := .add) (x := .tup ((encB xs).take at_ ++ (encB ys).take 2)) (y := .tup ((encB xs).drop (at_ + 1))) ?_ ?_ (add_tt (by simp; omega))
    · rw [bor_bin]
      refine bin_e (o := .add) (x := .tup ((encB xs).take at_)) (y := .tup ((encB ys).take 2)) ?_ ?_ (add_tt (by simp; omega))
      · rw [bor_slHi, evE_slHi]
        show R.ok (D.tup (cutL (encB xs) none (some (at_ : Int)))) = _
        rw [cut_hi]
      · rw [bor_slHi, evE_slHi]
        show R.ok (D.tup (cutL (encB ys) none (some ((2 : Nat) : Int)))) = _
        rw [cut_hi]
    · rw [bor_slLo, evE_slLo]
      show R.ok (D.tup (cutL (encB xs) (some ((at_ + 1 : Nat) : Int)) none)) = _
      rw [cut_lo]
  refine ss_nx (ρ' := [.val (.scr ns), .val (.int k), .val (.int cell), .val (.tup (encB xs)), .val (.tup (encB ys)), .val (.lst ((pairsN xs ys at_).map pairD)), .val (.int at_), a7, a8, a9, a10]) rfl ?_
  exact for_ss (ds := [.lst ((pairsN xs ys at_).map pairD)]) rfl (seq_l _) e rfl
theorem k20_true (t : DrK20 T) (ns : List Int) : At T 10 86 [.scr ns] (.ok (.bl true)) := by
  refine At.step t.law fun n hn => evF_st (ρ := [.val (.scr ns), .un, .un, .un, .un, .un, .un, .un, .un, .un, .un]) rfl rfl ?_
  obtain ⟨ρ', e, a1, a2, a3, a4, a5, a6, a7, a8, a9, a10, rfl⟩ := forGo_P (t := .nm 1) (body := evSs (callN T n) k20B)
    (fun i ρ => ∃ a1 a2 a3 a4 a5 a6 a7 a8 a9 a10, ρ = [.val (.scr ns), a1, a2, a3, a4, a5, a6, a7, a8, a9, a10]) (xs := (List.range 3).map fun (k : Nat) => .int k) (ρ := [.val (.scr ns), .un, .un, .un, .un, .un, .un, .un, .un, .un, .un]) 0 ⟨_, _, _, _, _, _, _, _, _, _, rfl⟩ (by
      rintro k d ρ hd ⟨a1, a2, a3, a4, a5, a6, a7, a8, a9, a10, rfl⟩
      have hk : k < 3 := by
        have := (List.getElem?_eq_some_iff.mp hd).1
        simpa using this
      have ed : d = .int k := by
        rw [List.getElem?_map, List.getElem?_range hk] at hd
        exact (Option.some.inj hd).symm
      subst ed
      obtain ⟨b2, b3, b4, b5, b6, b7, b8, b9, b10, e⟩ := k20_turn t hn ns k a2 a3 a4 a5 a6 a7 a8 a9 a10
      exact ⟨_, rfl, _, .inl e, _, _, _, _, _, _, _, _, _, _, rfl⟩)
  have h0 : Sm [] := ⟨(fun x h => nomatch h), by simp⟩
  have p0 := cgs_at t.toDrCg h0 h0 n (by omega)
  refine for_ss (ds := [.int 3]) rfl (rng1_n (n := 3) (by omega)) e (ret_ss ?_)
  rw [bor_cmp]
  have l0 : leastC [] [] = [] := by unfold leastC; rw [stepsN_nn]; rfl
  rw [l0] at p0
  exact cmp_e (x := .tup []) (y := .tup []) (by rw [bor_call]; exact call_2 (e := .tup []) (e2 := .tup []) rfl rfl p0) rfl rfl
end MT
namespace MT
open L2
variable {T : Tab}
/-! ### how far docs are from one another -/
theorem ds_comm (xs ys : List Nat) : dsN xs ys = dsN ys xs := by
  have := ds_lc xs ys
  have := ds_lc ys xs
  have := lcN_comm xs ys
  omega
theorem ds_tri (xs ys zs : List Nat) : dsN xs ys ≤ dsN xs zs + dsN zs ys := by
  have := ds_lc xs ys
  have := ds_lc xs zs
  have := ds_lc zs ys
  have := lcN_tri xs zs ys
  have := lcN_le xs zs
  have := lcN_le zs ys
  omega
theorem ds_pre (ts xs ys : List Nat) : dsN (ts ++ xs) (ts ++ ys) = dsN xs ys := by
  have := ds_lc (ts ++ xs) (ts ++ ys)
  have := ds_lc xs ys
  have := lcN_pre ts xs ys
  simp only [List.length_append] at *
  omega
theorem ds_suf (ts xs ys : List Nat) : dsN (xs ++ ts) (ys ++ ts) = dsN xs ys := by
  have := ds_lc (xs ++ ts) (ys ++ ts)
  have := ds_lc xs ys
  have := lcN_suf ts xs ys
  simp only [List.length_append] at *
  omega
theorem ds_rev (xs ys : List Nat) : dsN xs.reverse ys.reverse = dsN xs ys := by
  have := ds_lc xs.reverse ys.reverse
  have := ds_lc xs ys
  have := lcN_rev xs ys
  simp only [List.length_reverse] at *
  omega
theorem ds_self (xs : List Nat) : dsN xs xs = 0 := by
  have := ds_lc xs xs
  have := lcN_self xs
  omega
theorem eqvs_encB : ∀ {xs : List Nat}, (∀ x ∈ xs, x < 4) → D.eqvs (encB xs) (encB xs) = true
  | [], _ => rfl
  | x :: xs, h => by
    show (D.eqv (blk x) (blk x) && D.eqvs (encB xs) (encB xs)) = true
    rw [blk_eqv (h x List.mem_cons_self) (h x List.mem_cons_self), eqvs_encB fun y hy => h y (List.mem_cons_of_mem _ hy), decide_eq_true rfl]
    rfl
theorem ne_enc {xs : List Nat} (h : Sm xs) : cmpD .ne (.tup (encB xs)) (.tup (encB xs)) = .ok (.bl false) := by
  have p := encT_pl h
  show guardR (shal (.tup (encB xs)) && shal (.tup (encB xs))) (R.ok (D.bl !(D.eqvs (encB xs) (encB xs)))) = _
  have s : shal (.tup (encB xs)) = true := decide_eq_true (by omega)
  rw [s, eqvs_encB h.lt]
  rfl
structure DrK29 (T : Tab) : Prop extends DrCg T where
  cell : T 4 = some (.ir ir_law_cell)
  mix : T 32 = some (.ir ir_law_mix)
  alike : T 1 = some (.ir ir_law_alike)
  far : T 12 = some (.ir ir_law_far)
  law : T 86 = some (.ir ir_law_k29)
theorem far_at (t : DrK29 T) {xs ys : List Nat} (hx : Sm xs) (hy : Sm ys) : At T 3 12 [.tup (encB xs), .tup (encB ys)] (.ok (.int (dsN xs ys : Nat))) := by
  refine At.step t.far fun j hj => evF_st (ρ := [.val (.tup (encB xs)), .val (.tup (encB ys))]) rfl rfl (ret_ss ?_)
  rw [bor_call]
  exact call_1 (call_2 (e := .v 0) (e2 := .v 1) rfl rfl (cgs_at t.toDrCg hx hy j (by omega))) (how_l t.toDrCg hx hy j (by omega))
theorem ne_i {cl : CL} {ρ : Env} {a b : E} {n : Int} (ha : bor ρ a (evE cl a ρ) = .ok (.int n)) (hb : bor ρ b (evE cl b ρ) = .ok (.int n)) : evT cl (.cmp .ne a b) ρ = .ok false := cmp_t ha hb (by rw [ne_ii]; simp)
theorem enc_app (xs ys : List Nat) : encB xs ++ encB ys = encB (xs ++ ys) := by unfold encB; rw [List.map_append]
theorem add_enc {cl : CL} {ρ : Env} {a b : E} {xs ys : List Nat} (ha : bor ρ a (evE cl a ρ) = .ok (.tup (encB xs))) (hb : bor ρ b (evE cl b ρ) = .ok (.tup (encB ys))) (h : xs.length + ys.length ≤ 100) : evE cl (.bin .add a b) ρ = .ok (.tup (encB (xs ++ ys))) := by
  rw [← enc_app]
  exact bin_e ha hb (add_tt (by rw [encB_len, encB_len]; omega))
def k29E (ns : List Int) (k : Nat) (cell : Int) (xs ys zs : List Nat) (a3 a4 a8 a9 : SV) : Env := [.val (.scr ns), .val (.int k), .val (.int cell), a3, a4, .val (.tup (encB xs)), .val (.tup (encB ys)), .val (.tup (encB zs)), a8, a9]
def k29B2 : List S := [.iff (.or (.cmp .ne (.v 3) (.call 12 [(.v 6), (.v 5)])) (.cmp .gt (.v 3) (.bin .add (.call 12 [(.v 5), (.v 7)]) (.call 12 [(.v 7), (.v 6)])))) [.ret (.c (.bl false))] [], .iff (.or (.not (.chain .le .le (.pr .abs [(.bin .sub (.pr .len [(.v 5)]) (.pr .len [(.v 6)]))]) (.v 3) (.bin .add (.pr .len [(.v 5)]) (.pr .len [(.v 6)])))) (.cmp .ne (.bin .mod (.bin .add (.bin .add (.v 3) (.pr .len [(.v 5)])) (.pr .len [(.v 6)])) (.c (.int 2))) (.c (.int 0)))) [.ret (.c (.bl false))] [], .iff (.or (.cmp .ne (.call 12 [(.bin .add (.v 7) (.v 5)), (.bin .add (.v 7) (.v 6))]) (.v 3)) (.cmp .ne (.call 12 [(.bin .add (.v 5) (.v 7)), (.bin .add (.v 6) (.v 7))]) (.v 3))) [.ret (.c (.bl false))] [], .iff (.or (.cmp .ne (.call 12 [(.rev (.v 5)), (.rev (.v 6))]) (.v 3)) (.or (.cmp .ne (.call 12 [(.v 5), (.v 5)]) (.c (.int 0))) (.cmp .ne (.call 12 [(.tup []), (.v 5)]) (.pr .len [(.v 5)])))) [.ret (.c (.bl false))] []]
def k29B3 : List S := [.iff (.cmp .ne (.call 60 [(.call 60 [(.v 5), (.call 61 [(.v 5), (.v 6)])]), (.call 61 [(.v 6), (.v 5)])]) (.v 5)) [.ret (.c (.bl false))] [], .iff (.cmp .ne (.lc (.tp [(.nm 8), (.nm 9)]) .seq [(.call 61 [(.v 5), (.v 6)])] [(.cmp .notin (.v 8) (.tup [(.c (.str [107, 101, 101, 112])), (.c (.str [111, 117, 116])), (.c (.str [105, 110]))]))] (.c (.int 1))) (.lst [])) [.ret (.c (.bl false))] [], .asg 4 false (.bin .add (.call 61 [(.v 5), (.v 6)]) (.call 61 [(.v 7), (.v 5)])), .iff (.or (.cmp .ne (.call 60 [(.bin .add (.v 5) (.v 7)), (.v 4)]) (.bin .add (.v 6) (.v 5))) (.cmp .ne (.call 62 [(.v 4)]) (.bin .add (.v 3) (.call 12 [(.v 7), (.v 5)])))) [.ret (.c (.bl false))] []]
theorem k29_b2 (t : DrK29 T) {j : Nat} (hj : 9 ≤ j) {ns : List Int} {k : Nat} {cell : Int} {xs ys zs : List Nat} (hx : Sm xs) (hy : Sm ys) (hz : Sm zs) (lx : xs.length ≤ 8) (ly : ys.length ≤ 8) (lz : zs.length ≤ 8) {a4 a8 a9 : SV} :
    evSs (callN T j) k29B2 (k29E ns k cell xs ys zs (.val (.int (dsN xs ys : Nat))) a4 a8 a9) = .ok (.nx (k29E ns k cell xs ys zs (.val (.int (dsN xs ys : Nat))) a4 a8 a9)) := by
  have far : ∀ {us vs : List Nat} {e f : E}, Sm us → Sm vs → evE (callN T j) e (k29E ns k cell xs ys zs (.val (.int (dsN xs ys : Nat))) a4 a8 a9) = .ok (.tup (encB us)) → evE (callN T j) f (k29E ns k cell xs ys zs (.val (.int (dsN xs ys : Nat))) a4 a8 a9) = .ok (.tup (encB vs)) → evE (callN T j) (.call 12 [e, f]) (k29E ns k cell xs ys zs (.val (.int (dsN xs ys : Nat))) a4 a8 a9) = .ok (.int (dsN us vs : Nat)) := fun h1 h2 e1 e2 => call_2 e1 e2 (far_at t h1 h2 j (by omega))
  have l5 : evE (callN T j) (.pr .len [(.v 5)]) (k29E ns k cell xs ys zs (.val (.int (dsN xs ys : Nat))) a4 a8 a9) = .ok (.int (xs.length : Int)) := by rw [← encB_len xs]; rfl
  have l6 : evE (callN T j) (.pr .len [(.v 6)]) (k29E ns k cell xs ys zs (.val (.int (dsN xs ys : Nat))) a4 a8 a9) = .ok (.int (ys.length : Int)) := by rw [← encB_len ys]; rfl
  have ds := ds_lc xs ys
  have lc := lcN_le xs ys
  have h0 : Sm [] := ⟨(fun x h => nomatch h), by simp⟩
  refine iff_no (or_ff (ne_i (n := (dsN xs ys : Nat)) rfl (by rw [bor_call, far (e := .v 6) (f := .v 5) hy hx rfl rfl, ds_comm])) ?_) ?_
  · refine cmp_t (x := .int (dsN xs ys : Nat)) (y := .int ((dsN xs zs : Nat) + (dsN zs ys : Nat))) rfl (by rw [bor_bin]; exact bin_e (o := .add) (by rw [bor_call]; exact far (e := .v 5) (f := .v 7) hx hz rfl rfl) (by rw [bor_call]; exact far (e := .v 7) (f := .v 6) hz hy rfl rfl) (add_ii _ _)) ?_
    rw [gt_ii]
    have := ds_tri xs ys zs
    rw [decide_eq_false (by omega)]
  refine iff_no (or_ff ?_ ?_) ?_
  · rw [evT_not, evT_chain, evE_chain]
    have ab : evE (callN T j) (.pr .abs [(.bin .sub (.pr .len [(.v 5)]) (.pr .len [(.v 6)]))]) (k29E ns k cell xs ys zs (.val (.int (dsN xs ys : Nat))) a4 a8 a9) = .ok (.int (if (xs.length : Int) - ys.length < 0 then -((xs.length : Int) - ys.length) else (xs.length : Int) - ys.length)) := pr_1 rfl (bin_e (o := .sub) (by rw [bor_pr]; exact l5) (by rw [bor_pr]; exact l6) (sub_ii _ _)) rfl
    have sm : evE (callN T j) (.bin .add (.pr .len [(.v 5)]) (.pr .len [(.v 6)])) (k29E ns k cell xs ys zs (.val (.int (dsN xs ys : Nat))) a4 a8 a9) = .ok (.int ((xs.length : Int) + ys.length)) := bin_e (o := .add) (by rw [bor_pr]; exact l5) (by rw [bor_pr]; exact l6) (add_ii _ _)
    have v3 : evE (callN T j) (.v 3) (k29E ns k cell xs ys zs (.val (.int (dsN xs ys : Nat))) a4 a8 a9) = .ok (.int (dsN xs ys : Nat)) := rfl
    rw [ab, bnd_ok, v3, bnd_ok, le_ii, bnd_ok, sm, bnd_ok, le_ii]
    have q1 : decide ((if (xs.length : Int) - ys.length < 0 then -((xs.length : Int) - ys.length) else (xs.length : Int) - ys.length) ≤ ((dsN xs ys : Nat) : Int)) = true := by
      apply decide_eq_true
      split <;> omega
    have q2 : decide (((dsN xs ys : Nat) : Int) ≤ (xs.length : Int) + ys.length) = true := decide_eq_true (by omega)
    rw [q1, q2]
    rfl
  · refine cmp_t (x := .int ((((dsN xs ys : Nat) : Int) + xs.length + ys.length) % 2)) (y := .int 0) ?_ rfl ?_
    · rw [bor_bin]
      exact bin_e (o := .mod) (x := .int (((dsN xs ys : Nat) : Int) + xs.length + ys.length)) (y := .int 2) (by rw [bor_bin]; exact bin_e (o := .add) (by rw [bor_bin]; exact bin_e (o := .add) (x := .int (dsN xs ys : Nat)) rfl (by rw [bor_pr]; exact l5) (add_ii _ _)) (by rw [bor_pr]; exact l6) (add_ii _ _)) rfl (mod_ii (by decide))
    · rw [ne_ii]
      have : (((dsN xs ys : Nat) : Int) + xs.length + ys.length) % 2 = 0 := by omega
      rw [this]; rfl
  have hzx : Sm (zs ++ xs) := hz.app hx (by simp; omega)
  have hzy : Sm (zs ++ ys) := hz.app hy (by simp; omega)
  have hxz : Sm (xs ++ zs) := hx.app hz (by simp; omega)
  have hyz : Sm (ys ++ zs) := hy.app hz (by simp; omega)
  refine iff_no (or_ff (ne_i (n := (dsN xs ys : Nat)) ?_ rfl) (ne_i (n := (dsN xs ys : Nat)) ?_ rfl)) ?_
  · rw [bor_call, far hzx hzy (add_enc rfl rfl (by omega)) (add_enc rfl rfl (by omega)), ds_pre]
  · rw [bor_call, far hxz hyz (add_enc rfl rfl (by omega)) (add_enc rfl rfl (by omega)), ds_suf]
  have rv : ∀ {us : List Nat}, (encB us).reverse = encB us.reverse := fun {us} => by unfold encB; rw [List.map_reverse]
  have hrx : Sm xs.reverse := hx.sub (fun y h => List.mem_reverse.mp h) (by rw [List.length_reverse]; omega)
  have hry : Sm ys.reverse := hy.sub (fun y h => List.mem_reverse.mp h) (by rw [List.length_reverse]; omega)
  refine iff_no (or_ff (ne_i (n := (dsN xs ys : Nat)) ?_ rfl) (or_ff (ne_i (n := 0) ?_ rfl) (ne_i (n := (xs.length : Int)) ?_ (by rw [bor_pr]; exact l5)))) rfl
  · rw [bor_call, far hrx hry (by rw [← rv]; rfl) (by rw [← rv]; rfl), ds_rev]
  · rw [bor_call, far (e := .v 5) (f := .v 5) hx hx rfl rfl, ds_self]
    rfl
  · rw [bor_call, far (e := .tup []) (f := .v 5) (us := []) h0 hx rfl rfl, dsN_nil]
theorem k29_b3 (t : DrK29 T) {j : Nat} (hj : 9 ≤ j) {ns : List Int} {k : Nat} {cell : Int} {xs ys zs : List Nat} (hx : Sm xs) (hy : Sm ys) (hz : Sm zs) (lx : xs.length ≤ 8) (ly : ys.length ≤ 8) (lz : zs.length ≤ 8) {a4 a8 a9 : SV} :
    ∃ b4, evSs (callN T j) k29B3 (k29E ns k cell xs ys zs (.val (.int (dsN xs ys : Nat))) a4 a8 a9) = .ok (.nx (k29E ns k cell xs ys zs (.val (.int (dsN xs ys : Nat))) b4 a8 a9)) := by
  have c1 := cgs_at t.toDrCg hx hy j (by omega)
  have c2 := cgs_at t.toDrCg hy hx j (by omega)
  have c3 := cgs_at t.toDrCg hz hx j (by omega)
  have d1 := chgd_at t.toDrCg hx hy j (by omega)
  have d2 := chgd_at t.toDrCg hy hx j (by omega)
  have lo1 := least_ok xs ys
  have lo3 := least_ok zs xs
  have ll1 := lo1.ln
  have ll3 := lo3.ln
  have li1 := lo1.ins
  have li3 := lo3.ins
  have hxz : Sm (xs ++ zs) := hx.app hz (by simp; omega)
  have hyx : Sm (ys ++ xs) := hy.app hx (by simp; omega)
  have uo : usedC (leastC xs ys ++ leastC zs xs) = (encB (xs ++ zs)).length := by rw [usedC_app, lo1.use, lo3.use, encB_len, List.length_append]
  have oo : outsC (encB (xs ++ zs)) 0 (leastC xs ys ++ leastC zs xs) = encB (ys ++ xs) := by
    rw [outsC_app, ← enc_app, outsC_left _ _ _ _ (by rw [lo1.use, encB_len]; omega), lo1.out, lo1.use, Nat.zero_add]
    have := outsC_right (encB xs) (encB zs) (leastC zs xs) 0
    rw [encB_len, Nat.add_zero] at this
    rw [this, lo3.out, enc_app]
  have d3 := changed_ok t.chg (doc := encB (xs ++ zs)) (cs := leastC xs ys ++ leastC zs xs) (by rw [uo, insN_app, encB_len, List.length_append]; omega) uo j (by omega)
  rw [oo] at d3
  have h3 := how_at t.how (cs := leastC xs ys ++ leastC zs xs) (by rw [List.length_append]; omega) j (by omega)
  rw [hmC_app, lo1.hm, lo3.hm, List.map_append] at h3
  rw [List.map_append] at d3
  have fz := far_at t hz hx j (by omega)
  refine ⟨.val (.tup ((leastC xs ys).map Ch.d ++ (leastC zs xs).map Ch.d)), ?_⟩
  refine iff_no ?_ (iff_no ?_ ?_)
  · refine cmp_t (x := .tup (encB xs)) (y := .tup (encB xs)) ?_ rfl (ne_enc hx)
    rw [bor_call]
    exact call_2 (call_2 (e := .v 5) rfl (call_2 (e := .v 5) (e2 := .v 6) rfl rfl c1) d1) (call_2 (e := .v 6) (e2 := .v 5) rfl rfl c2) d2
  · refine cmp_t (x := .lst []) (y := .lst []) ?_ rfl rfl
    rw [bor_lc]
    refine lc_ev (es_1 (call_2 (e := .v 5) (e2 := .v 6) rfl rfl c1)) (seq_t _) rfl (Eq.trans (lcGo_F (p := fun _ => false) (g := fun _ => .int 1) (xs := leastC xs ys) fun c hc => ?_) ?_) (by simp)
    · cases c with
      | keep n => exact ⟨_, rfl, rfl, fun z => nomatch z⟩
      | out n => exact ⟨_, rfl, rfl, fun z => nomatch z⟩
      | inn us => exact ⟨_, rfl, rfl, fun z => nomatch z⟩
    · rw [List.filter_eq_nil_iff.mpr (fun _ _ => Bool.false_ne_true)]
      rfl
  refine asg_ss (d := .tup ((leastC xs ys).map Ch.d ++ (leastC zs xs).map Ch.d)) (bin_e (o := .add) (by rw [bor_call]; exact call_2 (e := .v 5) (e2 := .v 6) rfl rfl c1) (by rw [bor_call]; exact call_2 (e := .v 7) (e2 := .v 5) rfl rfl c3) (add_tt (by simp; omega))) (by simp [k29E]) ?_
  refine iff_no (or_ff ?_ ?_) rfl
  · refine cmp_t (x := .tup (encB (ys ++ xs))) (y := .tup (encB (ys ++ xs))) ?_ (by rw [bor_bin]; exact add_enc rfl rfl (by omega)) (ne_enc hyx)
    rw [bor_call]
    exact call_2 (e2 := .v 4) (add_enc (xs := xs) (ys := zs) rfl rfl (by omega)) rfl d3
  · refine ne_i (n := ((dsN xs ys : Nat) : Int) + (dsN zs xs : Nat)) (by rw [bor_call]; exact call_1 (e := .v 4) rfl h3) ?_
    rw [bor_bin]
    exact bin_e (o := .add) (x := .int (dsN xs ys : Nat)) rfl (by rw [bor_call]; exact call_2 (e := .v 7) (e2 := .v 5) rfl rfl fz) (add_ii _ _)
def k29B : List S := [.asg 2 false (.bin .add (.call 4 [(.v 0), (.bin .mod (.v 1) (.c (.int 9)))]) (.bin .mul (.c (.int 61)) (.v 1))), .par [5, 6, 7] [(.call 1 [(.v 2), (.c (.int 8))]), (.call 1 [(.bin .add (.v 2) (.c (.int 5))), (.c (.int 8))]), (.call 1 [(.bin .add (.v 2) (.c (.int 9))), (.c (.int 8))])], .asg 3 false (.call 12 [(.v 5), (.v 6)])] ++ (k29B2 ++ k29B3)
theorem ss_app {cl : CL} {ρ ρ' : Env} {a b : List S} {r : R Fl} (h : evSs cl a ρ = .ok (.nx ρ')) (h2 : evSs cl b ρ' = r) : evSs cl (a ++ b) ρ = r := by
  induction a generalizing ρ with
  | nil =>
    have h : R.ok (Fl.nx ρ) = R.ok (Fl.nx ρ') := h
    cases h
    exact h2
  | cons s ss ih =>
    rw [List.cons_append, evSs_cons]
    rw [evSs_cons] at h
    cases q : evS cl s ρ with
    | no => rw [q] at h; cases h
    | ex c => rw [q] at h; cases h
    | ok f =>
      rw [q] at h
      cases f with
      | nx ρ1 => exact ih h
      | ct ρ1 => cases h
      | rt d => cases h
theorem k29_turn (t : DrK29 T) {j : Nat} (hj : 9 ≤ j) (ns : List Int) (k : Nat) (a2 a3 a4 a5 a6 a7 a8 a9 : SV) : ∃ b2 b3 b4 b5 b6 b7 b8 b9, evSs (callN T j) k29B [.val (.scr ns), .val (.int k), a2, a3, a4, a5, a6, a7, a8, a9] = .ok (.nx [.val (.scr ns), .val (.int k), b2, b3, b4, b5, b6, b7, b8, b9]) := by
  have cx := cell_at t.cell ns (k % 9) j (by omega)
  generalize hcell : cellS ns (k % 9) + 61 * (k : Int) = cell
  have ax := alike_at t.mix t.alike cell 8 (by decide) j (by omega)
  have ay := alike_at t.mix t.alike (cell + 5) 8 (by decide) j (by omega)
  have az := alike_at t.mix t.alike (cell + 9) 8 (by decide) j (by omega)
  rw [alike_enc] at ax ay az
  obtain ⟨hx, lx⟩ := idx_sm cell 8 (by decide)
  obtain ⟨hy, ly⟩ := idx_sm (cell + 5) 8 (by decide)
  obtain ⟨hz, lz⟩ := idx_sm (cell + 9) 8 (by decide)
  generalize idxS cell 8 = xs at *
  generalize idxS (cell + 5) 8 = ys at *
  generalize idxS (cell + 9) 8 = zs at *
  have e2 := k29_b2 t hj (ns := ns) (k := k) (cell := cell) hx hy hz lx ly lz (a4 := a4) (a8 := a8) (a9 := a9)
  obtain ⟨b4, e3⟩ := k29_b3 t hj (ns := ns) (k := k) (cell := cell) hx hy hz lx ly lz (a4 := a4) (a8 := a8) (a9 := a9)
  refine ⟨.val (.int cell), .val (.int (dsN xs ys : Nat)), b4, .val (.tup (encB xs)), .val (.tup (encB ys)), .val (.tup (encB zs)), a8, a9, ?_⟩
  refine ss_app (ρ' := k29E ns k cell xs ys zs (.val (.int (dsN xs ys : Nat))) a4 a8 a9) ?_ (ss_app e2 e3)
  refine asg_ss (d := .int cell) (bin_e (o := .add) (x := .int (cellS ns (k % 9))) (y := .int (61 * (k : Int))) (by rw [bor_call]; exact call_2 (e := .v 0) (d2 := .int ((k % 9 : Nat) : Int)) rfl (bin_e (o := .mod) (x := .int k) (y := .int 9) rfl rfl (by rw [mod_ii (by decide)]; rfl)) cx) (by rw [bor_bin]; exact bin_e (o := .mul) (x := .int 61) (y := .int k) rfl rfl (mul_ii rfl)) (by rw [add_ii, hcell])) (by simp) ?_
  refine ss_nx (ρ' := k29E ns k cell xs ys zs a3 a4 a8 a9) ?_ ?_
  · rw [evS_par, es_3 (a := .call 1 [(.v 2), (.c (.int 8))]) (b := .call 1 [(.bin .add (.v 2) (.c (.int 5))), (.c (.int 8))]) (c := .call 1 [(.bin .add (.v 2) (.c (.int 9))), (.c (.int 8))]) (call_2 (e := .v 2) (e2 := .c (.int 8)) rfl rfl ax) (call_2 (e2 := .c (.int 8)) (d := .int (cell + 5)) rfl rfl ay) (call_2 (e2 := .c (.int 8)) (d := .int (cell + 9)) rfl rfl az)]
    rfl
  exact asg_ss (d := .int (dsN xs ys : Nat)) (call_2 (e := .v 5) (e2 := .v 6) rfl rfl (far_at t hx hy j (by omega))) (by simp [k29E]) rfl
theorem k29_true (t : DrK29 T) (ns : List Int) : At T 10 86 [.scr ns] (.ok (.bl true)) := by
  refine At.step t.law fun n hn => evF_st (ρ := [.val (.scr ns), .un, .un, .un, .un, .un, .un, .un, .un, .un]) rfl rfl ?_
  obtain ⟨ρ', e, a1, a2, a3, a4, a5, a6, a7, a8, a9, rfl⟩ := forGo_P (t := .nm 1) (body := evSs (callN T n) k29B)
    (fun i ρ => ∃ a1 a2 a3 a4 a5 a6 a7 a8 a9, ρ = [.val (.scr ns), a1, a2, a3, a4, a5, a6, a7, a8, a9]) (xs := (List.range 10).map fun (k : Nat) => .int k) (ρ := [.val (.scr ns), .un, .un, .un, .un, .un, .un, .un, .un, .un]) 0 ⟨_, _, _, _, _, _, _, _, _, rfl⟩ (by
      rintro k d ρ hd ⟨a1, a2, a3, a4, a5, a6, a7, a8, a9, rfl⟩
      have hk : k < 10 := by
        have := (List.getElem?_eq_some_iff.mp hd).1
        simpa using this
      have ed : d = .int k := by
        rw [List.getElem?_map, List.getElem?_range hk] at hd
        exact (Option.some.inj hd).symm
      subst ed
      obtain ⟨b2, b3, b4, b5, b6, b7, b8, b9, e⟩ := k29_turn t hn ns k a2 a3 a4 a5 a6 a7 a8 a9
      exact ⟨_, rfl, _, .inl e, _, _, _, _, _, _, _, _, _, rfl⟩)
  exact for_ss (ds := [.int 10]) rfl (rng1_n (n := 10) (by omega)) e (ret_ss rfl)
end MT
namespace Mk29
open PySem L2 MT
def top (i : Nat) : Stmt := PySem.Challenge.pw_marktongues_k29_whole_as_few_as_can_be.main.body.getD i (.Pass ⟨0, 0, 0, 0⟩)
def r60 : Row := ⟨"changed", "changed", 60, top 4, (["doc", "some", "found", "place", "word", "what"] : List Str), ir_changes_changed⟩
def r64 : Row := ⟨"table", "table", 64, top 5, (["one", "other", "found", "a", "b"] : List Str), ir_changes_table⟩
def r63 : Row := ⟨"joined", "joined", 63, top 6, (["some", "found", "word", "what"] : List Str), ir_changes_joined⟩
def r61 : Row := ⟨"changes", "changes", 61, top 7, (["one", "other", "left", "found", "a", "b"] : List Str), ir_changes_changes⟩
def r62 : Row := ⟨"how_many", "how_many", 62, top 8, (["some", "word", "what"] : List Str), ir_changes_how_many⟩
def r4 : Row := ⟨"_law_cell", "_law_cell", 4, top 10, (["script", "k"] : List Str), ir_law_cell⟩
def r32 : Row := ⟨"_law_mix", "_law_mix", 32, top 11, (["cell", "prime", "many", "blend"] : List Str), ir_law_mix⟩
def r1 : Row := ⟨"_law_alike", "_law_alike", 1, top 12, (["cell", "many", "some", "k"] : List Str), ir_law_alike⟩
def r12 : Row := ⟨"_law_far", "_law_far", 12, top 13, (["one", "other"] : List Str), ir_law_far⟩
def r86 : Row := ⟨"law", "law", 86, top 14, (["script", "k", "cell", "far", "both", "one", "other", "third", "word", "what"] : List Str), ir_law_k29⟩
def rows : List Row := [r60, r64, r63, r61, r62, r4, r32, r1, r12, r86]
def gcs : List (Str × D) := []
def free : List Str := (["abs", "len", "min", "range", "reversed", "sum", "tuple"] : List Str)
def xi : XInfo := { on := true, cls := "NoFit", ctch := "MarkError", asks := [] }
theorem ids_ok : (rows.map (·.id)).Nodup := by decide
theorem rows_look : (rows.all fun r => rowC rows gcs free xi r) = true := by kernel_rfl
theorem b60 : BindsR r60 := fun _ _ _ _ _ _ us hl => match us, hl with | [_, _], _ => rfl
theorem b64 : BindsR r64 := fun _ _ _ _ _ _ us hl => match us, hl with | [_, _], _ => rfl
theorem b63 : BindsR r63 := fun _ _ _ _ _ _ us hl => match us, hl with | [_], _ => rfl
theorem b61 : BindsR r61 := fun _ _ _ _ _ _ us hl => match us, hl with | [_, _], _ => rfl
theorem b62 : BindsR r62 := fun _ _ _ _ _ _ us hl => match us, hl with | [_], _ => rfl
theorem b4 : BindsR r4 := fun _ _ _ _ _ _ us hl => match us, hl with | [_, _], _ => rfl
theorem b32 : BindsR r32 := fun _ _ _ _ _ _ us hl => match us, hl with | [_, _, _], _ => rfl
theorem b1 : BindsR r1 := fun _ _ _ _ _ _ us hl => match us, hl with | [_, _], _ => rfl
theorem b12 : BindsR r12 := fun _ _ _ _ _ _ us hl => match us, hl with | [_, _], _ => rfl
theorem b86 : BindsR r86 := fun _ _ _ _ _ _ us hl => match us, hl with | [_], _ => rfl
theorem binds_ok : ∀ r ∈ rows, BindsR r := fun r h => by
  simp only [rows, List.mem_cons, List.not_mem_nil, or_false] at h
  rcases h with rfl | rfl | rfl | rfl | rfl | rfl | rfl | rfl | rfl | rfl
  · exact b60
  · exact b64
  · exact b63
  · exact b61
  · exact b62
  · exact b4
  · exact b32
  · exact b1
  · exact b12
  · exact b86
abbrev R : PySem.W.OpenRow := PySem.W.OpenLaw.row PySem.Challenge.rw_marktongues_k29_whole_as_few_as_can_be
abbrev hk : PySem.W.Hook := hookX 4 (faOf rows gcs free) (rows.map dOf) xi
def ob (s : PySem.W.SharedT) : AlX := obsXG 4 (faOf rows gcs free) (rows.map dOf) xi (HandSHeadRun.getT s)
theorem ob_eq (s : PySem.W.SharedT) : ob s = hk.obs s.abs := obsXG_eq (HandSHeadRun.getT_eq s)
def loose : List Str := (["MarkError", "NoFit", "changed", "table", "joined", "changes", "how_many", "_law_cell", "_law_mix", "_law_alike", "_law_far"] : List Str)
theorem run (w : World) : HandSHeadRun.RunEq R (PySem.W.view R.prog [14]) hk ob 5000 loose w := by
  intro os
  kernel_rfl
end Mk29
namespace Mk29
open MT
theorem law_true (ns : List Int) (hl : ns.length ≤ 63) : callN (tabOf rows) 100 86 [.scr ns] = .ok (.bl true) :=
  k29_true (T := tabOf rows) (by repeat' (first | rfl | constructor)) ns 100 (by decide)
end Mk29
open PySem PySem.W PySem.Calls PyProof.Rows
theorem PySem.Challenge.cw_marktongues_k29_whole_as_few_as_can_be_holds : PySem.Challenge.rw_marktongues_k29_whole_as_few_as_can_be.Holds := by
  w_on; o_law
  refine HandSHeadRun.head_any (r := OpenLaw.row PySem.Challenge.rw_marktongues_k29_whole_as_few_as_can_be) (q := view (OpenLaw.row PySem.Challenge.rw_marktongues_k29_whole_as_few_as_can_be).prog [14]) (H := Mk29.hk) (ob := Mk29.ob) (M := 5000) (loose := Mk29.loose) (d := HandSHeadRun.topDef (OpenLaw.row PySem.Challenge.rw_marktongues_k29_whole_as_few_as_can_be).prog 14) (kwd := []) Mk29.ob_eq
    (by kernel_rfl) (fun s => by kernel_rfl) Mk29.run (by kernel_rfl) (by kernel_rfl) (by kernel_rfl) (by rfl) (by first | assumption | decide +kernel) (by decide +kernel) ⟨rfl, rfl, rfl, rfl, rfl, by decide +kernel⟩ ?hw ?hc
  case hw => w_witness2
  case hc =>
    refine L2.walk_ofE (l := PySem.Challenge.rw_marktongues_k29_whole_as_few_as_can_be) (n := 63) (k := 100) (x := "script") (CX := L2.CX0) rfl (by decide) (by kernel_rfl) ⟨rfl, by decide, by decide⟩ ?F (fun _ _ _ _ z => z)
    intro w mg fa h Y G hmg0
    obtain ⟨K, KX, c, cx⟩ := Y
    have hmg : mg Mk29.r86.bind = some (.ref fa) := by
      have e : (HandSHeadRun.topDef (OpenLaw.row PySem.Challenge.rw_marktongues_k29_whole_as_few_as_can_be).prog 14).name = Mk29.r86.bind := by kernel_rfl
      rw [← e]
      exact hmg0
    obtain ⟨fd, hb, hF⟩ := MT.law_facts (P := (PySem.Challenge.rw_marktongues_k29_whole_as_few_as_can_be).prog) (w := w) (rows := Mk29.rows) KX G c cx Mk29.ids_ok (List.all_eq_true.mp Mk29.rows_look) Mk29.binds_ok (r := Mk29.r86) (List.getLast_mem (by decide) : Mk29.rows.getLast (by decide) ∈ Mk29.rows) (x := "script") rfl hmg 100
    exact ⟨K, fd, fun vs H Q _ => MT.spF K (MT.callN (MT.tabOf Mk29.rows) 100) (fun _ => .ref (He.ga K Mk29.xi.cls)) 1 86 vs H Q fun _ _ _ => False, KX, hb, fun H a ns hl _ hS => MT.law_sp hS (Mk29.law_true ns hl), hF⟩
