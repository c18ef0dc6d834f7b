import PyProof.Rows.All
import Wide.All
import OpenK.AllK
import Wide.FinOn
import HandS.ForMost
import HandS.ForExc
import HandS.DictTup
import HandS.DictComp
import HandS.HeadHook4
import HandS.Lambda
import KE.KNest
import KE.DataEq
import HandS.Wide
import HandS.TupAny
import HandS.TupMul
import KE.DataCmp
import KE.DatumOrd
import KE.SortData
import PyProof.StrBlock2
import HandS.IsInst
import HandS.RaiseMore
import HandS.TupLen
import PyProof.ReprRoads
import KE.DataFind
import HandS.Zip
import KE.GoesMore
import KE.GoesEnum
import HandS.Small
import HandS.WideMore
import HandS.ExcOwn
import HandS.ForSpec
import HandS.TryMany
import KE.KTryMore
import KE.KExcIs
import KE.GoesEnumKw
import HandS.Replace
import HandS.ReplaceLit
import PyProof.EvalArms
import PyProof.ToksMono
import KE.KEqDict
import HandS.Text
import HandS.Style
import HandS.HeadEnd
import HandS.Head0
import HandS.Head1
import HandS.Head2
import PySem.Challenge.RW_spiderwires_k65_step_texts
set_option Elab.async false
set_option linter.all false
section
set_option autoImplicit false
/-! EvA: values as trees, the evaluator's own heap, the compact code, the evaluator. Plain Lean, no model in sight. -/
namespace Ev
abbrev Tx := List Nat

/-- a value: trees for what never changes (fls, ftp, fdc: a list, a tuple, a dict that came from outside), ref n for the n-th object of the evaluator's heap -/
inductive PV where
  | non | bl (b : Bool) | int (i : Int) | str (x : Tx)
  | tup (xs : List PV) | lst (xs : List PV) | fls (xs : List PV) | dct (tk : Bool) (kvs : List (PV × PV))
  | ref (n : Nat) | exc (c : Nat) (a : PV) | ftp (xs : List PV) | fdc (kvs : List (PV × PV))
  deriving Inhabited
/-- an object that may change -/
inductive PO where
  | lst (xs : List PV) | dct (tk : Bool) (kvs : List (PV × PV)) | ins (c : Nat) (fs : List (Tx × PV)) | lck (o : PO) | tbl (x : Tx)
  deriving Inhabited
abbrev PH := List PO
inductive R (α : Type) where
  | ok (a : α) (h : PH) | exc (c : Nat) (a : PV) (h : PH) | stk
def R.bind {α β : Type} (r : R α) (f : α → PH → R β) : R β := match r with
  | .ok a h => f a h
  | .exc c a h => .exc c a h
  | .stk => .stk

/-! ### all references below n -/
mutual
def PV.closed (n : Nat) : PV → Bool
  | .tup xs => PV.closedL n xs
  | .lst xs => PV.closedL n xs
  | .fls xs => PV.closedL n xs
  | .dct _ kvs => PV.closedD n kvs
  | .ref k => decide (k < n)
  | .exc _ a => PV.closed n a
  | .ftp xs => PV.closedL n xs
  | .fdc kvs => PV.closedD n kvs
  | .non => true
  | .bl _ => true
  | .int _ => true
  | .str _ => true
def PV.closedL (n : Nat) : List PV → Bool
  | [] => true
  | x :: xs => PV.closed n x && PV.closedL n xs
def PV.closedD (n : Nat) : List (PV × PV) → Bool
  | [] => true
  | x :: xs => PV.closedP n x && PV.closedD n xs
def PV.closedP (n : Nat) : PV × PV → Bool
  | (a, b) => PV.closed n a && PV.closed n b
end
def PO.closed (n : Nat) : PO → Bool
  | .lst xs => PV.closedL n xs
  | .dct _ kvs => PV.closedD n kvs
  | .ins _ fs => fs.all fun p => p.2.closed n
  | .lck o => o.closed n
  | .tbl _ => true

/-! ### == of data -/
mutual
def PV.eqv : PV → PV → Bool
  | .non, .non => true
  | .bl a, .bl b => a == b
  | .bl a, .int j => (if a then 1 else 0) == j
  | .int i, .bl b => i == (if b then 1 else 0)
  | .int i, .int j => i == j
  | .str x, .str y => x == y
  | .lst xs, .lst ys => PV.eqvL xs ys
  | .fls xs, .lst ys => PV.eqvL xs ys
  | .lst xs, .fls ys => PV.eqvL xs ys
  | .fls xs, .fls ys => PV.eqvL xs ys
  | .tup xs, .tup ys => PV.eqvL xs ys
  | _, _ => false
def PV.eqvL : List PV → List PV → Bool
  | [], [] => true
  | x :: xs, y :: ys => PV.eqv x y && PV.eqvL xs ys
  | _, _ => false
end
mutual
/-- no reference, no dict, no exception within -/
def PV.plain : PV → Bool
  | .non | .bl _ | .int _ | .str _ => true
  | .tup xs => PV.plainL xs
  | .lst xs => PV.plainL xs
  | .fls xs => PV.plainL xs
  | .dct _ _ => false
  | .ref _ => false
  | .exc _ _ => false
  | .ftp _ => false
  | .fdc _ => false
def PV.plainL : List PV → Bool
  | [] => true
  | x :: xs => PV.plain x && PV.plainL xs
end
mutual
def PV.depth : PV → Nat
  | .tup xs => PV.depthL xs + 1
  | .lst xs => PV.depthL xs + 1
  | .fls xs => PV.depthL xs + 1
  | _ => 0
def PV.depthL : List PV → Nat
  | [] => 0
  | x :: xs => max (PV.depth x) (PV.depthL xs)
end
abbrev szLine : Nat := 16777216

/-- one look through a reference -/
def PO.see : PO → Option PV
  | .lst xs => some (.lst xs)
  | .dct tk kvs => some (.dct tk kvs)
  | .ins _ _ => none
  | .lck o => o.see
  | .tbl _ => none
def see (h : PH) : PV → Option PV
  | .ref n => (h[n]?).bind PO.see
  | v => some v
def seqOf (h : PH) (v : PV) : Option (List PV) := match see h v with
  | some (.ftp xs) => some xs
  | some (.lst xs) => some xs
  | some (.fls xs) => some xs
  | some (.tup xs) => some xs
  | _ => none

mutual
/-- the same tree -/
def PV.same : PV → PV → Bool
  | .non, .non => true
  | .bl a, .bl b => a == b
  | .int i, .int j => i == j
  | .str x, .str y => x == y
  | .lst xs, .lst ys => PV.sameL xs ys
  | .fls xs, .fls ys => PV.sameL xs ys
  | .tup xs, .tup ys => PV.sameL xs ys
  | .dct a xs, .dct b ys => a == b && PV.sameD xs ys
  | .ref n, .ref m => n == m
  | .exc c a, .exc d b => c == d && PV.same a b
  | .ftp xs, .ftp ys => PV.sameL xs ys
  | .fdc xs, .fdc ys => PV.sameD xs ys
  | _, _ => false
termination_by structural x => x
def PV.sameL : List PV → List PV → Bool
  | [], [] => true
  | x :: xs, y :: ys => PV.same x y && PV.sameL xs ys
  | _, _ => false
termination_by structural x => x
def PV.sameD : List (PV × PV) → List (PV × PV) → Bool
  | [], [] => true
  | x :: xs, y :: ys => PV.sameP x y && PV.sameD xs ys
  | _, _ => false
termination_by structural x => x
def PV.sameP : PV × PV → PV × PV → Bool
  | (a, b), y => PV.same a y.1 && PV.same b y.2
termination_by structural x => x
end
def PO.same : PO → PO → Bool
  | .lst xs, .lst ys => PV.sameL xs ys
  | .dct a xs, .dct b ys => a == b && PV.sameD xs ys
  | .lck a, .lck b => PO.same a b
  | _, _ => false

/-- the field of an error class, by its number -/
def exFld : Nat → Tx
  | 0 => [] | 1 => [] | 2 => []
  | 10 => [105,110,100,101,120] | 13 => [105,110,100,101,120] | 14 => [108,105,110,101] | 15 => [101,100,103,101] | 16 => [99,111,117,110,116,115] | 17 => [108,105,109,105,116]
  | _ => [114,101,97,115,111,110]
/-- a list that is seen -/
def lstOf (h : PH) (v : PV) : Option (List PV) := match see h v with
  | some (.lst xs) => some xs
  | some (.fls xs) => some xs
  | _ => none

/-! ### texts -/
def pre (S l : Tx) : Bool := l.take S.length == S
def spl (S : Tx) : Nat → Tx → Tx → List Tx
  | _, acc, [] => [acc]
  | 0, acc, c :: r => if pre S (c :: r) then acc :: spl S (S.length - 1) [] r else spl S 0 (acc ++ [c]) r
  | k + 1, acc, _ :: r => spl S k acc r
def joinL (S : Tx) : List Tx → Tx
  | [] => []
  | [x] => x
  | x :: y :: r => x ++ S ++ joinL S (y :: r)
def numL (n : Nat) : Tx := (Nat.toDigits 10 n).map Char.toNat
def intL (i : Int) : Tx := match i with
  | .ofNat n => numL n
  | .negSucc n => 45 :: numL (n + 1)
def ltT : Tx → Tx → Bool
  | [], [] => false
  | [], _ :: _ => true
  | _ :: _, [] => false
  | x :: xs, y :: ys => if x = y then ltT xs ys else decide (x < y)
def hasSub (S : Tx) : Tx → Bool
  | [] => S.isEmpty
  | c :: r => pre S (c :: r) || hasSub S r
def digitsV (l : Tx) : Nat := l.foldl (fun a c => a * 10 + (c - 48)) 0
def isDig (c : Nat) : Bool := decide (48 ≤ c) && decide (c ≤ 57)
/-- the int that a text of digits, or a minus and digits, stands for -/
def intOf : Tx → Option Int
  | [] => none
  | 45 :: r => if r.isEmpty then none else if r.all isDig then some (-(digitsV r : Int)) else none
  | r => if r.all isDig then some (digitsV r : Int) else none

/-! ### the code -/
inductive Op where
  | add | sub | mul | fdiv | mod | pow | shl | shr | band | bxor
inductive Cm where
  | eq | ne | lt | le | gt | ge | isN | notN | inn | nin
/-- what isinstance asks for -/
inductive Ty where
  | tint | tbool | tstr | ttup | tlst | tdct
/-- what is called by name, or as a method of a built-in type; mu: the new list is an object that may change -/
inductive Pr where
  | isa (ts : List Ty)
  | len | str | int | repr | tuple | list (mu : Bool) | sorted (mu : Bool)
  | all | any | sum | max | min | abs | divmod
  | split (mu : Bool) | join | replace | upper | find | count
  | append | insert | pop | extend | index | remove
  | get | items (mu : Bool) | values (mu : Bool) | update | dict (mu tk : Bool)
/-- where an assignment goes -/
inductive Tg where
  | nm (i : Nat) | tp (ts : List Tg)
mutual
inductive CE where
  | var (i : Nat)
  | cst (v : PV)
  | glb (i : Nat)
  | bin (op : Op) (mu : Bool) (a b : CE)
  | neg (a : CE)
  | cmp (op : Cm) (a b : CE)
  | chn (op op' : Cm) (a b c : CE)
  | and (a b : CE) | or (a b : CE) | not (a : CE)
  | ite (c a b : CE)
  | tup (es : CEs) | lst (mu : Bool) (es : CEs) | dct (mu tk : Bool) (es : CEs)
  | ix (a b : CE)
  | slc (mu : Bool) (a : CE) (lo hi : CE)
  | rev (mu : Bool) (a : CE)
  | fld (a : CE) (f : Tx)
  | xfld (a : CE) (f : Tx)
  | isx (a : CE) (cs : List Nat)
  | rpl (one : Bool) (a : CE) (y z : Tx)
  | upp (a : CE)
  | emp (neg : Bool) (a : CE)
  | kcE (x : Nat) (e : CE)
  | call (f : Nat) (es : CEs)
  | meth (m : Tx) (o : CE) (es : CEs)
  | mk (c : Nat) (es : CEs)
  | prim (p : Pr) (es : CEs)
  | mth (p : Pr) (o : CE) (es : CEs)
  | lc (mu : Bool) (own : List Nat) (t : Tg) (it : CI) (cond : CE) (elt : CE)
  | lc2 (mu : Bool) (own : List Nat) (t : Tg) (it : CI) (cond : CE) (t2 : Tg) (it2 : CI) (cond2 : CE) (elt : CE)
  | dc (mu tk : Bool) (own : List Nat) (t : Tg) (it : CI) (cond : CE) (k v : CE)
  | said (f : Nat) (x : Tx) (e : CE)
inductive CEs where
  | nil | cons (e : CE) (es : CEs)
inductive CI where
  | val (e : CE)
  | rng (es : CEs)
  | enm (e : CE) (start : Int)
  | zip (a b : CE)
  | zipM (a b : CE)
  | items (e : CE) | values (e : CE)
  | keys (e : CE)
  | rev (e : CE)
end
/-- a place that is stored to -/
inductive Pl where
  | nm (i : Nat) | tp (ts : List Pl) | sub (o i : CE) | fld (o : CE) (f : Tx)
mutual
inductive CS where
  | expr (e : CE)
  | asg (t : Pl) (e : CE)
  | aug (t : Pl) (op : Op) (e : CE)
  | ret (e : CE)
  | ife (c : CE) (a b : CSs)
  | whl (c : CE) (b : CSs)
  | for_ (t : Tg) (it : CI) (b : CSs)
  | raise (c : Nat) (e : CE)
  | tryc (i : Nat) (cs : List Nat) (j : Nat) (body : CSs) (hdl : CSs)
  | cont | brk | pass
  | kcS (x : Nat) (s : CS)
  | say (s : CS)
inductive CSs where
  | nil | cons (s : CS) (ss : CSs)
end
abbrev Env := List (Option PV)
abbrev F1 := List PV → PH → R PV
/-- what is not followed: repr's text, replace's text (the first alone, all), upper's -/
structure Ops where
  rep : PV → Tx
  rpl : Bool → Tx → Tx → Tx → Tx
  upr : Tx → Tx
/-- what the names of a def mean -/
structure Ctx where
  fns : List F1
  meths : List ((Nat × Tx) × F1)
  inits : List (Nat × F1)
  glbs : List PV
  ops : Ops
  fuel : Nat
  exs : List Nat
  saids : List ((PH → R PV) → PH → R PV) := []
abbrev Ctx.rep (G : Ctx) : PV → Tx := G.ops.rep

/-! ### values -/
def newLst (mu : Bool) (xs : List PV) (h : PH) : R PV := if mu then .ok (.ref h.length) (h ++ [.lst xs]) else .ok (.lst xs) h
def newDct (mu tk : Bool) (kvs : List (PV × PV)) (h : PH) : R PV := if mu then .ok (.ref h.length) (h ++ [.dct tk kvs]) else .ok (.dct tk kvs) h
def small (i : Int) : Bool := decide (i.natAbs < 18446744073709551616)
def eqOk (x y : PV) : Bool := x.plain && y.plain && (decide (x.depth ≤ 60) || decide (y.depth ≤ 60))
mutual
/-- what repr may be asked of -/
def PV.shw : PV → Bool
  | .non => true
  | .bl _ => true
  | .int i => small i
  | .str x => x.all fun c => decide (c < 1114112)
  | .tup xs => PV.shwL xs
  | .lst xs => PV.shwL xs
  | .fls xs => PV.shwL xs
  | .dct _ _ => false
  | .ref _ => false
  | .exc _ _ => false
  | .ftp _ => false
  | .fdc _ => false
def PV.shwL : List PV → Bool
  | [] => true
  | x :: xs => PV.shw x && PV.shwL xs
end
mutual
/-- the text's length is at most so much -/
def PV.wt : PV → Nat
  | .int _ => 25
  | .str x => 10 * x.length + 2
  | .tup xs => PV.wtL xs + 3
  | .lst xs => PV.wtL xs + 3
  | .fls xs => PV.wtL xs + 3
  | _ => 5
def PV.wtL : List PV → Nat
  | [] => 0
  | x :: xs => PV.wt x + 2 + PV.wtL xs
end
/-- a flat key: an int or a text; a tuple of such -/
def flatK : PV → Bool
  | .int _ => true
  | .str _ => true
  | _ => false
def keyOk (tk : Bool) : PV → Bool
  | .tup xs => tk && xs.all flatK
  | k => !tk && flatK k
def keyEq : PV → PV → Bool := PV.eqv
def dget (kvs : List (PV × PV)) (k : PV) : Option PV := (kvs.find? fun p => keyEq p.1 k).map (·.2)
def dput (kvs : List (PV × PV)) (k v : PV) : List (PV × PV) :=
  if (kvs.any fun p => keyEq p.1 k) then kvs.map (fun p => if keyEq p.1 k then (p.1, v) else p) else kvs ++ [(k, v)]
def ddrop (kvs : List (PV × PV)) (k : PV) : List (PV × PV) := kvs.filter fun p => !keyEq p.1 k
/-- the place that an index means -/
def ixN (n : Nat) (i : Int) : Option Nat := if 0 ≤ i then (if i < n then some i.toNat else none) else if -(n : Int) ≤ i then some (i + n).toNat else none
/-- a slice's end -/
def sIx (n d : Nat) : PV → Option Nat
  | .non => some d
  | .int v => some (if v < 0 then (v + (n : Int)).toNat else min v.toNat n)
  | _ => none
def cut {α : Type} (xs : List α) (i j : Nat) : List α := (xs.drop i).take (j - i)
mutual
/-- the two are comparable, place by place -/
def PV.like : PV → PV → Bool
  | .non, .non => true
  | .bl _, .bl _ => true
  | .int _, .int _ => true
  | .str _, .str _ => true
  | .tup xs, .tup ys => PV.likeL xs ys
  | .lst xs, .lst ys => PV.likeL xs ys
  | .lst xs, .fls ys => PV.likeL xs ys
  | .fls xs, .lst ys => PV.likeL xs ys
  | .fls xs, .fls ys => PV.likeL xs ys
  | _, _ => false
def PV.likeL : List PV → List PV → Bool
  | x :: xs, y :: ys => PV.like x y && PV.likeL xs ys
  | [], _ => true
  | _ :: _, [] => true
end
mutual
/-- a < b of comparable data -/
def PV.lt : PV → PV → Bool
  | .bl a, .bl b => !a && b
  | .int i, .int j => decide (i < j)
  | .str x, .str y => ltT x y
  | .tup xs, .tup ys => PV.ltL xs ys
  | .lst xs, .lst ys => PV.ltL xs ys
  | .lst xs, .fls ys => PV.ltL xs ys
  | .fls xs, .lst ys => PV.ltL xs ys
  | .fls xs, .fls ys => PV.ltL xs ys
  | _, _ => false
def PV.ltL : List PV → List PV → Bool
  | [], [] => false
  | [], _ :: _ => true
  | _ :: _, [] => false
  | x :: xs, y :: ys => if PV.eqv x y then PV.ltL xs ys else PV.lt x y
end
def isNon : PV → Bool
  | .non => true
  | _ => false
def ltOk (x y : PV) : Bool := x.plain && y.plain && x.like y && !isNon x && (decide (x.depth ≤ 60) || decide (y.depth ≤ 60))
def binop (op : Op) (mu : Bool) (x y : PV) (h : PH) : R PV := match op, x, y with
  | .add, .int i, .int j => .ok (.int (i + j)) h
  | .sub, .int i, .int j => .ok (.int (i - j)) h
  | .mul, .int i, .int j => if small i || small j then .ok (.int (i * j)) h else .stk
  | .fdiv, .int i, .int j => if 0 < j && small j then .ok (.int (i / j)) h else .stk
  | .mod, .int i, .int j => if 0 < j then .ok (.int (i % j)) h else .stk
  | .pow, .int i, .int j => if 0 ≤ j && decide (j ≤ 1000000) && small i then .ok (.int (i ^ j.toNat)) h else .stk
  | .shl, .int i, .int j => if 0 ≤ j && decide (j ≤ 1000000) && small i then .ok (.int (i * 2 ^ j.toNat)) h else .stk
  | .shr, .int i, .int j => if 0 ≤ j then .ok (.int (i / 2 ^ j.toNat)) h else .stk
  | .add, .str a, .str b => if a.length + b.length ≤ szLine then .ok (.str (a ++ b)) h else .stk
  | .add, .tup a, .tup b => if a.length + b.length ≤ szLine then .ok (.tup (a ++ b)) h else .stk
  | .add, _, _ => match see h x, see h y with
    | some (.lst a), some (.lst b) => if a.length + b.length ≤ szLine then newLst mu (a ++ b) h else .stk
    | _, _ => .stk
  | .mul, _, .int k => match see h x with
    | some (.lst a) => if a.length * k.toNat ≤ szLine && decide (-1000000 < k) && decide (k < 1000000) then newLst mu (List.replicate k.toNat a).flatten h else .stk
    | some (.tup a) => if !a.isEmpty && decide (a.length ≤ 1000) && decide (2 ≤ k) && decide (k ≤ 1000) then .ok (.tup (List.replicate k.toNat a).flatten) h else .stk
    | some (.str [c]) => if decide (2 ≤ k) && decide (k ≤ 100000) then .ok (.str (List.replicate k.toNat c)) h else .stk
    | _ => .stk
  | _, _, _ => .stk
def isIn (x y : PV) (h : PH) : Option Bool := match see h y with
  | some (.lst ys) => if x.plain && PV.plainL ys && decide (x.depth ≤ 60) then some (ys.any fun z => z.eqv x) else none
  | some (.fls ys) => if x.plain && PV.plainL ys && decide (x.depth ≤ 60) then some (ys.any fun z => z.eqv x) else none
  | some (.tup ys) => if x.plain && PV.plainL ys && decide (x.depth ≤ 60) then some (ys.any fun z => z.eqv x) else none
  | some (.ftp ys) => if x.plain && PV.plainL ys && decide (x.depth ≤ 60) then some (ys.any fun z => z.eqv x) else none
  | some (.str t) => match x with
    | .str [c] => some (t.contains c)
    | _ => none
  | some (.dct tk kvs) => if keyOk tk x then some (dget kvs x).isSome else none
  | some (.fdc kvs) => if keyOk false x then some (dget kvs x).isSome else none
  | _ => none
/-- == of tuples: all that is compared is data -/
def eqPart : PV → PV → Option Bool
  | .tup xs, .tup ys => if (xs.zip ys).all (fun p => eqOk p.1 p.2) then some (PV.eqvL xs ys) else none
  | _, _ => none
def cmpop (op : Cm) (x y : PV) (h : PH) : Option Bool := match op with
  | .isN => match y with
    | .non => some (isNon x)
    | _ => none
  | .notN => match y with
    | .non => some (!isNon x)
    | _ => none
  | .inn => isIn x y h
  | .nin => (isIn x y h).map (!·)
  | .eq => match see h x, see h y with
    | some a, some b => if eqOk a b then some (a.eqv b) else eqPart a b
    | _, _ => none
  | .ne => match see h x, see h y with
    | some a, some b => if eqOk a b then some (!a.eqv b) else none
    | _, _ => none
  | .lt => match see h x, see h y with
    | some a, some b => if ltOk a b then some (a.lt b) else none
    | _, _ => none
  | .gt => match see h x, see h y with
    | some a, some b => if ltOk a b then some (b.lt a) else none
    | _, _ => none
  | .le => match see h x, see h y with
    | some a, some b => if ltOk a b then some (!b.lt a) else none
    | _, _ => none
  | .ge => match see h x, see h y with
    | some a, some b => if ltOk a b then some (!a.lt b) else none
    | _, _ => none
def ofB (o : Option Bool) (h : PH) : R PV := match o with
  | some b => .ok (.bl b) h
  | none => .stk
def ixop (x i : PV) (h : PH) : R PV := match see h x with
  | some (.lst xs) => match i with
    | .int k => match (ixN xs.length k).bind (xs[·]?) with
      | some v => .ok v h
      | none => .stk
    | _ => .stk
  | some (.fls xs) => match i with
    | .int k => match (ixN xs.length k).bind (xs[·]?) with
      | some v => .ok v h
      | none => .stk
    | _ => .stk
  | some (.tup xs) => match i with
    | .int k => match (ixN xs.length k).bind (xs[·]?) with
      | some v => .ok v h
      | none => .stk
    | _ => .stk
  | some (.ftp xs) => match i with
    | .int k => match (ixN xs.length k).bind (xs[·]?) with
      | some v => .ok v h
      | none => .stk
    | _ => .stk
  | some (.fdc kvs) => if keyOk false i then match dget kvs i with
      | some v => .ok v h
      | none => .stk
    else .stk
  | some (.str xs) => match i with
    | .int k => match (ixN xs.length k).bind (xs[·]?) with
      | some c => if xs.length ≤ szLine then .ok (.str [c]) h else .stk
      | none => .stk
    | _ => .stk
  | some (.dct tk kvs) => if keyOk tk i then match dget kvs i with
      | some v => .ok v h
      | none => .stk
    else .stk
  | _ => .stk
def slcop (mu : Bool) (x lo hi : PV) (h : PH) : R PV := match see h x with
  | some (.lst xs) => match sIx xs.length 0 lo, sIx xs.length xs.length hi with
    | some i, some j => newLst mu (cut xs i j) h
    | _, _ => .stk
  | some (.tup xs) => match sIx xs.length 0 lo, sIx xs.length xs.length hi with
    | some i, some j => .ok (.tup (cut xs i j)) h
    | _, _ => .stk
  | some (.str xs) => match sIx xs.length 0 lo, sIx xs.length xs.length hi with
    | some i, some j => if xs.length ≤ szLine then .ok (.str (cut xs i j)) h else .stk
    | _, _ => .stk
  | _ => .stk
def isPart : PV → Bool
  | .non => true
  | .int _ => true
  | _ => false
def revop (mu : Bool) (x : PV) (h : PH) : R PV := match see h x with
  | some (.lst xs) => newLst mu xs.reverse h
  | some (.tup xs) => .ok (.tup xs.reverse) h
  | _ => .stk
/-- built-in types -/
inductive Bt where
  | int | bool | str | tup | lst | dct | non
def btOf (h : PH) (x : PV) : Option Bt := match see h x with
  | some (.int _) => some .int
  | some (.bl _) => some .bool
  | some (.str _) => some .str
  | some (.tup _) => some .tup
  | some (.ftp _) => some .tup
  | some (.lst _) => some .lst
  | some (.fls _) => some .lst
  | some (.dct false _) => some .dct
  | some .non => some .non
  | _ => none
def tyIs : Ty → Bt → Bool
  | .tint, .int => true
  | .tint, .bool => true
  | .tbool, .bool => true
  | .tstr, .str => true
  | .ttup, .tup => true
  | .tlst, .lst => true
  | .tdct, .dct => true
  | _, _ => false
def isTup0 : PV → Bool
  | .tup (_ :: _) => true
  | _ => false
def isTup : PV → Bool
  | .tup _ => true
  | _ => false
/-- sorted may be asked -/
def sortable (xs : List PV) : Bool := (xs.all fun x => xs.all fun y => x.like y) && (xs.all isTup0 || xs.all fun x => !isNon x && !isTup x) && xs.all fun x => x.plain && decide (x.depth ≤ 60)
def sortS (xs : List PV) : List PV := xs.mergeSort fun a b => !PV.lt b a
def boolsL : List PV → Option (List Bool)
  | [] => some []
  | .bl b :: r => (boolsL r).map (b :: ·)
  | _ => none
def intsL : List PV → Option (List Int)
  | [] => some []
  | .int b :: r => (intsL r).map (b :: ·)
  | _ => none
def txtsL : List PV → Option (List Tx)
  | [] => some []
  | .str b :: r => (txtsL r).map (b :: ·)
  | _ => none
def maxI (a : Int) (l : List Int) : Int := l.foldl (fun m y => if m < y then y else m) a
def minI (a : Int) (l : List Int) : Int := l.foldl (fun m y => if y < m then y else m) a
def setH (h : PH) (n : Nat) (o : PO) : PH := h.set n o
def tlen (parts : List Tx) (S : Tx) : Nat := (parts.map fun p => p.length + S.length).sum
def replT (S T : Tx) : Nat → Nat → Tx → Tx
  | 0, _, l => l
  | _ + 1, _, [] => []
  | n + 1, k + 1, _ :: r => replT S T (n + 1) k r
  | n + 1, 0, c :: r => if pre S (c :: r) then T ++ replT S T n (S.length - 1) r else c :: replT S T (n + 1) 0 r

/-! ### the heap -/
def upH (h : PH) (n : Nat) (o : PO) : PH := h.set n o
/-- what is called -/
def primop (rep : PV → Tx) (p : Pr) (vs : List PV) (h : PH) : R PV := match p, vs with
  | .isa ts, [x] => match btOf h x with
    | some b => .ok (.bl (ts.any fun t => tyIs t b)) h
    | none => .stk
  | .len, [x] => match see h x with
    | some (.lst xs) => .ok (.int xs.length) h
    | some (.fls xs) => .ok (.int xs.length) h
    | some (.tup xs) => .ok (.int xs.length) h
    | some (.ftp xs) => .ok (.int xs.length) h
    | some (.fdc xs) => .ok (.int xs.length) h
    | some (.str xs) => if xs.length ≤ szLine then .ok (.int xs.length) h else .stk
    | some (.dct _ kvs) => .ok (.int kvs.length) h
    | _ => .stk
  | .str, [.int i] => if small i then .ok (.str (intL i)) h else .stk
  | .str, [.str x] => .ok (.str x) h
  | .int, [.int i] => .ok (.int i) h
  | .int, [.bl b] => .ok (.int (if b then 1 else 0)) h
  | .int, [.str x] => match intOf x with
    | some i => if x.length ≤ 600 then .ok (.int i) h else .stk
    | none => .stk
  | .repr, [x] => if x.shw && decide (x.depth ≤ 60) && decide (x.wt ≤ szLine) then .ok (.str (rep x)) h else .stk
  | .tuple, [x] => match see h x with
    | some (.tup xs) => .ok (.tup xs) h
    | some (.ftp xs) => .ok (.ftp xs) h
    | some (.lst xs) => .ok (.tup xs) h
    | some (.fls xs) => .ok (.tup xs) h
    | _ => .stk
  | .list mu, [x] => match seqOf h x with
    | some xs => newLst mu xs h
    | none => .stk
  | .sorted mu, [x] => match lstOf h x with
    | some xs => if sortable xs && decide (xs.length ≤ szLine) then newLst mu (sortS xs) h else .stk
    | none => .stk
  | .all, [x] => match (lstOf h x).bind boolsL with
    | some bs => .ok (.bl (bs.all id)) h
    | none => .stk
  | .any, [x] => match (lstOf h x).bind boolsL with
    | some bs => .ok (.bl (bs.any id)) h
    | none => .stk
  | .sum, [x] => match (lstOf h x).bind intsL with
    | some ns => .ok (.int ns.sum) h
    | none => .stk
  | .max, [.int i, .int j] => .ok (.int (if j > i then j else i)) h
  | .min, [.int i, .int j] => .ok (.int (if j < i then j else i)) h
  | .abs, [.int i] => .ok (.int (if i < 0 then -i else i)) h
  | .divmod, [.int i, .int j] => if 0 < j && decide (j < 1073741824) then .ok (.tup [.int (i / j), .int (i % j)]) h else .stk
  | _, _ => .stk

inductive Kd where
  | str | lst | dct | tup | none
/-- what kind of a built-in it is -/
def kind (h : PH) (x : PV) : Kd := match see h x with
  | some (.str _) => .str
  | some (.lst _) => .lst
  | some (.dct _ _) => .dct
  | some (.fdc _) => .dct
  | _ => .none
/-- the method is one of that kind's -/
def recvOk (p : Pr) (k : Kd) : Bool := match p, k with
  | .split _, .str => true
  | .join, .str => true
  | .append, .lst => true
  | .insert, .lst => true
  | .pop, .lst => true
  | .extend, .lst => true
  | .count, .lst => true
  | .get, .dct => true
  | _, _ => false
def popAt (h : PH) (n : Nat) (xs : List PV) : PV → R PV
  | .int i => match ixN xs.length i with
    | some j => match xs[j]? with
      | some v => .ok v (upH h n (.lst (xs.eraseIdx j)))
      | none => .stk
    | none => .stk
  | _ => .stk
def getop (h : PH) (x k d : PV) : R PV := match see h x with
  | some (.dct tk kvs) => if keyOk tk k then .ok ((dget kvs k).getD d) h else .stk
  | some (.fdc kvs) => if keyOk false k then .ok ((dget kvs k).getD d) h else .stk
  | _ => .stk
/-- a method of a built-in, by values -/
def mthop (p : Pr) (x : PV) (vs : List PV) (h : PH) : R PV := match p, x, vs with
  | .split mu, .str x, [.str y] => if (!y.isEmpty) && y.all (fun c => decide (c < 256)) && decide (x.length + 2 ≤ szLine) then newLst mu ((spl y 0 [] x).map PV.str) h else .stk
  | .join, .str y, [x] => match (seqOf h x).bind txtsL with
    | some ts => if tlen ts y ≤ szLine then .ok (.str (joinL y ts)) h else .stk
    | none => .stk
  | .replace, .str x, [.str y, .str z] => if (!y.isEmpty) && decide (x.length * (z.length + 1) ≤ 1000000) then .ok (.str (replT y z x.length 0 x)) h else .stk
  | .replace, .str x, [.str y, .str z, .int k] => if (!y.isEmpty) && decide (0 ≤ k) && decide (x.length * (z.length + 1) ≤ 1000000) then .ok (.str (replT y z k.toNat 0 x)) h else .stk
  | .append, .ref n, [v] => match h[n]? with
    | some (.lst xs) => if xs.length < szLine then .ok .non (upH h n (.lst (xs ++ [v]))) else .stk
    | _ => .stk
  | .insert, .ref n, [.int i, v] => match h[n]? with
    | some (.lst xs) => if xs.length < szLine && decide (0 ≤ i) && decide (i ≤ xs.length) then .ok .non (upH h n (.lst (xs.take i.toNat ++ [v] ++ xs.drop i.toNat))) else .stk
    | _ => .stk
  | .extend, .ref n, [x] => match h[n]?, see h x with
    | some (.lst xs), some (.lst ys) => if xs.length + ys.length ≤ szLine then .ok .non (upH h n (.lst (xs ++ ys))) else .stk
    | _, _ => .stk
  | .pop, .ref n, [] => match h[n]? with
    | some (.lst xs) => match xs.getLast? with
      | some v => .ok v (upH h n (.lst xs.dropLast))
      | none => .stk
    | _ => .stk
  | .pop, .ref n, [k] => match h[n]? with
    | some (.lst xs) => popAt h n xs k
    | _ => .stk
  | .get, x, [k] => getop h x k .non
  | .get, x, [k, d] => getop h x k d
  | .count, x, [v] => match see h x with
    | some (.lst xs) => if v.plain && PV.plainL xs && decide (v.depth ≤ 60) then .ok (.int ((xs.countP fun z => z.eqv v : Nat) : Int)) h else .stk
    | _ => .stk
  | _, _, _ => .stk

/-! ### a comprehension's and a loop's items -/
def rngL (i : Int) (n : Nat) : List PV := (List.range n).map fun k => .int (i + (k : Nat))
def zipT : List PV → List PV → List PV
  | x :: xs, y :: ys => .tup [x, y] :: zipT xs ys
  | _, _ => []
def enmT (i : Int) : List PV → List PV
  | [] => []
  | x :: xs => .tup [.int i, x] :: enmT (i + 1) xs
def lockOf : PV → List Nat
  | .ref n => [n]
  | _ => []
/-- what is not locked yet -/
def newOf (h : PH) : PV → List Nat
  | .ref n => match h[n]? with
    | some (.lst _) => [n]
    | _ => []
  | _ => []
def lockH (h : PH) : List Nat → PH
  | [] => h
  | n :: r => match h[n]? with
    | some (.lst xs) => lockH (h.set n (.lck (.lst xs))) r
    | _ => lockH h r
def unlockH (h : PH) : List Nat → PH
  | [] => h
  | n :: r => match h[n]? with
    | some (.lck (.lst xs)) => unlockH (h.set n (.lst xs)) r
    | _ => unlockH h r
/-- what is locked stands as it stood -/
def held (h0 : PH) (lk : List Nat) (h : PH) : Bool := lk.all fun n => match h0[n]?, h[n]? with
  | some a, some b => PO.same a b
  | _, _ => false
def itemsOf (h : PH) (v : PV) : Option (List PV) := match see h v with
  | some (.lst xs) => some xs
  | some (.fls xs) => some xs
  | some (.tup xs) => some xs
  | some (.ftp xs) => some xs
  | some (.str xs) => some (xs.map fun c => .str [c])
  | _ => none
def wipe (ρ : Env) : List Nat → Env
  | [] => ρ
  | i :: r => (wipe ρ r).set i none
mutual
def asg : Tg → PV → PH → Env → Option Env
  | .nm i, v, _, ρ => if i < ρ.length then some (ρ.set i (some v)) else none
  | .tp ts, v, h, ρ => match see h v with
    | some (.tup vs) => asgL ts vs h ρ
    | some (.ftp vs) => asgL ts vs h ρ
    | _ => none
def asgL : List Tg → List PV → PH → Env → Option Env
  | [], [], _, ρ => some ρ
  | t :: ts, v :: vs, h, ρ => match asg t v h ρ with
    | some ρ' => asgL ts vs h ρ'
    | none => none
  | _, _, _, _ => none
end
/-- items, and what is locked while they are walked -/
structure Its where
  xs : List PV
  lk : List Nat
  nl : List Nat
def getFld (fs : List (Tx × PV)) (f : Tx) : Option PV := fs.lookup f
def putFld (f : Tx) (v : PV) : List (Tx × PV) → List (Tx × PV)
  | [] => [(f, v)]
  | (g, u) :: r => if g = f then (g, v) :: r else (g, u) :: putFld f v r
/-- the comprehension's loop: what a turn does is tn, its new item or none -/
def lcLoop (ck : PH → Bool) (tn : PV → PH → R (Option PV)) : List PV → List PV → PH → R (List PV)
  | [], acc, h => if ck h then .ok acc h else .stk
  | x :: xs, acc, h => if ck h then (tn x h).bind fun o h1 => match o with
    | some v => if acc.length < szLine then lcLoop ck tn xs (acc ++ [v]) h1 else .stk
    | none => lcLoop ck tn xs acc h1
    else .stk
def lcLoop2 (ck : PH → Bool) (tn : PV → List PV → PH → R (List PV)) : List PV → List PV → PH → R (List PV)
  | [], acc, h => if ck h then .ok acc h else .stk
  | x :: xs, acc, h => if ck h then (tn x acc h).bind fun acc1 h1 => lcLoop2 ck tn xs acc1 h1 else .stk
def dcLoop (ck : PH → Bool) (tk : Bool) (tn : PV → PH → R (Option (PV × PV))) : List PV → List (PV × PV) → PH → R (List (PV × PV))
  | [], acc, h => if ck h then .ok acc h else .stk
  | x :: xs, acc, h => if ck h then (tn x h).bind fun o h1 => match o with
    | some (k, v) => if acc.length < szLine && keyOk tk k then dcLoop ck tk tn xs (dput acc k v) h1 else .stk
    | none => dcLoop ck tk tn xs acc h1
    else .stk
def tupOf : PV → Option (List PV)
  | .tup xs => some xs
  | .ftp xs => some xs
  | _ => none
/-- zip of two lists, of two tuples -/
def zipOp (v u : PV) (h : PH) : R Its := match lstOf h v, lstOf h u with
  | some xs, some ys => .ok ⟨zipT xs ys, lockOf v ++ lockOf u, newOf h v ++ newOf h u⟩ h
  | _, _ => match tupOf v, tupOf u with
    | some xs, some ys => .ok ⟨zipT xs ys, lockOf v ++ lockOf u, newOf h v ++ newOf h u⟩ h
    | _, _ => .stk
/-- enumerate of a list; of a tuple, from 0 -/
def enmOp (st : Int) (v : PV) (h : PH) : R Its := match lstOf h v with
  | some xs => .ok ⟨enmT st xs, lockOf v, newOf h v⟩ h
  | none => match tupOf v with
    | some xs => if st = 0 then .ok ⟨enmT 0 xs, [], []⟩ h else .stk
    | none => .stk
/-- zip of a tuple and a list -/
def zipMop (v u : PV) (h : PH) : R Its := match tupOf v, lstOf h u with
  | some xs, some ys => .ok ⟨zipT xs ys, lockOf u, newOf h u⟩ h
  | _, _ => .stk
def rngop (vs : List PV) (h1 : PH) : R Its := match vs with
  | [.int j] => if decide (j.natAbs < 4611686018427387904) then .ok ⟨rngL 0 j.toNat, [], []⟩ h1 else .stk
  | [.int i, .int j] => if decide (i.natAbs < 4611686018427387904) && decide (j.natAbs < 4611686018427387904) then .ok ⟨rngL i (j - i).toNat, [], []⟩ h1 else .stk
  | _ => .stk
/-- nothing raised may leave a comprehension -/
def R.calm {α : Type} : R α → R α
  | .exc _ _ _ => .stk
  | r => r
/-- key, value, key, value, .. -/
def pairUp (tk : Bool) : List PV → Option (List (PV × PV))
  | [] => some []
  | k :: v :: r => if keyOk tk k then (pairUp tk r).map ((k, v) :: ·) else none
  | _ => none
def truth (v : PV) : Option Bool := match v with
  | .bl b => some b
  | _ => none
/-- a truth value, else stuck -/
def R.toB (r : R PV) : R Bool := match r with
  | .ok (.bl b) h => .ok b h
  | .ok _ _ => .stk
  | .exc c a h => .exc c a h
  | .stk => .stk
/-- a turn's test -/
def R.test {α : Type} (r : R PV) (f : Bool → PH → R α) : R α := r.toB.bind f
/-- a dict's pairs -/
def dctOf? (h : PH) (v : PV) : Option (List (PV × PV)) := match v with
  | .ref n => match h[n]? with
    | some (.dct false kvs) => some kvs
    | _ => none
  | _ => none
/-- the keys of a dict that is locked -/
def keysOf (h : PH) (v : PV) : Option (List PV) := match v with
  | .ref n => match h[n]? with
    | some (.lck (.dct false kvs)) => some (kvs.map (·.1))
    | _ => none
  | _ => none
/-- the dict that a name holds is locked -/
def shut (ρ : Env) (x : Nat) (h : PH) : Option (Nat × PH) := match ρ[x]? with
  | some (some (.ref n)) => match h[n]? with
    | some (.dct false kvs) => some (n, h.set n (.lck (.dct false kvs)))
    | _ => none
  | _ => none
/-- .. and unlocked -/
def openD (n : Nat) (h : PH) : Option PH := match h[n]? with
  | some (.lck (.dct false kvs)) => some (h.set n (.dct false kvs))
  | _ => none
def R.thaw {α : Type} (n : Nat) (r : R α) : R α := match r with
  | .ok v h => match openD n h with
    | some h1 => .ok v h1
    | none => .stk
  | _ => .stk
mutual
def evE (G : Ctx) : CE → Env → PH → R PV
  | .var i, ρ, h => match ρ[i]? with
    | some (some v) => .ok v h
    | _ => .stk
  | .cst v, _, h => .ok v h
  | .glb i, _, h => match G.glbs[i]? with
    | some v => .ok v h
    | none => .stk
  | .bin op mu a b, ρ, h => (evE G a ρ h).bind fun x h1 => (evE G b ρ h1).bind fun y h2 => binop op mu x y h2
  | .neg a, ρ, h => (evE G a ρ h).bind fun x h1 => match x with
    | .int i => .ok (.int (-i)) h1
    | _ => .stk
  | .cmp op a b, ρ, h => (evE G a ρ h).bind fun x h1 => (evE G b ρ h1).bind fun y h2 => ofB (cmpop op x y h2) h2
  | .chn op op' a b c, ρ, h => (evE G a ρ h).bind fun x h1 => (evE G b ρ h1).bind fun y h2 => match cmpop op x y h2 with
    | some true => (evE G c ρ h2).bind fun z h3 => ofB (cmpop op' y z h3) h3
    | some false => .ok (.bl false) h2
    | none => .stk
  | .and a b, ρ, h => (evE G a ρ h).test fun t h1 => if t then (evE G b ρ h1).test fun u h2 => .ok (.bl u) h2 else .ok (.bl false) h1
  | .or a b, ρ, h => (evE G a ρ h).test fun t h1 => if t then .ok (.bl true) h1 else (evE G b ρ h1).test fun u h2 => .ok (.bl u) h2
  | .not a, ρ, h => (evE G a ρ h).test fun t h1 => .ok (.bl (!t)) h1
  | .ite c a b, ρ, h => (evE G c ρ h).test fun t h1 => if t then evE G a ρ h1 else evE G b ρ h1
  | .tup es, ρ, h => (evL G es ρ h).bind fun vs h1 => if vs.length ≤ szLine then .ok (.tup vs) h1 else .stk
  | .lst mu es, ρ, h => (evL G es ρ h).bind fun vs h1 => if vs.length ≤ szLine then newLst mu vs h1 else .stk
  | .dct mu tk es, ρ, h => (evL G es ρ h).bind fun vs h1 => match pairUp tk vs with
    | some kvs => if kvs.length ≤ 15 then newDct mu tk (kvs.foldl (fun acc p => dput acc p.1 p.2) []) h1 else .stk
    | none => .stk
  | .ix a b, ρ, h => (evE G a ρ h).bind fun x h1 => (evE G b ρ h1).bind fun y h2 => ixop x y h2
  | .slc mu a lo hi, ρ, h => (evE G a ρ h).bind fun x h1 => (evE G lo ρ h1).bind fun y h2 => if isPart y then (evE G hi ρ h2).bind fun z h3 => slcop mu x y z h3 else .stk
  | .rev mu a, ρ, h => (evE G a ρ h).bind fun x h1 => revop mu x h1
  | .fld a f, ρ, h => (evE G a ρ h).bind fun x h1 => match x with
    | .ref n => match h1[n]? with
      | some (.ins _ fs) => match getFld fs f with
        | some v => .ok v h1
        | none => .stk
      | _ => .stk
    | _ => .stk
  | .xfld a f, ρ, h => (evE G a ρ h).bind fun x h1 => match x with
    | .exc c a => if G.exs.contains c && decide (exFld c = f) then .ok a h1 else .stk
    | _ => .stk
  | .isx a cs, ρ, h => (evE G a ρ h).bind fun x h1 => match x with
    | .exc c _ => if G.exs.contains c then .ok (.bl (cs.contains c)) h1 else .stk
    | _ => .stk
  | .rpl one a y z, ρ, h => (evE G a ρ h).bind fun x h1 => match x with
    | .str x => if x.length + (x.length + 1) * z.length ≤ 16777216 then .ok (.str (G.ops.rpl one x y z)) h1 else .stk
    | _ => .stk
  | .upp a, ρ, h => (evE G a ρ h).bind fun x h1 => match x with
    | .str x => if x.length ≤ 5592405 then .ok (.str (G.ops.upr x)) h1 else .stk
    | _ => .stk
  | .emp neg a, ρ, h => (evE G a ρ h).bind fun x h1 => match dctOf? h1 x with
    | some kvs => .ok (.bl (if neg then !kvs.isEmpty else kvs.isEmpty)) h1
    | none => .stk
  | .kcE x e, ρ, h => match shut ρ x h with
    | some (n, h1) => R.thaw n (evE G e ρ h1)
    | none => .stk
  | .call f es, ρ, h => (evL G es ρ h).bind fun vs h1 => match G.fns[f]? with
    | some g => g vs h1
    | none => .stk
  | .meth m o es, ρ, h => (evE G o ρ h).bind fun x h1 => (evL G es ρ h1).bind fun vs h2 => match x with
    | .ref n => match h1[n]? with
      | some (.ins c _) => match (G.meths.find? fun q => decide (q.1 = (c, m))).map (·.2) with
        | some g => g (x :: vs) h2
        | none => .stk
      | _ => .stk
    | _ => .stk
  | .mk c es, ρ, h => (evL G es ρ h).bind fun vs h1 => match (G.inits.find? fun q => decide (q.1 = c)).map (·.2) with
    | some g => (g (.ref h1.length :: vs) (h1 ++ [.ins c []])).bind fun _ h2 => .ok (.ref h1.length) h2
    | none => .stk
  | .prim p es, ρ, h => (evL G es ρ h).bind fun vs h1 => primop G.rep p vs h1
  | .mth p o es, ρ, h => (evE G o ρ h).bind fun x h1 => if recvOk p (kind h1 x) then (evL G es ρ h1).bind fun vs h2 => mthop p x vs h2 else .stk
  | .lc mu own t it c e, ρ, h => (evI G it ρ h).bind fun its h1 => (lcLoop (held (lockH h1 its.nl) its.lk) (fun x h2 => match asg t x h2 (wipe ρ own) with
      | some ρ1 => ((evE G c ρ1 h2).test fun b h3 => if b then (evE G e ρ1 h3).bind fun v h4 => .ok (some v) h4 else .ok none h3).calm
      | none => .stk) its.xs [] (lockH h1 its.nl)).bind fun vs h5 => newLst mu vs (unlockH h5 its.nl)
  | .lc2 mu own t it c t2 it2 c2 e, ρ, h => (evI G it ρ h).bind fun its h1 => (lcLoop2 (held (lockH h1 its.nl) its.lk) (fun x acc h2 => match asg t x h2 (wipe ρ own) with
      | some ρ1 => ((evE G c ρ1 h2).test fun b h3 => if b then (evI G it2 ρ1 h3).bind fun its2 h4 => (lcLoop (held (lockH h4 its2.nl) its2.lk) (fun y h5 => match asg t2 y h5 ρ1 with
          | some ρ2 => ((evE G c2 ρ2 h5).test fun b2 h6 => if b2 then (evE G e ρ2 h6).bind fun v h7 => .ok (some v) h7 else .ok none h6).calm
          | none => .stk) its2.xs acc (lockH h4 its2.nl)).bind fun acc1 h8 => .ok acc1 (unlockH h8 its2.nl) else .ok acc h3).calm
      | none => .stk) its.xs [] (lockH h1 its.nl)).bind fun vs h5 => newLst mu vs (unlockH h5 its.nl)
  | .dc mu tk own t it c k e, ρ, h => (evI G it ρ h).bind fun its h1 => (dcLoop (held (lockH h1 its.nl) its.lk) tk (fun x h2 => match asg t x h2 (wipe ρ own) with
      | some ρ1 => ((evE G c ρ1 h2).test fun b h3 => if b then (evE G k ρ1 h3).bind fun u h4 => (evE G e ρ1 h4).bind fun v h5 => .ok (some (u, v)) h5 else .ok none h3).calm
      | none => .stk) its.xs [] (lockH h1 its.nl)).bind fun kvs h5 => newDct mu tk kvs (unlockH h5 its.nl)
  | .said f x e, ρ, h => match (h[0]? : Option PO) with
    | some (.tbl y) => if y = x then match G.saids[f]? with
        | some g => g (fun h1 => evE G e ρ h1) h
        | none => .stk
      else .stk
    | _ => .stk
def evL (G : Ctx) : CEs → Env → PH → R (List PV)
  | .nil, _, h => .ok [] h
  | .cons e es, ρ, h => (evE G e ρ h).bind fun v h1 => (evL G es ρ h1).bind fun vs h2 => .ok (v :: vs) h2
def evI (G : Ctx) : CI → Env → PH → R Its
  | .val e, ρ, h => (evE G e ρ h).bind fun v h1 => match itemsOf h1 v with
    | some xs => .ok ⟨xs, lockOf v, newOf h1 v⟩ h1
    | none => .stk
  | .rng es, ρ, h => (evL G es ρ h).bind fun vs h1 => rngop vs h1
  | .enm e st, ρ, h => (evE G e ρ h).bind fun v h1 => enmOp st v h1
  | .zip a b, ρ, h => (evE G a ρ h).bind fun v h1 => (evE G b ρ h1).bind fun u h2 => zipOp v u h2
  | .zipM a b, ρ, h => (evE G a ρ h).bind fun v h1 => (evE G b ρ h1).bind fun u h2 => zipMop v u h2
  | .items _, _, _ => .stk
  | .values _, _, _ => .stk
  | .keys e, ρ, h => (evE G e ρ h).bind fun v h1 => match keysOf h1 v with
    | some xs => .ok ⟨xs, [], []⟩ h1
    | none => .stk
  | .rev e, ρ, h => (evE G e ρ h).bind fun v h1 => match seqOf h1 v with
    | some xs => .ok ⟨xs.reverse, lockOf v, newOf h1 v⟩ h1
    | _ => .stk
end

/-! ### statements -/
inductive RS where
  | nx (ρ : Env) (h : PH) | ret (v : PV) (h : PH) | brk (ρ : Env) (h : PH) | cnt (ρ : Env) (h : PH) | exc (c : Nat) (a : PV) (h : PH) | stk
/-- from an expression's result -/
def R.on {α : Type} (r : R α) (f : α → PH → RS) : RS := match r with
  | .ok a h => f a h
  | .exc c a h => .exc c a h
  | .stk => .stk
def R.onT (r : R PV) (f : Bool → PH → RS) : RS := r.toB.on f
/-- op= of what never changes -/
def augop (op : Op) (x y : PV) (h : PH) : R PV := match op, x, y with
  | .add, .int i, .int j => .ok (.int (i + j)) h
  | .sub, .int i, .int j => .ok (.int (i - j)) h
  | .mul, .int i, .int j => if small i || small j then .ok (.int (i * j)) h else .stk
  | .fdiv, .int i, .int j => if 0 < j && small j then .ok (.int (i / j)) h else .stk
  | .mod, .int i, .int j => if 0 < j then .ok (.int (i % j)) h else .stk
  | .shl, .int i, .int j => if 0 ≤ j && decide (j ≤ 1000000) && small i then .ok (.int (i * 2 ^ j.toNat)) h else .stk
  | .shr, .int i, .int j => if 0 ≤ j then .ok (.int (i / 2 ^ j.toNat)) h else .stk
  | .add, .str a, .str b => if a.length + b.length ≤ szLine then .ok (.str (a ++ b)) h else .stk
  | _, _, _ => .stk
/-- an item of a dict -/
def ixopD (x k : PV) (h : PH) : R PV := match see h x with
  | some (.dct tk kvs) => if keyOk tk k then match dget kvs k with
      | some v => .ok v h
      | none => .stk
    else .stk
  | _ => .stk
def setIx (o i v : PV) (h : PH) : Option PH := match o with
  | .ref n => match h[n]? with
    | some (.lst xs) => match i with
      | .int k => match ixN xs.length k with
        | some j => some (upH h n (.lst (xs.set j v)))
        | none => none
      | _ => none
    | some (.dct tk kvs) => if keyOk tk i && decide (kvs.length < szLine) then some (upH h n (.dct tk (dput kvs i v))) else none
    | _ => none
  | _ => none
def setFd (o : PV) (f : Tx) (v : PV) (h : PH) : Option PH := match o with
  | .ref n => match h[n]? with
    | some (.ins c fs) => if fs.length < 900 then some (upH h n (.ins c (putFld f v fs))) else none
    | _ => none
  | _ => none
mutual
def stP (G : Ctx) : Pl → PV → Env → PH → RS
  | .nm i, v, ρ, h => if i < ρ.length then .nx (ρ.set i (some v)) h else .stk
  | .tp ts, v, ρ, h => match see h v with
    | some (.tup vs) => if vs.length = ts.length then stPs G ts vs ρ h else .stk
    | some (.ftp vs) => if vs.length = ts.length then stPs G ts vs ρ h else .stk
    | _ => .stk
  | .sub o i, v, ρ, h => (evE G o ρ h).on fun x h1 => (evE G i ρ h1).on fun y h2 => match setIx x y v h2 with
    | some h3 => .nx ρ h3
    | none => .stk
  | .fld o f, v, ρ, h => (evE G o ρ h).on fun x h1 => match setFd x f v h1 with
    | some h2 => .nx ρ h2
    | none => .stk
def stPs (G : Ctx) : List Pl → List PV → Env → PH → RS
  | [], [], ρ, h => .nx ρ h
  | t :: ts, v :: vs, ρ, h => match stP G t v ρ h with
    | .nx ρ1 h1 => stPs G ts vs ρ1 h1
    | r => r
  | _, _, _, _ => .stk
end
/-- a loop over items: b is the body, with the target's store -/
def forLoop (ck : PH → Bool) (b : PV → Env → PH → RS) : List PV → Env → PH → RS
  | [], ρ, h => if ck h then .nx ρ h else .stk
  | x :: xs, ρ, h => if ck h then match b x ρ h with
    | .nx ρ1 h1 => forLoop ck b xs ρ1 h1
    | .cnt ρ1 h1 => forLoop ck b xs ρ1 h1
    | .brk ρ1 h1 => if ck h1 then .nx ρ1 h1 else .stk
    | .ret v h1 => if ck h1 then .ret v h1 else .stk
    | .exc c a h1 => if ck h1 then .exc c a h1 else .stk
    | .stk => .stk
    else .stk
def whlLoop (c : Env → PH → R PV) (b : Env → PH → RS) : Nat → Env → PH → RS
  | 0, _, _ => .stk
  | n + 1, ρ, h => (c ρ h).onT fun t h1 => if t then match b ρ h1 with
      | .nx ρ1 h2 => whlLoop c b n ρ1 h2
      | .cnt ρ1 h2 => whlLoop c b n ρ1 h2
      | .brk ρ1 h2 => .nx ρ1 h2
      | r => r
    else .nx ρ h1
def RS.thaw (n : Nat) (r : RS) : RS := match r with
  | .nx ρ h => match openD n h with
    | some h1 => .nx ρ h1
    | none => .stk
  | .ret v h => match openD n h with
    | some h1 => .ret v h1
    | none => .stk
  | _ => .stk
def RS.mapH (f : PH → PH) : RS → RS
  | .nx ρ h => .nx ρ (f h)
  | .ret v h => .ret v (f h)
  | .brk ρ h => .brk ρ (f h)
  | .cnt ρ h => .cnt ρ (f h)
  | .exc c a h => .exc c a (f h)
  | .stk => .stk
mutual
def evS (G : Ctx) : CS → Env → PH → RS
  | .expr e, ρ, h => (evE G e ρ h).on fun _ h1 => .nx ρ h1
  | .asg t e, ρ, h => (evE G e ρ h).on fun v h1 => stP G t v ρ h1
  | .aug (.nm i) op e, ρ, h => match ρ[i]? with
    | some (some x) => (evE G e ρ h).on fun y h1 => (augop op x y h1).on fun z h2 => .nx (ρ.set i (some z)) h2
    | _ => .stk
  | .aug (.sub o i) op e, ρ, h => (evE G o ρ h).on fun x h1 => (evE G i ρ h1).on fun y h2 => (ixopD x y h2).on fun u h3 => (evE G e ρ h3).on fun v h4 => (augop op u v h4).on fun z h5 =>
      match setIx x y z h5 with
      | some h6 => .nx ρ h6
      | none => .stk
  | .aug _ _ _, _, _ => .stk
  | .ret e, ρ, h => (evE G e ρ h).on fun v h1 => .ret v h1
  | .ife c a b, ρ, h => (evE G c ρ h).onT fun t h1 => if t then evSs G a ρ h1 else evSs G b ρ h1
  | .whl c b, ρ, h => whlLoop (evE G c) (evSs G b) G.fuel ρ h
  | .for_ t it b, ρ, h => (evI G it ρ h).on fun its h1 => (forLoop (held (lockH h1 its.nl) its.lk) (fun x ρ1 h2 => match asg t x h2 ρ1 with
      | some ρ2 => evSs G b ρ2 h2
      | none => .stk) its.xs ρ (lockH h1 its.nl)).mapH fun h3 => unlockH h3 its.nl
  | .raise c e, ρ, h => (evE G e ρ h).on fun v h1 => .exc c v h1
  | .tryc i cs j body hdl, ρ, h => match evSs G body ρ h with
    | .exc c a h1 => if cs.contains c && decide (i < ρ.length) then match evSs G hdl (ρ.set i (some (.exc c a))) h1 with
        | .nx ρ2 h2 => .nx (ρ2.set i none) h2
        | _ => .stk
      else .stk
    | r => r
  | .cont, ρ, h => .cnt ρ h
  | .brk, ρ, h => .brk ρ h
  | .pass, ρ, h => .nx ρ h
  | .kcS x s, ρ, h => match shut ρ x h with
    | some (n, h1) => RS.thaw n (evS G s ρ h1)
    | none => .stk
  | .say s, ρ, h => evS G s ρ h
def evSs (G : Ctx) : CSs → Env → PH → RS
  | .nil, ρ, h => .nx ρ h
  | .cons s ss, ρ, h => match evS G s ρ h with
    | .nx ρ1 h1 => evSs G ss ρ1 h1
    | r => r
end

/-- a turn of a comprehension that makes items, as the evaluator has it -/
def lcTurn (G : Ctx) (t : Tg) (ρ : Env) (own : List Nat) (cc ce : CE) (x : PV) (h2 : PH) : R (Option PV) := match asg t x h2 (wipe ρ own) with
  | some ρ1 => ((evE G cc ρ1 h2).test fun b h3 => if b then (evE G ce ρ1 h3).bind fun v h4 => .ok (some v) h4 else .ok none h3).calm
  | none => .stk
theorem lc_eq {G : Ctx} {mu : Bool} {own : List Nat} {t : Tg} {ci : CI} {cc ce : CE} {ρ : Env} {ph : PH} : evE G (.lc mu own t ci cc ce) ρ ph = (evI G ci ρ ph).bind fun its h1 => (lcLoop (held (lockH h1 its.nl) its.lk) (lcTurn G t ρ own cc ce) its.xs [] (lockH h1 its.nl)).bind fun vs h5 => newLst mu vs (unlockH h5 its.nl) := by
  rw [evE]; rfl
/-- a turn of a dict comprehension -/
def dcTurn (G : Ctx) (t : Tg) (ρ : Env) (own : List Nat) (cc ck ce : CE) (x : PV) (h2 : PH) : R (Option (PV × PV)) := match asg t x h2 (wipe ρ own) with
  | some ρ1 => ((evE G cc ρ1 h2).test fun b h3 => if b then (evE G ck ρ1 h3).bind fun u h4 => (evE G ce ρ1 h4).bind fun v h5 => .ok (some (u, v)) h5 else .ok none h3).calm
  | none => .stk
theorem dc_eq {G : Ctx} {mu tk : Bool} {own : List Nat} {t : Tg} {ci : CI} {cc ck ce : CE} {ρ : Env} {ph : PH} : evE G (.dc mu tk own t ci cc ck ce) ρ ph = (evI G ci ρ ph).bind fun its h1 => (dcLoop (held (lockH h1 its.nl) its.lk) tk (dcTurn G t ρ own cc ck ce) its.xs [] (lockH h1 its.nl)).bind fun vs h5 => newDct mu tk vs (unlockH h5 its.nl) := by
  rw [evE]; rfl
def fTurn (G : Ctx) (t : Tg) (b : CSs) (x : PV) (ρ1 : Env) (h2 : PH) : RS := match asg t x h2 ρ1 with
  | some ρ2 => evSs G b ρ2 h2
  | none => .stk
theorem for_eq {G : Ctx} {t : Tg} {it : CI} {b : CSs} {ρ : Env} {h : PH} : evS G (.for_ t it b) ρ h = (evI G it ρ h).on fun its h1 => (forLoop (held (lockH h1 its.nl) its.lk) (fTurn G t b) its.xs ρ (lockH h1 its.nl)).mapH fun h3 => unlockH h3 its.nl := by
  rw [evS]; rfl

/-! ### defs -/
inductive Mode where
  | pure | opn | trim
structure Fn where
  np : Nat
  nl : Nat
  mode : Mode
  body : CSs
def runB (G : Ctx) (f : Fn) (vs : List PV) (h : PH) : R PV := match evSs G f.body (vs.map some ++ List.replicate (f.nl - f.np) none) h with
  | .ret v h1 => .ok v h1
  | .nx _ h1 => .ok .non h1
  | .exc c a h1 => .exc c a h1
  | _ => .stk
/-- a def that calls what it got: caught = None; try: deed() except ..: caught = it; rest. Its slots: the deed, the caught one, the error -/
structure Sd where
  nl : Nat
  cs : List Nat
  rest : CSs
def saidEnd (G : Ctx) (f : Sd) (v : PV) (h : PH) : R PV := match evSs G f.rest (none :: some v :: List.replicate (f.nl - 2) none) h with
  | .ret v h1 => .ok v h1
  | .nx _ h1 => .ok .non h1
  | .exc c a h1 => .exc c a h1
  | _ => .stk
def saidF (G : Ctx) (f : Sd) (d : PH → R PV) (h : PH) : R PV := match d h with
  | .ok _ h1 => saidEnd G f .non h1
  | .exc c a h1 => if f.cs.contains c then saidEnd G f (.exc c a) h1 else .stk
  | .stk => .stk
/-- what was made since n, as trees -/
def frz (n : Nat) (h : PH) : Nat → PV → Option PV
  | 0, v => if v.closed n then some v else none
  | k + 1, v => if v.closed n then some v else match v with
    | .ref m => match h[m]? with
      | some (.lst xs) => (xs.mapM (frz n h k)).map PV.lst
      | some (.dct tk kvs) => (kvs.mapM fun p => (frz n h k p.2).map fun w => (p.1, w)).map (PV.dct tk)
      | _ => none
    | .tup xs => (xs.mapM (frz n h k)).map PV.tup
    | .lst xs => (xs.mapM (frz n h k)).map PV.lst
    | .dct tk kvs => (kvs.mapM fun p => (frz n h k p.2).map fun w => (p.1, w)).map (PV.dct tk)
    | _ => none
/-- leave with the first n objects -/
def leave (n : Nat) (r : R PV) : R PV := match r with
  | .ok v h => match frz n h 6 v with
    | some w => if (h.take n).all (PO.closed n) then .ok w (h.take n) else .stk
    | none => .stk
  | .exc c a h => if a.closed n && (h.take n).all (PO.closed n) then .exc c a (h.take n) else .stk
  | .stk => .stk
/-- leave, the caller's heap as it was -/
def back (h0 : PH) (r : R PV) : R PV := match r with
  | .ok v _ => .ok v h0
  | .exc c a _ => .exc c a h0
  | .stk => .stk
def runF (G : Ctx) (f : Fn) : F1 := fun vs h => if vs.length = f.np then match f.mode with
    | .opn => runB G f vs h
    | .trim => leave h.length (runB G f vs h)
    | .pure => if PV.closedL 0 vs then back h (leave 0 (runB G f vs [])) else .stk
  else .stk
end Ev
end
section
set_option maxRecDepth 100000
/-! EvB: how a value of the evaluator lies in the machine's abstract heap. -/
namespace Ev
open PySem PySem.Spec PyProof.Rows L2

def sT (x : Tx) : Str := ⟨x.toArray⟩
theorem sT_inj {x y : Tx} (h : sT x = sT y) : x = y := by
  have e : x.toArray = y.toArray := congrArg Str.cps h
  simpa using congrArg Array.toList e
theorem sT_len (x : Tx) : (sT x).length = x.length := by simp [sT, Str.length]
def kOf : PV → Option Key
  | .int i => some (.inl i)
  | .str x => some (.inr (sT x))
  | _ => none
def kOfs : List PV → Option (List Key)
  | [] => some []
  | x :: r => (kOf x).bind fun k => (kOfs r).map (k :: ·)

/-- the names of the error classes, in the order of the text, and of their fields -/
def excName : Nat → String × String
  | 0 => ("InvalidInput", "") | 1 => ("Conflict", "") | 2 => ("OutOfRange", "")
  | 3 => ("BadNumber", "reason") | 4 => ("BadScalar", "reason") | 5 => ("BadDiagram", "reason") | 6 => ("BadPort", "reason")
  | 7 => ("BadPorts", "reason") | 8 => ("BadOrder", "reason") | 9 => ("BadBits", "reason") | 10 => ("BadStep", "index")
  | 11 => ("BadWord", "reason") | 12 => ("BadWidth", "reason") | 13 => ("BadProgram", "index") | 14 => ("BadLine", "line")
  | 15 => ("NoEdge", "edge") | 16 => ("PortMismatch", "counts") | 17 => ("TooLarge", "limit") | _ => ("ZeroTable", "reason")
def excC (c : Nat) : Str := (excName c).1
def excF (c : Nat) : Str := (excName c).2
def insName : Nat → Str
  | 0 => "Workspace" | 1 => "Solver" | _ => "Wiring"

section
variable (P : Program) (w : World) (K : PySem.W.Frag)
/-- a written tuple, list, dict -/
def KTup (a : Addr) (vs : List V) : Prop := ∃ (o : Obj) (its : Array Value) (n : Nat), K.lookup a = some o ∧ o.cls = .type "tuple" ∧ o.data = .seq its n ∧ its.size ≤ sizeLine ∧ Vals vs its.toList
def KLst (a : Addr) (vs : List V) : Prop := ∃ (o : Obj) (its : Array Value) (n : Nat), K.lookup a = some o ∧ o.cls = .type "list" ∧ o.dict = none ∧ o.data = .seq its n ∧ its.size ≤ sizeLine ∧ Vals vs its.toList
def KDct (a : Addr) (kvs : List (Key × V)) : Prop := kvs.length ≤ sizeLine ∧ (a == sysModules) = false ∧ ∃ vs, KV kvs vs ∧ ∀ h : Heap, K.In h → h.DictOf (mixKind P w) a vs
/-- a caught error's object -/
def ExcO (c : Nat) (e d : Addr) : HO := .ext fun h => ∃ (o : Obj) (vs : Array Value), h.get? e = some o ∧ o.cls = .ref (He.ga K (excC c)) ∧ o.dict = some d ∧ o.data = .fields vs
end

variable {P : Program} {w : World} {K : PySem.W.Frag} {Z : Addr → Prop}
/-- an address that holds what never changes: it is not an object of the evaluator's, nor one that a running comprehension fills -/
def Fz (Z : Addr → Prop) (mm : List Addr) (a : Addr) : Prop := a ∉ mm ∧ ¬ Z a
mutual
/-- the value v stands as x: H the machine's abstract heap, mm the addresses of the evaluator's objects -/
inductive Rp (P : Program) (w : World) (K : PySem.W.Frag) (Z : Addr → Prop) (H : Hp) (mm : List Addr) : PV → V → Prop
  | non : Rp P w K Z H mm .non .non
  | bl (b : Bool) : Rp P w K Z H mm (.bl b) (.bl b)
  | int (i : Int) : Rp P w K Z H mm (.int i) (.int i)
  | str (x : Tx) : Rp P w K Z H mm (.str x) (.str (sT x))
  | tup {a : Addr} {xs : List PV} {vs : List V} : H a = some (.tup vs) → Fz Z mm a → Rps P w K Z H mm xs vs → Rp P w K Z H mm (.tup xs) (.ref a)
  | tupK {a : Addr} {xs : List PV} {vs : List V} : KTup K a vs → Rps P w K Z H mm xs vs → Rp P w K Z H mm (.ftp xs) (.ref a)
  | lst {a : Addr} {xs : List PV} {vs : List V} : H a = some (.lst vs) → Fz Z mm a → Rps P w K Z H mm xs vs → Rp P w K Z H mm (.lst xs) (.ref a)
  | fls {a : Addr} {xs : List PV} {vs : List V} : Rd H a (.lst vs) → Fz Z mm a → Rps P w K Z H mm xs vs → Rp P w K Z H mm (.fls xs) (.ref a)
  | flsK {a : Addr} {xs : List PV} {vs : List V} : KLst K a vs → Rps P w K Z H mm xs vs → Rp P w K Z H mm (.fls xs) (.ref a)
  | dct {a : Addr} {es : List (PV × PV)} {kvs : List (Key × V)} : Rd H a (.dK kvs) → Fz Z mm a → Rkv P w K Z H mm es kvs → Rp P w K Z H mm (.dct false es) (.ref a)
  | dctK {a : Addr} {es : List (PV × PV)} {kvs : List (Key × V)} : KDct P w K a kvs → Rkv P w K Z H mm es kvs → Rp P w K Z H mm (.fdc es) (.ref a)
  | dctT {a : Addr} {es : List (PV × PV)} {kvs : List (List Key × V)} : Rd H a (.dT kvs) → Fz Z mm a → RkvT P w K Z H mm es kvs → Rp P w K Z H mm (.dct true es) (.ref a)
  | ref {n : Nat} {a : Addr} : mm[n]? = some a → Rp P w K Z H mm (.ref n) (.ref a)
  | exc {c : Nat} {u : PV} {x : V} {e d : Addr} : H e = some (ExcO K c e d) → H d = some (.xd [(excF c, x)]) → Fz Z mm e → Fz Z mm d → Rp P w K Z H mm u x → Rp P w K Z H mm (.exc c u) (.ref e)
inductive Rps (P : Program) (w : World) (K : PySem.W.Frag) (Z : Addr → Prop) (H : Hp) (mm : List Addr) : List PV → List V → Prop
  | nil : Rps P w K Z H mm [] []
  | cons {x : PV} {xs : List PV} {v : V} {vs : List V} : Rp P w K Z H mm x v → Rps P w K Z H mm xs vs → Rps P w K Z H mm (x :: xs) (v :: vs)
inductive Rkv (P : Program) (w : World) (K : PySem.W.Frag) (Z : Addr → Prop) (H : Hp) (mm : List Addr) : List (PV × PV) → List (Key × V) → Prop
  | nil : Rkv P w K Z H mm [] []
  | cons {k x : PV} {r : List (PV × PV)} {q : Key} {v : V} {s : List (Key × V)} : kOf k = some q → Rp P w K Z H mm x v → Rkv P w K Z H mm r s → Rkv P w K Z H mm ((k, x) :: r) ((q, v) :: s)
inductive RkvT (P : Program) (w : World) (K : PySem.W.Frag) (Z : Addr → Prop) (H : Hp) (mm : List Addr) : List (PV × PV) → List (List Key × V) → Prop
  | nil : RkvT P w K Z H mm [] []
  | cons {ks : List PV} {x : PV} {r : List (PV × PV)} {q : List Key} {v : V} {s : List (List Key × V)} : kOfs ks = some q → Rp P w K Z H mm x v → RkvT P w K Z H mm r s → RkvT P w K Z H mm ((.tup ks, x) :: r) ((q, v) :: s)
end

/-- what is read stays readable; the evaluator's objects keep their places, those that come are new -/
structure Wk (Z Z' : Addr → Prop) (H : Hp) (mm : List Addr) (H' : Hp) (mm' : List Addr) : Prop where
  rd : ∀ a u, Fz Z mm a → Rd H a u → Rd H' a u
  ex : ∀ a o, Fz Z mm a → H a = some o → (∀ u, o ≠ .dK u) → (∀ u, o ≠ .dT u) → H' a = some o
  ix : ∀ (n : Nat) (a : Addr), mm[n]? = some a → mm'[n]? = some a
  out : ∀ a o, Fz Z mm a → H a = some o → Fz Z' mm' a
theorem rdS {H : Hp} {a : Addr} {u : HO} (h : Rd H a u) : ∃ o, H a = some o := by
  rcases h with h | ⟨o, h⟩
  · exact ⟨_, h⟩
  · exact ⟨_, h⟩
mutual
theorem Rp.wk {Z' : Addr → Prop} {H H' : Hp} {mm mm' : List Addr} (q : Wk Z Z' H mm H' mm') : ∀ {v : PV} {x : V}, Rp P w K Z H mm v x → Rp P w K Z' H' mm' v x
  | _, _, .non => .non
  | _, _, .bl b => .bl b
  | _, _, .int i => .int i
  | _, _, .str x => .str x
  | _, _, .tup h n r => .tup (q.ex _ _ n h (fun _ z => nomatch z) (fun _ z => nomatch z)) (q.out _ _ n h) (Rps.wk q r)
  | _, _, .tupK h r => .tupK h (Rps.wk q r)
  | _, _, .lst h n r => .lst (q.ex _ _ n h (fun _ z => nomatch z) (fun _ z => nomatch z)) (q.out _ _ n h) (Rps.wk q r)
  | _, _, .fls h n r => .fls (q.rd _ _ n h) (let ⟨_, e⟩ := rdS h; q.out _ _ n e) (Rps.wk q r)
  | _, _, .flsK h r => .flsK h (Rps.wk q r)
  | _, _, .dct h n r => .dct (q.rd _ _ n h) (let ⟨_, e⟩ := rdS h; q.out _ _ n e) (Rkv.wk q r)
  | _, _, .dctK h r => .dctK h (Rkv.wk q r)
  | _, _, .dctT h n r => .dctT (q.rd _ _ n h) (let ⟨_, e⟩ := rdS h; q.out _ _ n e) (RkvT.wk q r)
  | _, _, .ref h => .ref (q.ix _ _ h)
  | _, _, .exc h1 h2 n1 n2 r => .exc (q.ex _ _ n1 h1 (fun _ z => nomatch z) (fun _ z => nomatch z)) (q.ex _ _ n2 h2 (fun _ z => nomatch z) (fun _ z => nomatch z)) (q.out _ _ n1 h1) (q.out _ _ n2 h2) (Rp.wk q r)
theorem Rps.wk {Z' : Addr → Prop} {H H' : Hp} {mm mm' : List Addr} (q : Wk Z Z' H mm H' mm') : ∀ {v : List PV} {x : List V}, Rps P w K Z H mm v x → Rps P w K Z' H' mm' v x
  | _, _, .nil => .nil
  | _, _, .cons h r => .cons (Rp.wk q h) (Rps.wk q r)
theorem Rkv.wk {Z' : Addr → Prop} {H H' : Hp} {mm mm' : List Addr} (q : Wk Z Z' H mm H' mm') : ∀ {v : List (PV × PV)} {x : List (Key × V)}, Rkv P w K Z H mm v x → Rkv P w K Z' H' mm' v x
  | _, _, .nil => .nil
  | _, _, .cons e h r => .cons e (Rp.wk q h) (Rkv.wk q r)
theorem RkvT.wk {Z' : Addr → Prop} {H H' : Hp} {mm mm' : List Addr} (q : Wk Z Z' H mm H' mm') : ∀ {v : List (PV × PV)} {x : List (List Key × V)}, RkvT P w K Z H mm v x → RkvT P w K Z' H' mm' v x
  | _, _, .nil => .nil
  | _, _, .cons e h r => .cons e (Rp.wk q h) (RkvT.wk q r)
end

/-- what a step of the evaluator does to the heap: all that is not the evaluator's own is kept, nothing goes, what comes is new -/
structure Ext (H : Hp) (mm : List Addr) (H' : Hp) (mm' : List Addr) : Prop where
  keep : ∀ a o, a ∉ mm → H a = some o → H' a = some o
  there : ∀ a o, H a = some o → ∃ o', H' a = some o'
  frz : ∀ a o u, H a = some (.frz o u) → H' a = some (.frz o u)
  pre : ∃ ex, mm' = mm ++ ex ∧ ∀ a ∈ ex, H a = none
theorem Ext.refl (H : Hp) (mm : List Addr) : Ext H mm H mm := ⟨fun _ _ _ h => h, fun _ o h => ⟨o, h⟩, fun _ _ _ h => h, [], by simp, fun _ h => nomatch h⟩
theorem Ext.trans {H H1 H2 : Hp} {mm m1 m2 : List Addr} (a : Ext H mm H1 m1) (b : Ext H1 m1 H2 m2) : Ext H mm H2 m2 := by
  obtain ⟨e1, rfl, n1⟩ := a.pre
  obtain ⟨e2, rfl, n2⟩ := b.pre
  have key : ∀ p o, p ∉ mm → H p = some o → p ∉ mm ++ e1 := fun p o n h => by
    intro z
    rcases List.mem_append.mp z with z | z
    · exact n z
    · rw [n1 p z] at h; cases h
  refine ⟨fun p o n h => b.keep p o (key p o n h) (a.keep p o n h), fun p o h => let ⟨_, h1⟩ := a.there p o h; b.there p _ h1, fun p o u h => b.frz p o u (a.frz p o u h), e1 ++ e2, by rw [List.append_assoc], fun p hp => ?_⟩
  rcases List.mem_append.mp hp with hp | hp
  · exact n1 p hp
  · cases q : H p with
    | none => rfl
    | some o =>
      obtain ⟨o', h'⟩ := a.there p o q
      rw [n2 p hp] at h'; cases h'
theorem Ext.wk {H H' : Hp} {mm mm' : List Addr} (a : Ext H mm H' mm') : Wk Z Z H mm H' mm' := by
  obtain ⟨e1, rfl, n1⟩ := a.pre
  refine ⟨fun p u n h => ?_, fun p o n h _ _ => a.keep p o n.1 h, fun n p h => ?_, fun p o n h => ⟨fun z => ?_, n.2⟩⟩
  · rcases h with h | ⟨o, h⟩
    · exact .inl (a.keep _ _ n.1 h)
    · exact .inr ⟨o, a.keep _ _ n.1 h⟩
  · rw [List.getElem?_append_left (List.getElem?_eq_some_iff.mp h).1]; exact h
  · rcases List.mem_append.mp z with z | z
    · exact n.1 z
    · rw [n1 p z] at h; cases h
/-- an address of Z is written, or a new one -/
theorem Wk.hid {H : Hp} {mm : List Addr} {p : Addr} {o : HO} (hz : Z p) : Wk Z Z H mm (upd H p o) mm := by
  have ne : ∀ a, Fz Z mm a → a ≠ p := fun a n z => n.2 (z ▸ hz)
  refine ⟨fun a u n h => ?_, fun a u n h _ _ => by rw [upd_ne (ne a n)]; exact h, fun _ _ h => h, fun _ _ n _ => n⟩
  rcases h with h | ⟨ob, h⟩
  · exact .inl (by rw [upd_ne (ne a n)]; exact h)
  · exact .inr ⟨ob, by rw [upd_ne (ne a n)]; exact h⟩
/-- an object of the evaluator's is written -/
theorem Wk.own {H : Hp} {mm : List Addr} {p : Addr} {o : HO} (hp : p ∈ mm) : Wk Z Z H mm (upd H p o) mm := by
  have ne : ∀ a, Fz Z mm a → a ≠ p := fun a n z => n.1 (z ▸ hp)
  refine ⟨fun a u n h => ?_, fun a u n h _ _ => by rw [upd_ne (ne a n)]; exact h, fun _ _ h => h, fun _ _ n _ => n⟩
  rcases h with h | ⟨ob, h⟩
  · exact .inl (by rw [upd_ne (ne a n)]; exact h)
  · exact .inr ⟨ob, by rw [upd_ne (ne a n)]; exact h⟩
/-- fewer addresses are barred -/
theorem Wk.less {Z' : Addr → Prop} {H : Hp} {mm : List Addr} (h : ∀ a, Z a → Z' a) : Wk Z' Z H mm H mm :=
  ⟨fun _ _ _ h => h, fun _ _ _ h _ _ => h, fun _ _ h => h, fun a _ n _ => ⟨n.1, fun z => n.2 (h a z)⟩⟩
/-- more are barred: none that is held -/
theorem Wk.more {Z' : Addr → Prop} {H : Hp} {mm : List Addr} (h : ∀ a, Z' a → Z a ∨ H a = none) : Wk Z Z' H mm H mm :=
  ⟨fun _ _ _ h => h, fun _ _ _ h _ _ => h, fun _ _ h => h, fun a o n e => ⟨n.1, fun z => by
    rcases h a z with q | q
    · exact n.2 q
    · rw [q] at e; cases e⟩⟩
/-- the evaluator's objects are barred in another way -/
theorem Wk.swap {Z' : Addr → Prop} {H : Hp} {mm mm' : List Addr} (h : ∀ a, Fz Z mm a → Fz Z' mm' a) (hi : ∀ (n : Nat) (a : Addr), mm[n]? = some a → mm'[n]? = some a) : Wk Z Z' H mm H mm' :=
  ⟨fun _ _ _ h => h, fun _ _ _ h _ _ => h, hi, fun a _ n _ => h a n⟩
theorem Wk.trans {Z Z1 Z2 : Addr → Prop} {H H1 H2 : Hp} {mm m1 m2 : List Addr} (a : Wk Z Z1 H mm H1 m1) (b : Wk Z1 Z2 H1 m1 H2 m2) : Wk Z Z2 H mm H2 m2 := by
  have o1 : ∀ p u, Fz Z mm p → Rd H p u → Fz Z1 m1 p := fun p u n h => by
    rcases h with h | ⟨o, h⟩
    · exact a.out p _ n h
    · exact a.out p _ n h
  exact ⟨fun p u n h => b.rd p u (o1 p u n h) (a.rd p u n h), fun p o n h h1 h2 => b.ex p o (a.out p o n h) (a.ex p o n h h1 h2) h1 h2, fun n p h => b.ix n p (a.ix n p h), fun p o n h => by
    rcases a.rd p o n (.inl h) with q | ⟨ob, q⟩
    · exact b.out p _ (a.out p o n h) q
    · exact b.out p _ (a.out p o n h) q⟩
/-- an immutable thing is laid -/
theorem Ext.laid {H : Hp} {mm : List Addr} {p : Addr} {o : HO} (h : H p = none) : Ext H mm (upd H p o) mm :=
  ⟨fun a u _ q => by rw [upd_ne (ne_of_none q h)]; exact q, fun a u q => ⟨u, by rw [upd_ne (ne_of_none q h)]; exact q⟩, fun a o u q => by rw [upd_ne (ne_of_none q h)]; exact q, [], by simp, fun _ z => nomatch z⟩
/-- an object of the evaluator's is laid -/
theorem Ext.made {H : Hp} {mm : List Addr} {p : Addr} {o : HO} (h : H p = none) : Ext H mm (upd H p o) (mm ++ [p]) :=
  ⟨fun a u _ q => by rw [upd_ne (ne_of_none q h)]; exact q, fun a u q => ⟨u, by rw [upd_ne (ne_of_none q h)]; exact q⟩, fun a o u q => by rw [upd_ne (ne_of_none q h)]; exact q, [p], rfl, fun a z => by
    rw [List.mem_singleton.mp z]; exact h⟩
/-- an object of the evaluator's is written -/
theorem Ext.wrote {H : Hp} {mm : List Addr} {p : Addr} {o : HO} (h : p ∈ mm) (hf : ∀ o u, H p ≠ some (.frz o u)) : Ext H mm (upd H p o) mm :=
  ⟨fun a u n q => by
    have hn : a ≠ p := fun z => by rw [z] at n; exact n h
    rw [upd_ne hn]; exact q, fun a u q => by
    by_cases z : a = p
    · exact ⟨o, by rw [z, upd_same]⟩
    · exact ⟨u, by rw [upd_ne z]; exact q⟩, fun a ob u q => by
    have hn : a ≠ p := fun z => by rw [z] at q; exact hf ob u q
    rw [upd_ne hn]; exact q, [], by simp, fun _ z => nomatch z⟩

/-- an instance's attributes -/
inductive Rfs (P : Program) (w : World) (K : PySem.W.Frag) (Z : Addr → Prop) (H : Hp) (mm : List Addr) : List (Tx × PV) → List (Str × V) → Prop
  | nil : Rfs P w K Z H mm [] []
  | cons {f : Tx} {x : PV} {r : List (Tx × PV)} {v : V} {s : List (Str × V)} : Rp P w K Z H mm x v → Rfs P w K Z H mm r s → Rfs P w K Z H mm ((f, x) :: r) ((sT f, v) :: s)
theorem Rfs.wk {Z' : Addr → Prop} {H H' : Hp} {mm mm' : List Addr} (q : Wk Z Z' H mm H' mm') : ∀ {v : List (Tx × PV)} {x : List (Str × V)}, Rfs P w K Z H mm v x → Rfs P w K Z' H' mm' v x
  | _, _, .nil => .nil
  | _, _, .cons h r => .cons (Rp.wk q h) (Rfs.wk q r)
/-- the name of a def's lambda -/
def lamQ (x : Tx) : Str := (sT x ++ (".<locals>." : Str)) ++ ("<lambda>" : Str)
/-- a table of code objects that all bear the name q -/
def TabR (Z : Addr → Prop) (H : Hp) (mm : List Addr) (p : Addr) (q : Str) : Prop := ∃ ps : Array Value, H p = some (.tbl ps) ∧ TriplesOk ps.toList ∧ ∀ (pos : Pos) (cv : Value), codeAmong pos ps.toList = some cv → ∃ c, cv = .ref c ∧ H c = some (LamX.CodeO c q) ∧ Fz Z mm c
theorem TabR.wk {Z' : Addr → Prop} {H H' : Hp} {mm mm' : List Addr} {p : Addr} {x : Str} (q : Wk Z Z' H mm H' mm') (e : H' p = H p) (t : TabR Z H mm p x) : TabR Z' H' mm' p x := by
  obtain ⟨ps, h1, h2, h3⟩ := t
  refine ⟨ps, e.trans h1, h2, fun pos cv hc => ?_⟩
  obtain ⟨c, e1, e2, e3⟩ := h3 pos cv hc
  exact ⟨c, e1, q.ex _ _ e3 e2 (fun _ z => by unfold LamX.CodeO at z; cases z) (fun _ z => by unfold LamX.CodeO at z; cases z), q.out _ _ e3 e2⟩
/-- an object of the evaluator's stands at a -/
inductive OR (P : Program) (w : World) (K : PySem.W.Frag) (Z : Addr → Prop) (H : Hp) (mm : List Addr) : PO → Addr → Prop
  | lst {a : Addr} {xs : List PV} {vs : List V} : H a = some (.lst vs) → Rps P w K Z H mm xs vs → OR P w K Z H mm (.lst xs) a
  | dct {a : Addr} {es : List (PV × PV)} {kvs : List (Key × V)} : H a = some (.dK kvs) → Rkv P w K Z H mm es kvs → OR P w K Z H mm (.dct false es) a
  | dctT {a : Addr} {es : List (PV × PV)} {kvs : List (List Key × V)} : H a = some (.dT kvs) → RkvT P w K Z H mm es kvs → OR P w K Z H mm (.dct true es) a
  | ins {a dx : Addr} {c : Nat} {fs : List (Tx × PV)} {us : List (Str × V)} : H a = some (.ins (He.ga K (insName c)) dx us) → Rfs P w K Z H mm fs us → OR P w K Z H mm (.ins c fs) a
  | lckL {a : Addr} {xs : List PV} {vs : List V} : H a = some (.lst vs) → Rps P w K Z H mm xs vs → OR P w K Z H mm (.lck (.lst xs)) a
  | lckD {a : Addr} {ob : Obj} {es : List (PV × PV)} {kvs : List (Key × V)} : H a = some (.frz ob (.dK kvs)) → Rkv P w K Z H mm es kvs → OR P w K Z H mm (.lck (.dct false es)) a
  | lckT {a : Addr} {ob : Obj} {es : List (PV × PV)} {kvs : List (List Key × V)} : H a = some (.frz ob (.dT kvs)) → RkvT P w K Z H mm es kvs → OR P w K Z H mm (.lck (.dct true es)) a
  | tbl {a c : Addr} {x : Tx} : PySem.W.tabIn K (sT x) = some (c, a) → TabR Z H mm a (lamQ x) → OR P w K Z H mm (.tbl x) a
theorem OR.there {H : Hp} {mm : List Addr} {o : PO} {a : Addr} (h : OR P w K Z H mm o a) : ∃ u, H a = some u := by
  cases h <;> first | exact ⟨_, by assumption⟩ | (rename_i r; obtain ⟨ps, h1, _⟩ := r; exact ⟨_, h1⟩)
theorem OR.wk {Z' : Addr → Prop} {H H' : Hp} {mm mm' : List Addr} {o : PO} {a : Addr} (q : Wk Z Z' H mm H' mm') (e : H' a = H a) (h : OR P w K Z H mm o a) : OR P w K Z' H' mm' o a := by
  cases h with
  | lst h r => exact .lst (e.trans h) (r.wk q)
  | dct h r => exact .dct (e.trans h) (r.wk q)
  | dctT h r => exact .dctT (e.trans h) (r.wk q)
  | ins h r => exact .ins (e.trans h) (r.wk q)
  | lckL h r => exact .lckL (e.trans h) (r.wk q)
  | lckD h r => exact .lckD (e.trans h) (r.wk q)
  | lckT h r => exact .lckT (e.trans h) (r.wk q)
  | tbl h r => exact .tbl h (r.wk q e)
/-- the evaluator's heap ph stands in H, at the addresses mm -/
structure HRp (P : Program) (w : World) (K : PySem.W.Frag) (Z : Addr → Prop) (H : Hp) (mm : List Addr) (ph : PH) : Prop where
  len : mm.length = ph.length
  nd : mm.Nodup
  ob : ∀ (n : Nat) (o : PO) (a : Addr), ph[n]? = some o → mm[n]? = some a → OR P w K Z H mm o a
  zs : ∀ a, Z a → (∃ o, H a = some o) ∧ a ∉ mm
theorem HRp.nil {H : Hp} (hz : ∀ a, Z a → ∃ o, H a = some o) : HRp P w K Z H [] [] := ⟨rfl, List.nodup_nil, fun n o a h => by simp at h, fun a z => ⟨hz a z, by simp⟩⟩
theorem HRp.fz {H : Hp} {mm : List Addr} {ph : PH} (h : HRp P w K Z H mm ph) {p : Addr} (hp : H p = none) (hm : p ∉ mm) : Fz Z mm p := ⟨hm, fun z => by
  obtain ⟨⟨o, e⟩, _⟩ := h.zs p z
  rw [hp] at e; cases e⟩
theorem HRp.at_ {H : Hp} {mm : List Addr} {ph : PH} (h : HRp P w K Z H mm ph) {n : Nat} {o : PO} (e : ph[n]? = some o) : ∃ a, mm[n]? = some a ∧ OR P w K Z H mm o a := by
  have hn : n < mm.length := by rw [h.len]; exact (List.getElem?_eq_some_iff.mp e).1
  exact ⟨mm[n], by simp [hn], h.ob n o _ e (by simp [hn])⟩
theorem HRp.there {H : Hp} {mm : List Addr} {ph : PH} (h : HRp P w K Z H mm ph) {a : Addr} (ha : a ∈ mm) : ∃ u, H a = some u := by
  obtain ⟨n, hn, e⟩ := List.getElem_of_mem ha
  have hp : n < ph.length := by rw [← h.len]; exact hn
  exact (h.ob n ph[n] a (by simp [hp]) (by simp [hn, e])).there
theorem HRp.notIn {H : Hp} {mm : List Addr} {ph : PH} (h : HRp P w K Z H mm ph) {p : Addr} (hp : H p = none) : p ∉ mm := fun z => by
  obtain ⟨u, e⟩ := h.there z
  rw [hp] at e; cases e
/-- the evaluator's objects are as they were -/
theorem HRp.wk {Z' : Addr → Prop} {H H' : Hp} {mm : List Addr} {ph : PH} (h : HRp P w K Z H mm ph) (q : Wk Z Z' H mm H' mm) (e : ∀ a ∈ mm, H' a = H a) (hz : ∀ a, Z' a → (∃ o, H' a = some o) ∧ a ∉ mm) : HRp P w K Z' H' mm ph :=
  ⟨h.len, h.nd, fun n o a h1 h2 => (h.ob n o a h1 h2).wk q (e a (List.mem_of_getElem? h2)), hz⟩
theorem HRp.zsE {H H' : Hp} {mm mm' : List Addr} {ph : PH} (h : HRp P w K Z H mm ph) (e : Ext H mm H' mm') : ∀ a, Z a → (∃ o, H' a = some o) ∧ a ∉ mm' := fun a z => by
  obtain ⟨⟨o, q⟩, n⟩ := h.zs a z
  obtain ⟨o', q'⟩ := e.there a o q
  obtain ⟨ex, rfl, hx⟩ := e.pre
  refine ⟨⟨o', q'⟩, fun hm => ?_⟩
  rcases List.mem_append.mp hm with hm | hm
  · exact n hm
  · rw [hx a hm] at q; cases q
theorem HRp.laid {H : Hp} {mm : List Addr} {ph : PH} (h : HRp P w K Z H mm ph) {p : Addr} {o : HO} (hp : H p = none) : HRp P w K Z (upd H p o) mm ph :=
  h.wk (Ext.laid hp).wk (fun a ha => upd_ne fun z => h.notIn hp (z ▸ ha)) (h.zsE (Ext.laid hp))
theorem HRp.made {H : Hp} {mm : List Addr} {ph : PH} (h : HRp P w K Z H mm ph) {p : Addr} {o : HO} {u : PO} (hp : H p = none) (hu : OR P w K Z (upd H p o) (mm ++ [p]) u p) : HRp P w K Z (upd H p o) (mm ++ [p]) (ph ++ [u]) := by
  refine ⟨by simp [h.len], ?_, fun n x a h1 h2 => ?_, h.zsE (Ext.made hp)⟩
  · rw [List.nodup_append]
    refine ⟨h.nd, by simp, fun a ha b hb z => ?_⟩
    rw [List.mem_singleton.mp hb] at z
    exact h.notIn hp (z ▸ ha)
  · by_cases hn : n < ph.length
    · rw [List.getElem?_append_left hn] at h1
      rw [List.getElem?_append_left (by rw [h.len]; exact hn)] at h2
      exact (h.ob n x a h1 h2).wk (Ext.made hp).wk (upd_ne fun z => h.notIn hp (z ▸ List.mem_of_getElem? h2))
    · have e1 : n = ph.length := by
        have := (List.getElem?_eq_some_iff.mp h1).1
        simp at this; omega
      subst e1
      rw [List.getElem?_append_right (Nat.le_refl _)] at h1
      rw [← h.len, List.getElem?_append_right (Nat.le_refl _)] at h2
      simp at h1 h2
      rw [← h1, ← h2]; exact hu
theorem HRp.wrote {H : Hp} {mm : List Addr} {ph : PH} (h : HRp P w K Z H mm ph) {n : Nat} {p : Addr} {o : HO} {u : PO} (hp : mm[n]? = some p) (hu : OR P w K Z (upd H p o) mm u p) : HRp P w K Z (upd H p o) mm (ph.set n u) := by
  have hn : n < mm.length := (List.getElem?_eq_some_iff.mp hp).1
  refine ⟨by simp [h.len], h.nd, fun k x a h1 h2 => ?_, fun a z => ?_⟩
  case refine_2 =>
    obtain ⟨⟨u, q⟩, nm⟩ := h.zs a z
    refine ⟨⟨u, ?_⟩, nm⟩
    have ne : a ≠ p := fun e => nm (by rw [e]; exact List.mem_of_getElem? hp)
    rw [upd_ne ne]
    exact q
  by_cases e : k = n
  · subst e
    rw [hp] at h2; cases h2
    rw [List.getElem?_set_self (by rw [← h.len]; exact hn)] at h1; cases h1
    exact hu
  · rw [List.getElem?_set_ne (Ne.symm e)] at h1
    refine (h.ob k x a h1 h2).wk (Wk.own (List.mem_of_getElem? hp)) (upd_ne fun z => e ?_)
    subst z
    have hk : k < mm.length := (List.getElem?_eq_some_iff.mp h2).1
    have e1 : mm[k] = mm[n] := by
      have a1 := (List.getElem?_eq_some_iff.mp h2).2
      have a2 := (List.getElem?_eq_some_iff.mp hp).2
      rw [a1, a2]
    exact (List.getElem_inj h.nd).mp e1

/-- the slots -/
def SRp (P : Program) (w : World) (K : PySem.W.Frag) (Z : Addr → Prop) (H : Hp) (mm : List Addr) (ρ : Env) (σ : L2.St) : Prop :=
  ρ.length = σ.length ∧ ∀ (i : Nat) (v : PV), ρ[i]? = some (some v) → ∃ x, σ[i]? = some (some x) ∧ Rp P w K Z H mm v x
theorem SRp.wk {Z' : Addr → Prop} {H H' : Hp} {mm mm' : List Addr} {ρ : Env} {σ : L2.St} (q : Wk Z Z' H mm H' mm') (h : SRp P w K Z H mm ρ σ) : SRp P w K Z' H' mm' ρ σ :=
  ⟨h.1, fun i v e => let ⟨x, e1, r⟩ := h.2 i v e; ⟨x, e1, r.wk q⟩⟩
theorem SRp.set {H : Hp} {mm : List Addr} {ρ : Env} {σ : L2.St} (h : SRp P w K Z H mm ρ σ) {i : Nat} {v : PV} {x : V} (r : Rp P w K Z H mm v x) : SRp P w K Z H mm (ρ.set i (some v)) (σ.set i (some x)) := by
  refine ⟨by simp [h.1], fun j u e => ?_⟩
  by_cases hj : i = j
  · subst hj
    by_cases hi : i < ρ.length
    · rw [List.getElem?_set_self hi] at e
      cases e
      exact ⟨x, List.getElem?_set_self (by rw [← h.1]; exact hi), r⟩
    · rw [List.getElem?_eq_none (by simpa using hi)] at e; cases e
  · rw [List.getElem?_set_ne hj] at e
    obtain ⟨y, e1, r1⟩ := h.2 j u e
    exact ⟨y, by rw [List.getElem?_set_ne hj]; exact e1, r1⟩
theorem SRp.unset {H : Hp} {mm : List Addr} {ρ : Env} {σ : L2.St} (h : SRp P w K Z H mm ρ σ) (i : Nat) (o : Option V) : SRp P w K Z H mm (ρ.set i none) (σ.set i o) := by
  refine ⟨by simp [h.1], fun j u e => ?_⟩
  by_cases hj : i = j
  · subst hj
    by_cases hi : i < ρ.length
    · rw [List.getElem?_set_self hi] at e; cases e
    · rw [List.getElem?_eq_none (by simpa using hi)] at e; cases e
  · rw [List.getElem?_set_ne hj] at e
    obtain ⟨y, e1, r1⟩ := h.2 j u e
    exact ⟨y, by rw [List.getElem?_set_ne hj]; exact e1, r1⟩
end Ev
end
section
set_option maxRecDepth 100000
/-! EvC: wishes, operators. -/
namespace Ev
open PySem PySem.Spec PyProof.Rows L2

/-! ### what is wanted of a result -/
section
variable (P : Program) (w : World) (K : PySem.W.Frag) (Z : Addr → Prop)
def PostG {α β : Type} (Rel : Hp → List Addr → α → β → Prop) (E : XK) (H : Hp) (mm : List Addr) (Q : β → Hp → Prop) : R α → Prop
  | .ok v h => ∀ x H' mm', Ext H mm H' mm' → HRp P w K Z H' mm' h → Rel H' mm' v x → Q x H'
  | .exc c u h => ∀ x d H' mm', Ext H mm H' mm' → HRp P w K Z H' mm' h → H' d = some (.xd [(excF c, x)]) → Fz Z mm' d → Rp P w K Z H' mm' u x → E (.ref (He.ga K (excC c))) (some d) H'
  | .stk => False
end
section
variable {P : Program} {w : World} {K : PySem.W.Frag} {Z : Addr → Prop} {E : XK} {H H1 : Hp} {mm m1 : List Addr} {α β γ δ : Type} {RelA : Hp → List Addr → α → β → Prop} {RelB : Hp → List Addr → γ → δ → Prop}
theorem PostG.ext {Q : β → Hp → Prop} {r : R α} (h : PostG P w K Z RelA E H mm Q r) (e : Ext H mm H1 m1) : PostG P w K Z RelA E H1 m1 Q r := by
  cases r with
  | ok v ph => exact fun x H' mm' e' => h x H' mm' (e.trans e')
  | exc c u ph => exact fun x d H' mm' e' => h x d H' mm' (e.trans e')
  | stk => exact h
theorem PostG.mono {Q Q' : β → Hp → Prop} {r : R α} (h : PostG P w K Z RelA E H mm Q r) (k : ∀ x H', Q x H' → Q' x H') : PostG P w K Z RelA E H mm Q' r := by
  cases r with
  | ok v ph => exact fun x H' mm' e' h1 h2 => k _ _ (h x H' mm' e' h1 h2)
  | exc c u ph => exact h
  | stk => exact h
theorem PostG.bind {Q : δ → Hp → Prop} {r : R α} {f : α → PH → R γ} (h : PostG P w K Z RelB E H mm Q (r.bind f)) :
    PostG P w K Z RelA E H mm (fun x H' => ∃ v ph mm', Ext H mm H' mm' ∧ HRp P w K Z H' mm' ph ∧ RelA H' mm' v x ∧ PostG P w K Z RelB E H' mm' Q (f v ph)) r := by
  cases r with
  | ok v ph => exact fun x H' mm' e h1 h2 => ⟨v, ph, mm', e, h1, h2, PostG.ext h e⟩
  | exc c u ph => exact h
  | stk => exact h
/-- the result as it stands -/
theorem PostG.ok {Q : β → Hp → Prop} {v : α} {x : β} {ph : PH} (h : PostG P w K Z RelA E H mm Q (.ok v ph)) (hr : HRp P w K Z H mm ph) (r : RelA H mm v x) : Q x H := h x H mm (Ext.refl _ _) hr r
theorem PostG.at_ {Q : β → Hp → Prop} {v : α} {x : β} {ph : PH} (h : PostG P w K Z RelA E H mm Q (.ok v ph)) (e : Ext H mm H1 m1) (hr : HRp P w K Z H1 m1 ph) (r : RelA H1 m1 v x) : Q x H1 := h x H1 m1 e hr r
end
abbrev PostE (P : Program) (w : World) (K : PySem.W.Frag) (Z : Addr → Prop) (E : XK) (H : Hp) (mm : List Addr) (Q : VK) (r : R PV) : Prop := PostG P w K Z (fun H' mm' v x => Rp P w K Z H' mm' v x) E H mm Q r
abbrev PostL (P : Program) (w : World) (K : PySem.W.Frag) (Z : Addr → Prop) (E : XK) (H : Hp) (mm : List Addr) (Q : List V → Hp → Prop) (r : R (List PV)) : Prop := PostG P w K Z (fun H' mm' v x => Rps P w K Z H' mm' v x) E H mm Q r
abbrev PostB (P : Program) (w : World) (K : PySem.W.Frag) (Z : Addr → Prop) (E : XK) (H : Hp) (mm : List Addr) (Q : Bool → Hp → Prop) (r : R PV) : Prop := PostG P w K Z (fun _ _ v b => v = b) E H mm Q r.toB

/-! ### looking at values -/
section
variable {P : Program} {w : World} {K : PySem.W.Frag} {Z : Addr → Prop} {H : Hp} {mm : List Addr} {ph : PH}
theorem Rp.int_ {i : Int} {x : V} (r : Rp P w K Z H mm (.int i) x) : x = .int i := by cases r; rfl
theorem Rp.bl_ {i : Bool} {x : V} (r : Rp P w K Z H mm (.bl i) x) : x = .bl i := by cases r; rfl
theorem Rp.str_ {i : Tx} {x : V} (r : Rp P w K Z H mm (.str i) x) : x = .str (sT i) := by cases r; rfl
theorem Rp.non_ {x : V} (r : Rp P w K Z H mm .non x) : x = .non := by cases r; rfl
theorem KTup.sq {a : Addr} {vs : List V} (h : KTup K a vs) : SqT K H a vs := .inr h
theorem KLst.sq {a : Addr} {vs : List V} (h : KLst K a vs) : SqL K H a vs := .inr h
theorem Rp.tup_ {xs : List PV} {x : V} (r : Rp P w K Z H mm (.tup xs) x) : ∃ a vs, x = .ref a ∧ H a = some (.tup vs) ∧ Rps P w K Z H mm xs vs := by
  cases r with
  | tup h _ r => exact ⟨_, _, rfl, h, r⟩
theorem Rp.ftp_ {xs : List PV} {x : V} (r : Rp P w K Z H mm (.ftp xs) x) : ∃ a vs, x = .ref a ∧ SqT K H a vs ∧ Rps P w K Z H mm xs vs := by
  cases r with
  | tupK h r => exact ⟨_, _, rfl, h.sq, r⟩
theorem Rp.fdc_ {es : List (PV × PV)} {x : V} (r : Rp P w K Z H mm (.fdc es) x) : ∃ a kvs, x = .ref a ∧ KDct P w K a kvs ∧ Rkv P w K Z H mm es kvs := by
  cases r with
  | dctK h r => exact ⟨_, _, rfl, h, r⟩
theorem Rp.lst_ {xs : List PV} {x : V} (r : Rp P w K Z H mm (.lst xs) x) : ∃ a vs, x = .ref a ∧ H a = some (.lst vs) ∧ Rps P w K Z H mm xs vs := by
  cases r with
  | lst h _ r => exact ⟨_, _, rfl, h, r⟩
theorem Rp.fls_ {xs : List PV} {x : V} (r : Rp P w K Z H mm (.fls xs) x) : ∃ a vs, x = .ref a ∧ SqL K H a vs ∧ Rps P w K Z H mm xs vs := by
  cases r with
  | fls h _ r => exact ⟨_, _, rfl, .inl h, r⟩
  | flsK h r => exact ⟨_, _, rfl, h.sq, r⟩
theorem Rps.len : ∀ {xs : List PV} {vs : List V}, Rps P w K Z H mm xs vs → xs.length = vs.length
  | _, _, .nil => rfl
  | _, _, .cons _ r => by simp [Rps.len r]
theorem Rps.get : ∀ {xs : List PV} {vs : List V}, Rps P w K Z H mm xs vs → ∀ {i : Nat} {v : PV}, xs[i]? = some v → ∃ x, vs[i]? = some x ∧ Rp P w K Z H mm v x
  | _, _, .nil, i, v, e => by simp at e
  | _, _, .cons h r, 0, v, e => by simp at e; subst e; exact ⟨_, rfl, h⟩
  | _, _, .cons h r, i + 1, v, e => by
    obtain ⟨x, e1, q⟩ := Rps.get r (i := i) (v := v) (by simpa using e)
    exact ⟨x, by simpa using e1, q⟩
theorem Rps.append : ∀ {xs ys : List PV} {vs us : List V}, Rps P w K Z H mm xs vs → Rps P w K Z H mm ys us → Rps P w K Z H mm (xs ++ ys) (vs ++ us)
  | _, _, _, _, .nil, s => s
  | _, _, _, _, .cons h r, s => .cons h (Rps.append r s)
theorem Rps.take : ∀ {xs : List PV} {vs : List V} (n : Nat), Rps P w K Z H mm xs vs → Rps P w K Z H mm (xs.take n) (vs.take n)
  | _, _, 0, _ => .nil
  | _, _, _ + 1, .nil => .nil
  | _, _, n + 1, .cons h r => .cons h (Rps.take n r)
theorem Rps.drop : ∀ {xs : List PV} {vs : List V} (n : Nat), Rps P w K Z H mm xs vs → Rps P w K Z H mm (xs.drop n) (vs.drop n)
  | _, _, 0, r => r
  | _, _, _ + 1, .nil => .nil
  | _, _, n + 1, .cons h r => Rps.drop n r
theorem Rps.rev : ∀ {xs : List PV} {vs : List V}, Rps P w K Z H mm xs vs → Rps P w K Z H mm xs.reverse vs.reverse
  | _, _, .nil => .nil
  | _, _, .cons h r => by rw [List.reverse_cons, List.reverse_cons]; exact (Rps.rev r).append (.cons h .nil)
theorem Rps.set : ∀ {xs : List PV} {vs : List V} {v : PV} {x : V} (i : Nat), Rps P w K Z H mm xs vs → Rp P w K Z H mm v x → Rps P w K Z H mm (xs.set i v) (vs.set i x)
  | _, _, _, _, _, .nil, _ => .nil
  | _, _, _, _, 0, .cons _ r, q => .cons q r
  | _, _, _, _, i + 1, .cons h r, q => .cons h (Rps.set i r q)
theorem Rps.replicate {xs : List PV} {vs : List V} (r : Rps P w K Z H mm xs vs) : ∀ n : Nat, Rps P w K Z H mm (List.replicate n xs).flatten (List.replicate n vs).flatten
  | 0 => .nil
  | n + 1 => by rw [List.replicate_succ, List.replicate_succ, List.flatten_cons, List.flatten_cons]; exact r.append (Rps.replicate r n)
/-- an object that is seen through a reference -/
theorem OR.see {o : PO} {a : Addr} {u : PV} (h : OR P w K Z H mm o a) (e : o.see = some u) :
    (∃ xs vs, u = .lst xs ∧ H a = some (.lst vs) ∧ Rps P w K Z H mm xs vs) ∨ (∃ es kvs, u = .dct false es ∧ Rd H a (.dK kvs) ∧ Rkv P w K Z H mm es kvs) ∨ (∃ es kvs, u = .dct true es ∧ Rd H a (.dT kvs) ∧ RkvT P w K Z H mm es kvs) := by
  cases h with
  | lst h r => cases e; exact .inl ⟨_, _, rfl, h, r⟩
  | dct h r => cases e; exact .inr (.inl ⟨_, _, rfl, .inl h, r⟩)
  | dctT h r => cases e; exact .inr (.inr ⟨_, _, rfl, .inl h, r⟩)
  | ins h r => cases e
  | lckL h r => cases e; exact .inl ⟨_, _, rfl, h, r⟩
  | lckD h r => cases e; exact .inr (.inl ⟨_, _, rfl, .inr ⟨_, h⟩, r⟩)
  | lckT h r => cases e; exact .inr (.inr ⟨_, _, rfl, .inr ⟨_, h⟩, r⟩)
  | tbl _ _ => cases e
theorem see_ref {n : Nat} {u : PV} (hr : HRp P w K Z H mm ph) {x : V} (r : Rp P w K Z H mm (.ref n) x) (e : see ph (.ref n) = some u) : ∃ o a, ph[n]? = some o ∧ x = .ref a ∧ mm[n]? = some a ∧ OR P w K Z H mm o a ∧ o.see = some u := by
  cases r with
  | ref hm =>
    cases q : ph[n]? with
    | none => simp [see, q] at e
    | some o =>
      refine ⟨o, _, rfl, rfl, hm, hr.ob n o _ q hm, ?_⟩
      simpa [see, q] using e
theorem see_lst {v : PV} {x : V} {xs : List PV} (hr : HRp P w K Z H mm ph) (r : Rp P w K Z H mm v x) (e : see ph v = some (.lst xs)) : ∃ a vs, x = .ref a ∧ H a = some (.lst vs) ∧ Rps P w K Z H mm xs vs := by
  cases v with
  | ref n =>
    obtain ⟨o, a, _, rfl, _, ho, es⟩ := see_ref hr r e
    rcases ho.see es with ⟨ys, vs, e1, h, q⟩ | ⟨_, _, e1, _⟩ | ⟨_, _, e1, _⟩
    · cases e1; exact ⟨_, _, rfl, h, q⟩
    · cases e1
    · cases e1
  | _ => first | (cases e; exact r.lst_) | cases e
theorem see_tup {v : PV} {x : V} {xs : List PV} (hr : HRp P w K Z H mm ph) (r : Rp P w K Z H mm v x) (e : see ph v = some (.tup xs)) : v = .tup xs := by
  cases v with
  | ref n =>
    obtain ⟨o, a, _, rfl, _, ho, es⟩ := see_ref hr r e
    rcases ho.see es with ⟨ys, vs, e1, h, q⟩ | ⟨_, _, e1, _⟩ | ⟨_, _, e1, _⟩ <;> cases e1
  | _ => first | (cases e; rfl) | cases e
theorem see_fls {v : PV} {x : V} {xs : List PV} (hr : HRp P w K Z H mm ph) (r : Rp P w K Z H mm v x) (e : see ph v = some (.fls xs)) : v = .fls xs := by
  cases v with
  | ref n =>
    obtain ⟨o, a, _, rfl, _, ho, es⟩ := see_ref hr r e
    rcases ho.see es with ⟨ys, vs, e1, h, q⟩ | ⟨_, _, e1, _⟩ | ⟨_, _, e1, _⟩ <;> cases e1
  | _ => first | (cases e; rfl) | cases e
theorem see_ftp {v : PV} {x : V} {xs : List PV} (hr : HRp P w K Z H mm ph) (r : Rp P w K Z H mm v x) (e : see ph v = some (.ftp xs)) : v = .ftp xs := by
  cases v with
  | ref n =>
    obtain ⟨o, a, _, rfl, _, ho, es⟩ := see_ref hr r e
    rcases ho.see es with ⟨ys, vs, e1, h, q⟩ | ⟨_, _, e1, _⟩ | ⟨_, _, e1, _⟩ <;> cases e1
  | _ => first | (cases e; rfl) | cases e
theorem see_fdc {v : PV} {x : V} {xs : List (PV × PV)} (hr : HRp P w K Z H mm ph) (r : Rp P w K Z H mm v x) (e : see ph v = some (.fdc xs)) : v = .fdc xs := by
  cases v with
  | ref n =>
    obtain ⟨o, a, _, rfl, _, ho, es⟩ := see_ref hr r e
    rcases ho.see es with ⟨ys, vs, e1, h, q⟩ | ⟨_, _, e1, _⟩ | ⟨_, _, e1, _⟩ <;> cases e1
  | _ => first | (cases e; rfl) | cases e
theorem see_str {v : PV} {x : V} {xs : Tx} (hr : HRp P w K Z H mm ph) (r : Rp P w K Z H mm v x) (e : see ph v = some (.str xs)) : v = .str xs := by
  cases v with
  | ref n =>
    obtain ⟨o, a, _, rfl, _, ho, es⟩ := see_ref hr r e
    rcases ho.see es with ⟨ys, vs, e1, h, q⟩ | ⟨_, _, e1, _⟩ | ⟨_, _, e1, _⟩ <;> cases e1
  | _ => first | (cases e; rfl) | cases e
theorem lstOf_ {v : PV} {x : V} {xs : List PV} (hr : HRp P w K Z H mm ph) (r : Rp P w K Z H mm v x) (e : lstOf ph v = some xs) : ∃ a vs, x = .ref a ∧ SqL K H a vs ∧ Rps P w K Z H mm xs vs := by
  unfold lstOf at e
  split at e
  · rename_i q
    cases e
    obtain ⟨a, vs, rfl, h, q⟩ := see_lst hr r q
    exact ⟨a, vs, rfl, .inl (.inl h), q⟩
  · rename_i q
    cases e
    have := see_fls hr r q
    subst this
    exact r.fls_
  · cases e
theorem seqOf_ {v : PV} {x : V} {xs : List PV} (hr : HRp P w K Z H mm ph) (r : Rp P w K Z H mm v x) (e : seqOf ph v = some xs) : ∃ a vs, x = .ref a ∧ (SqL K H a vs ∨ SqT K H a vs) ∧ Rps P w K Z H mm xs vs := by
  unfold seqOf at e
  split at e
  · rename_i q
    cases e
    have := see_ftp hr r q
    subst this
    obtain ⟨a, vs, rfl, h, q⟩ := r.ftp_
    exact ⟨a, vs, rfl, .inr h, q⟩
  · rename_i q
    cases e
    obtain ⟨a, vs, rfl, h, q⟩ := see_lst hr r q
    exact ⟨a, vs, rfl, .inl (.inl (.inl h)), q⟩
  · rename_i q
    cases e
    have := see_fls hr r q
    subst this
    obtain ⟨a, vs, rfl, h, q⟩ := r.fls_
    exact ⟨a, vs, rfl, .inl h, q⟩
  · rename_i q
    cases e
    have := see_tup hr r q
    subst this
    obtain ⟨a, vs, rfl, h, q⟩ := r.tup_
    exact ⟨a, vs, rfl, .inr (.inl (.inl h)), q⟩
  · cases e
end

/-! ### plain data -/
mutual
def toD : PV → PyData
  | .non => .none
  | .bl b => .bool b
  | .int i => .int i
  | .str x => .str (sT x)
  | .tup xs => .tuple (toDs xs)
  | .lst xs => .list (toDs xs)
  | .fls xs => .list (toDs xs)
  | .dct _ _ => .none
  | .ref _ => .none
  | .exc _ _ => .none
  | .ftp _ => .none
  | .fdc _ => .none
def toDs : List PV → List PyData
  | [] => []
  | x :: xs => toD x :: toDs xs
end
mutual
theorem toD_plain : ∀ v : PV, v.plain = true → (toD v).plain = true
  | .non, _ => rfl
  | .bl _, _ => rfl
  | .int _, _ => rfl
  | .str _, _ => rfl
  | .tup xs, h => toDs_plain xs h
  | .lst xs, h => toDs_plain xs h
  | .fls xs, h => toDs_plain xs h
  | .dct _ _, h => by cases h
  | .ref _, h => by cases h
  | .exc _ _, h => by cases h
  | .ftp _, h => by cases h
  | .fdc _, h => by cases h
theorem toDs_plain : ∀ v : List PV, PV.plainL v = true → PyData.plainAll (toDs v) = true
  | [], _ => rfl
  | x :: xs, h => by
    have h' : x.plain = true ∧ PV.plainL xs = true := by simpa [PV.plainL] using h
    simp only [toDs, PyData.plainAll, toD_plain x h'.1, toDs_plain xs h'.2, Bool.and_self]
end
mutual
theorem toD_depth : ∀ v : PV, (toD v).depth = v.depth
  | .non => rfl
  | .bl _ => rfl
  | .int _ => rfl
  | .str _ => rfl
  | .tup xs => by simp [toD, PyData.depth, PV.depth, toDs_depth xs]
  | .lst xs => by simp [toD, PyData.depth, PV.depth, toDs_depth xs]
  | .fls xs => by simp [toD, PyData.depth, PV.depth, toDs_depth xs]
  | .dct _ _ => rfl
  | .ref _ => rfl
  | .exc _ _ => rfl
  | .ftp _ => rfl
  | .fdc _ => rfl
theorem toDs_depth : ∀ v : List PV, PyData.depthAll (toDs v) = PV.depthL v
  | [] => rfl
  | x :: xs => by simp [toDs, PyData.depthAll, PV.depthL, toD_depth x, toDs_depth xs]
end
theorem sT_beq (x y : Tx) : (sT x == sT y) = (x == y) := by
  by_cases h : x = y
  · subst h; simp
  · have : sT x ≠ sT y := fun e => h (sT_inj e)
    rw [beq_eq_false_iff_ne.mpr this, beq_eq_false_iff_ne.mpr h]
mutual
theorem toD_eqv : ∀ v u : PV, v.plain = true → u.plain = true → PyData.eqv (toD v) (toD u) = v.eqv u := by
  intro v u hv hu
  cases v <;> cases u <;> first
    | rfl
    | (exact toDs_eqv _ _ hv hu)
    | (simp only [toD, PyData.eqv, PV.eqv]; done)
    | (simp only [toD, PyData.eqv, PV.eqv, sT_beq]; done)
    | (cases hv; done)
    | (cases hu; done)
theorem toDs_eqv : ∀ v u : List PV, PV.plainL v = true → PV.plainL u = true → PyData.eqvAll (toDs v) (toDs u) = PV.eqvL v u
  | [], [], _, _ => rfl
  | [], _ :: _, _, _ => rfl
  | _ :: _, [], _, _ => rfl
  | x :: xs, y :: ys, hv, hu => by
    have h1 : x.plain = true ∧ PV.plainL xs = true := by simpa [PV.plainL] using hv
    have h2 : y.plain = true ∧ PV.plainL ys = true := by simpa [PV.plainL] using hu
    simp only [toDs, PyData.eqvAll, PV.eqvL, toD_eqv x y h1.1 h2.1, toDs_eqv xs ys h1.2 h2.2]
end
section
variable {P : Program} {w : World} {K : PySem.W.Frag} {Z : Addr → Prop} {H : Hp} {mm : List Addr} {ph : PH}
mutual
theorem Rp.dp : ∀ {v : PV} {x : V}, v.plain = true → Rp P w K Z H mm v x → Dp K H x (toD v)
  | _, _, _, .non => .non
  | _, _, _, .bl b => .bl b
  | _, _, _, .int i => .int i
  | _, _, _, .str x => .str _
  | _, _, h, .tup e _ r => .tup (.inl (.inl e)) (Rps.dp h r)
  | _, _, h, .tupK _ _ => by cases h
  | _, _, h, .lst e _ r => .lst (.inl (.inl e)) (Rps.dp h r)
  | _, _, h, .fls e _ r => .lst (.inl e) (Rps.dp h r)
  | _, _, h, .flsK e r => .lst e.sq (Rps.dp h r)
  | _, _, h, .dct _ _ _ => by cases h
  | _, _, h, .dctK _ _ => by cases h
  | _, _, h, .dctT _ _ _ => by cases h
  | _, _, h, .ref _ => by cases h
  | _, _, h, .exc _ _ _ _ _ => by cases h
theorem Rps.dp : ∀ {v : List PV} {x : List V}, PV.plainL v = true → Rps P w K Z H mm v x → DpAll K H x (toDs v)
  | _, _, _, .nil => .nil
  | x :: xs, _, h, .cons q r => by
    have h' : x.plain = true ∧ PV.plainL xs = true := by simpa [PV.plainL] using h
    exact .cons (Rp.dp h'.1 q) (Rps.dp h'.2 r)
end
/-- what is seen, as data -/
theorem see_dp {v u : PV} {x : V} (hr : HRp P w K Z H mm ph) (r : Rp P w K Z H mm v x) (e : see ph v = some u) (hu : u.plain = true) : Dp K H x (toD u) := by
  cases v with
  | ref n =>
    obtain ⟨o, a, _, rfl, _, ho, es⟩ := see_ref hr r e
    rcases ho.see es with ⟨ys, vs, rfl, h, q⟩ | ⟨_, _, rfl, _⟩ | ⟨_, _, rfl, _⟩
    · exact .lst (.inl (.inl h)) (Rps.dp hu q)
    · cases hu
    · cases hu
  | _ => first | (cases e; exact r.dp hu) | (cases e; cases hu)
end
end Ev
end
section
set_option maxRecDepth 100000
/-! EvD: readings; operators. -/
namespace Ev
open PySem PySem.Spec PyProof.Rows L2

theorem PE.imp {X : Cx} {e : Expr} {t t' : TE} (h : PE X e t) (i : ∀ σ H Q, t' σ H Q → t σ H Q) : PE X e t' := ⟨fun pins s σ H Q I q => h.run pins s σ H Q I (i σ H Q q)⟩
theorem PT.imp {X : Cx} {e : Expr} {t t' : TT} (h : PT X e t) (i : ∀ σ H Q, t' σ H Q → t σ H Q) : PT X e t' := ⟨fun pins s σ H Q I q => h.run pins s σ H Q I (i σ H Q q)⟩
theorem PA.imp {X : Cx} {e : List Expr} {t t' : TA} (h : PA X e t) (i : ∀ σ H Q, t' σ H Q → t σ H Q) : PA X e t' := ⟨fun pos pins s σ H Q I q => h.run pos pins s σ H Q I (i σ H Q q)⟩
theorem PS.imp {X : Cx} {e : Stmt} {t t' : TS} (h : PS X e t) (i : ∀ D σ H, t' D σ H → t D σ H) : PS X e t' := ⟨fun pins s σ H D I q => h.run pins s σ H D I (i D σ H q)⟩
theorem PSs.imp {X : Cx} {e : List Stmt} {t t' : TS} (h : PSs X e t) (i : ∀ D σ H, t' D σ H → t D σ H) : PSs X e t' := ⟨fun pins s σ H D I q => h.run pins s σ H D I (i D σ H q)⟩

section
variable (P : Program) (w : World) (K : PySem.W.Frag) (G : Ctx) (E : XK)
/-- an expression's reading by the evaluator -/
def rdE (c : CE) : TE := fun σ H Q => ∃ Z ρ ph mm, SRp P w K Z H mm ρ σ ∧ HRp P w K Z H mm ph ∧ PostE P w K Z E H mm Q (evE G c ρ ph)
def rdT (c : CE) : TT := fun σ H Q => ∃ Z ρ ph mm, SRp P w K Z H mm ρ σ ∧ HRp P w K Z H mm ph ∧ PostB P w K Z E H mm Q (evE G c ρ ph)
def rdL (c : CEs) : TA := fun σ H Q => ∃ Z ρ ph mm, SRp P w K Z H mm ρ σ ∧ HRp P w K Z H mm ph ∧ PostL P w K Z E H mm Q (evL G c ρ ph)
/-- a two-place operation's reading, by values -/
def r2 (f : PV → PV → PH → R PV) : R2 := fun x y H Q => ∃ Z mm ph v u, HRp P w K Z H mm ph ∧ Rp P w K Z H mm v x ∧ Rp P w K Z H mm u y ∧ PostE P w K Z E H mm Q (f v u ph)
def r1 (f : PV → PH → R PV) : V → Hp → VK → Prop := fun x H Q => ∃ Z mm ph v, HRp P w K Z H mm ph ∧ Rp P w K Z H mm v x ∧ PostE P w K Z E H mm Q (f v ph)
/-- a call's reading, by values -/
def rL (f : List PV → PH → R PV) : List V → Hp → VK → Prop := fun xs H Q => ∃ Z mm ph vs, HRp P w K Z H mm ph ∧ Rps P w K Z H mm vs xs ∧ PostE P w K Z E H mm Q (f vs ph)
end

section
variable {P : Program} {w : World} {K : PySem.W.Frag} {Z : Addr → Prop} {H : Hp} {mm : List Addr} {ph : PH} {E : XK} {Q : VK}
/-- a new list, tuple -/
theorem new_lst {mu : Bool} {xs : List PV} {vs : List V} (q : PostE P w K Z E H mm Q (newLst mu xs ph)) (h : HRp P w K Z H mm ph) (r : Rps P w K Z H mm xs vs) {p : Addr} (hp : H p = none) : Q (.ref p) (upd H p (.lst vs)) := by
  unfold newLst at q
  cases mu with
  | true =>
    rw [if_pos rfl] at q
    refine q _ _ _ (Ext.made hp) (h.made hp (.lst upd_same (r.wk (Ext.made hp).wk))) (.ref ?_)
    rw [← h.len]; simp
  | false =>
    rw [if_neg Bool.false_ne_true] at q
    exact q _ _ _ (Ext.laid hp) (h.laid hp) (.lst upd_same (h.fz hp (h.notIn hp)) (r.wk (Ext.laid hp).wk))
theorem new_tup {xs : List PV} {vs : List V} (q : PostE P w K Z E H mm Q (.ok (.tup xs) ph)) (h : HRp P w K Z H mm ph) (r : Rps P w K Z H mm xs vs) {p : Addr} (hp : H p = none) : Q (.ref p) (upd H p (.tup vs)) :=
  q _ _ _ (Ext.laid hp) (h.laid hp) (.tup upd_same (h.fz hp (h.notIn hp)) (r.wk (Ext.laid hp).wk))
theorem PostG.stk {α β : Type} {Rel : Hp → List Addr → α → β → Prop} {Q : β → Hp → Prop} {C : Prop} (q : PostG P w K Z Rel E H mm Q .stk) : C := False.elim q
end

theorem sT_app (x y : Tx) : sT x ++ sT y = sT (x ++ y) := by
  show Str.append (sT x) (sT y) = _
  simp [Str.append, sT]
theorem sT_cps (x : Tx) : (sT x).cps.toList = x := by simp [sT]
theorem szLine_eq : szLine = sizeLine := rfl
theorem ltT_eq : ∀ x y : Tx, ltT x y = decide (x < y)
  | [], [] => by simp [ltT]
  | [], _ :: _ => by simp [ltT]
  | _ :: _, [] => by simp [ltT]
  | x :: xs, y :: ys => by
    unfold ltT
    by_cases e : x = y
    · subst e
      rw [if_pos rfl, ltT_eq xs ys]
      simp
    · rw [if_neg e]
      simp [e, List.cons_lt_cons_iff]

/-! ### order -/
mutual
theorem toD_like : ∀ v u : PV, v.like u = true → W.alike (toD v) (toD u) = true := by
  intro v u h
  cases v <;> cases u <;> first
    | rfl
    | (exact nomatch (show false = true from h))
    | (exact toDs_like _ _ h)
theorem toDs_like : ∀ v u : List PV, PV.likeL v u = true → W.alikeAll (toDs v) (toDs u) = true
  | [], [], _ => by simp [toDs, W.alikeAll]
  | [], _ :: _, _ => by simp [toDs, W.alikeAll]
  | _ :: _, [], _ => by simp [toDs, W.alikeAll]
  | x :: xs, y :: ys, h => by
    have h' : x.like y = true ∧ PV.likeL xs ys = true := by simpa [PV.likeL] using h
    rw [toDs, toDs, W.alikeAll, toD_like x y h'.1, toDs_like xs ys h'.2]; rfl
end
mutual
theorem toD_lt : ∀ v u : PV, v.plain = true → u.plain = true → v.like u = true → W.dataLt (toD v) (toD u) = v.lt u := by
  intro v u hv hu h
  cases v <;> cases u <;> first
    | (exact nomatch (show false = true from h))
    | (exact (W.dataLt_int _ _).trans rfl)
    | (refine (W.dataLt_bool _ _).trans ?_; rename_i a b; cases a <;> cases b <;> rfl)
    | (refine (W.dataLt_str _ _).trans ?_; simp only [sT_cps, PV.lt, ltT_eq])
    | (refine (W.dataLt_list _ _).trans ?_; exact toDs_lt _ _ hv hu h)
    | (refine (W.dataLt_tuple _ _).trans ?_; exact toDs_lt _ _ hv hu h)
    | (exact W.dataLt_self _)
theorem toDs_lt : ∀ v u : List PV, PV.plainL v = true → PV.plainL u = true → PV.likeL v u = true → PyProof.Rows.lexLt itemOrd (W.keyToksAll (toDs v)) (W.keyToksAll (toDs u)) = PV.ltL v u
  | [], [], _, _, _ => by simp [toDs, PV.ltL, lex_irrefl]
  | [], _ :: _, _, _, _ => by
    simp only [toDs, PV.ltL, W.keyToksAll]
    rfl
  | _ :: _, [], _, _, _ => by
    simp only [toDs, PV.ltL, W.keyToksAll]
    rfl
  | x :: xs, y :: ys, hv, hu, h => by
    have h' : x.like y = true ∧ PV.likeL xs ys = true := by simpa [PV.likeL] using h
    have h1 : x.plain = true ∧ PV.plainL xs = true := by simpa [PV.plainL] using hv
    have h2 : y.plain = true ∧ PV.plainL ys = true := by simpa [PV.plainL] using hu
    rw [toDs, toDs, W.dataLt_cons (toD_like x y h'.1), PV.ltL, toD_eqv x y h1.1 h2.1, toDs_lt xs ys h1.2 h2.2 h'.2, toD_lt x y h1.1 h2.1 h'.1]
end
end Ev
end
section
set_option maxRecDepth 100000
/-! EvE: operators and comparisons. -/
namespace Ev
open PySem PySem.Spec PyProof.Rows L2

def opX : Op → Operator
  | .add => .Add | .sub => .Sub | .mul => .Mult | .fdiv => .FloorDiv | .mod => .Mod | .pow => .Pow | .shl => .LShift | .shr => .RShift | .band => .BitAnd | .bxor => .BitXor
theorem small_lt {i : Int} (h : small i = true) : i.natAbs < 2 ^ 64 := by
  have := of_decide_eq_true h
  omega
theorem small_log {j : Int} (h : small j = true) : j.natAbs.log2 < 9000 := by
  have h1 := small_lt h
  by_cases e : j.natAbs = 0
  · rw [e]; decide
  · exact (Nat.log2_lt e).mpr (Nat.lt_of_lt_of_le h1 (Nat.pow_le_pow_right (by decide) (by decide)))
section
variable {X : Cx} {E : XK}
theorem reps_one (c : Nat) : ∀ (n : Nat) (acc : Array Nat), (List.replicate n #[c]).foldl (· ++ ·) acc = acc ++ (List.replicate n c).toArray
  | 0, acc => by simp
  | n + 1, acc => by
    rw [List.replicate_succ, List.foldl_cons, reps_one c n, List.replicate_succ]
    apply Array.ext'
    simp
theorem mul_one (c : Nat) {k : Int} (h : 2 ≤ k) : Txt.mul (sT [c]) k = sT (List.replicate k.toNat c) := by
  unfold Txt.mul
  have h1 : ¬ k < 1 := by omega
  have h2 : ¬ (k == 1 || (sT [c]).length == 0) = true := by
    rw [sT_len]
    simp
    omega
  rw [if_neg h1, if_neg h2]
  show (⟨(List.replicate k.toNat #[c]).foldl (· ++ ·) #[]⟩ : Str) = _
  rw [reps_one]
  simp [sT]
/-- one sign, again and again -/
theorem op_rep1 : OpR X (binaryOp .Mult) (fun x y H Q => ∃ c k, x = .str (sT [c]) ∧ y = .int k ∧ 2 ≤ k ∧ k ≤ 100000 ∧ Q (.str (sT (List.replicate k.toNat c))) H) := by
  intro pins s σ H x y v u Q I rx ry ⟨c, k, ex, ey, h1, h2, q⟩
  subst ex ey
  obtain ⟨t, rfl⟩ := rx
  obtain ⟨t', rfl⟩ := ry
  have hl : (sT [c]).length = 1 := by rw [sT_len]; rfl
  have ok : MulOk (sT [c]) k := by
    refine ⟨?_, fun _ _ => ?_, fun _ _ => ?_⟩
    · rw [Bool.or_eq_false_iff]
      exact ⟨decide_eq_false (by omega), decide_eq_false (by omega)⟩
    · rw [hl]
      have : (1 : Int) ≤ (2 ^ 63 - 1) / k := (Int.le_ediv_iff_mul_le (by omega)).mpr (by omega)
      simpa using this
    · rw [hl]
      unfold Builtin.Str.tooLong
      have : (sizeLine : Nat) = 16777216 := by decide
      rw [this]
      exact decide_eq_false (by omega)
  refine PySem.SB.mul ok fun t2 tk => ⟨.str (sT (List.replicate k.toNat c)), H, I.tok _, ⟨t2, ?_⟩, q⟩
  rw [mul_one c h1]
theorem op_bin (op : Op) (mu : Bool) : OpR X (binaryOp (opX op)) (r2 X.prog X.w X.K E (binop op mu)) := by
  intro pins s σ H x y v u Q I rx ry ⟨Z, mm, ph, a, b, hr, ra, rb, q⟩
  unfold binop at q
  split at q
  · obtain rfl := ra.int_; obtain rfl := rb.int_
    exact op_add pins s σ H _ _ v u Q I rx ry ⟨_, _, rfl, rfl, q.ok hr (.int _)⟩
  · obtain rfl := ra.int_; obtain rfl := rb.int_
    exact op_sub pins s σ H _ _ v u Q I rx ry ⟨_, _, rfl, rfl, q.ok hr (.int _)⟩
  · split at q
    · rename_i i j h
      obtain rfl := ra.int_; obtain rfl := rb.int_
      refine op_mul pins s σ H _ _ v u Q I rx ry ⟨_, _, rfl, rfl, ?_, q.ok hr (.int _)⟩
      unfold CMul
      rw [Bool.or_eq_true] at h
      rcases h with h | h
      · have := small_lt h; omega
      · have := small_lt h; omega
    · exact q.elim
  · split at q
    · rename_i i j h
      obtain rfl := ra.int_; obtain rfl := rb.int_
      have h' : (0 : Int) < j ∧ small j = true := by simpa using h
      exact op_fdivW pins s σ H _ _ v u Q I rx ry ⟨_, _, rfl, rfl, ⟨h'.1, small_log h'.2⟩, q.ok hr (.int _)⟩
    · exact q.elim
  · split at q
    · rename_i i j h
      obtain rfl := ra.int_; obtain rfl := rb.int_
      exact op_mod pins s σ H _ _ v u Q I rx ry ⟨_, _, rfl, rfl, h, q.ok hr (.int _)⟩
    · exact q.elim
  · split at q
    · rename_i i j h
      obtain rfl := ra.int_; obtain rfl := rb.int_
      have h' : ((0 : Int) ≤ j ∧ j ≤ 1000000) ∧ small i = true := by simpa using h
      exact op_pow pins s σ H _ _ v u Q I rx ry ⟨_, _, rfl, rfl, ⟨h'.1.1, h'.1.2, small_lt h'.2⟩, q.ok hr (.int _)⟩
    · exact q.elim
  · split at q
    · rename_i i j h
      obtain rfl := ra.int_; obtain rfl := rb.int_
      have h' : ((0 : Int) ≤ j ∧ j ≤ 1000000) ∧ small i = true := by simpa using h
      exact op_shl pins s σ H _ _ v u Q I rx ry ⟨_, _, rfl, rfl, ⟨h'.1.1, h'.1.2, small_lt h'.2⟩, q.ok hr (.int _)⟩
    · exact q.elim
  · split at q
    · rename_i i j h
      obtain rfl := ra.int_; obtain rfl := rb.int_
      exact op_shr pins s σ H _ _ v u Q I rx ry ⟨_, _, rfl, rfl, h, q.ok hr (.int _)⟩
    · exact q.elim
  · split at q
    · rename_i i j h
      obtain rfl := ra.str_; obtain rfl := rb.str_
      exact op_add_str pins s σ H _ _ v u Q I rx ry ⟨sT i, sT j, rfl, rfl, by rw [sT_len, sT_len]; exact h, by rw [sT_app]; exact q.ok hr (.str _)⟩
    · exact q.elim
  · split at q
    · rename_i i j h
      obtain ⟨a1, vs, rfl, h1, s1⟩ := ra.tup_
      obtain ⟨a2, us, rfl, h2, s2⟩ := rb.tup_
      refine op_catA pins s σ H _ _ v u Q I rx ry ⟨a1, a2, vs, us, rfl, rfl, .inl (.inl h1), .inl (.inl h2), by rw [← s1.len, ← s2.len]; exact h, fun e => ?_, fun _ e => ?_, fun _ _ p hp => new_tup q hr (s1.append s2) hp⟩
      · subst e
        cases s1
        exact q.ok hr rb
      · subst e
        cases s2
        rw [List.append_nil] at q
        exact q.ok hr ra
    · exact q.elim
  · split at q
    · rename_i xs ys e1 e2
      split at q
      · rename_i h
        obtain ⟨a1, vs, rfl, h1, s1⟩ := see_lst hr ra e1
        obtain ⟨a2, us, rfl, h2, s2⟩ := see_lst hr rb e2
        exact op_cat pins s σ H _ _ v u Q I rx ry ⟨a1, a2, vs, us, rfl, rfl, h1, h2, by rw [← s1.len, ← s2.len]; exact h, fun p hp => new_lst q hr (s1.append s2) hp⟩
      · exact q.elim
    · exact q.elim
  · split at q
    · rename_i xs e1
      split at q
      · rename_i h
        obtain rfl := rb.int_
        obtain ⟨a1, vs, rfl, h1, s1⟩ := see_lst hr ra e1
        have h' := h
        simp only [Bool.and_eq_true, decide_eq_true_eq] at h'
        exact op_rep pins s σ H _ _ v u Q I rx ry ⟨a1, _, vs, rfl, rfl, h1, by omega, by omega, by rw [← s1.len]; exact h'.1.1, fun p hp => new_lst q hr (s1.replicate _) hp⟩
      · exact q.elim
    · rename_i xs e1
      split at q
      · rename_i h
        obtain rfl := rb.int_
        have := see_tup hr ra e1
        subst this
        obtain ⟨a1, vs, rfl, h1, s1⟩ := ra.tup_
        have h' := h
        simp only [Bool.and_eq_true, decide_eq_true_eq, Bool.not_eq_true'] at h'
        refine op_repT pins s σ H _ _ v u Q I rx ry ⟨a1, _, vs, rfl, rfl, .inl (.inl h1), fun e => ?_, h'.1.2, h'.2, by rw [← s1.len]; exact h'.1.1.2, fun p hp => new_tup q hr (s1.replicate _) hp⟩
        subst e
        cases s1
        exact absurd h'.1.1.1 (by decide)
      · exact q.elim
    · rename_i c e1
      split at q
      · rename_i h
        obtain rfl := rb.int_
        have := see_str hr ra e1
        subst this
        obtain rfl := ra.str_
        have h' := h
        simp only [Bool.and_eq_true, decide_eq_true_eq] at h'
        exact op_rep1 pins s σ H _ _ v u Q I rx ry ⟨c, _, rfl, rfl, h'.1, h'.2, q.ok hr (.str _)⟩
      · exact q.elim
    · exact q.elim
  · exact q.elim

end
end Ev
end
section
set_option maxRecDepth 100000
/-! EvE2: dicts that are read; comparisons. -/
namespace Ev
open PySem PySem.Spec PyProof.Rows L2

/-! ### keys -/
theorem kOf_flat {a : PV} (h : flatK a = true) : ∃ q, kOf a = some q := by
  cases a <;> first | exact ⟨_, rfl⟩ | cases h
theorem kOf_isFlat {a : PV} {q : Key} (h : kOf a = some q) : flatK a = true := by
  cases a <;> first | rfl | cases h
theorem kOf_eqv {a b : PV} {q p : Key} (h1 : kOf a = some q) (h2 : kOf b = some p) : a.eqv b = decide (q = p) := by
  cases a <;> first | cases h1 | skip
  · cases b <;> first | cases h2 | skip
    · rename_i i j
      exact (key_ll i j).symm
    · exact (key_lr _ _).symm
  · cases b <;> first | cases h2 | skip
    · exact (key_rl _ _).symm
    · rename_i x y
      show (x == y) = _
      rw [key_rr]
      by_cases e : x = y
      · subst e; simp
      · rw [beq_eq_false_iff_ne.mpr e, decide_eq_false fun z => e (sT_inj z)]
theorem kOfs_all : ∀ {xs : List PV}, (xs.all flatK) = true → ∃ q, kOfs xs = some q
  | [], _ => ⟨[], rfl⟩
  | x :: xs, h => by
    rw [List.all_cons, Bool.and_eq_true] at h
    obtain ⟨q, e1⟩ := kOf_flat h.1
    obtain ⟨r, e2⟩ := kOfs_all h.2
    exact ⟨q :: r, by simp [kOfs, e1, e2]⟩
theorem kOfs_cons {x : PV} {xs : List PV} {q : List Key} (h : kOfs (x :: xs) = some q) : ∃ a r, kOf x = some a ∧ kOfs xs = some r ∧ q = a :: r := by
  unfold kOfs at h
  cases e : kOf x with
  | none => rw [e] at h; cases h
  | some a =>
    rw [e] at h
    cases e2 : kOfs xs with
    | none => rw [e2] at h; cases h
    | some r => rw [e2] at h; exact ⟨a, r, rfl, rfl, (Option.some.inj h).symm⟩
theorem kOfs_eqv : ∀ {xs ys : List PV} {q p : List Key}, kOfs xs = some q → kOfs ys = some p → PV.eqvL xs ys = decide (q = p)
  | [], [], _, _, h1, h2 => by cases h1; cases h2; rfl
  | [], _ :: _, _, _, h1, h2 => by
    obtain ⟨_, _, _, _, rfl⟩ := kOfs_cons h2
    cases h1; rfl
  | _ :: _, [], _, _, h1, h2 => by
    obtain ⟨_, _, _, _, rfl⟩ := kOfs_cons h1
    cases h2; rfl
  | x :: xs, y :: ys, _, _, h1, h2 => by
    obtain ⟨a, r, a1, a2, rfl⟩ := kOfs_cons h1
    obtain ⟨b, t, b1, b2, rfl⟩ := kOfs_cons h2
    show (x.eqv y && PV.eqvL xs ys) = _
    rw [kOf_eqv a1 b1, kOfs_eqv a2 b2]
    by_cases e1 : a = b
    · by_cases e2 : r = t
      · subst e1 e2; simp
      · simp [e2]
    · simp [e1]
section
variable {P : Program} {w : World} {K : PySem.W.Frag} {Z : Addr → Prop} {H : Hp} {mm : List Addr} {ph : PH}
theorem Rp.key {a : PV} {x : V} {q : Key} (r : Rp P w K Z H mm a x) (h : kOf a = some q) : x = kV q := by
  cases r <;> first | (cases h; rfl) | cases h
theorem Rps.keys : ∀ {xs : List PV} {vs : List V} {q : List Key}, Rps P w K Z H mm xs vs → kOfs xs = some q → vs = q.map kV
  | _, _, _, .nil, h => by cases h; rfl
  | _, _, _, .cons r t, h => by
    obtain ⟨a, b, h1, h2, rfl⟩ := kOfs_cons h
    rw [r.key h1, Rps.keys t h2]; rfl
/-- found or not -/
inductive RpO (P : Program) (w : World) (K : PySem.W.Frag) (Z : Addr → Prop) (H : Hp) (mm : List Addr) : Option PV → Option V → Prop
  | no : RpO P w K Z H mm none none
  | yes {v : PV} {x : V} : Rp P w K Z H mm v x → RpO P w K Z H mm (some v) (some x)
theorem RpO.isSome {o : Option PV} {u : Option V} (h : RpO P w K Z H mm o u) : u.isSome = o.isSome := by cases h <;> rfl
theorem RpO.getD {o : Option PV} {u : Option V} {d : PV} {y : V} (h : RpO P w K Z H mm o u) (r : Rp P w K Z H mm d y) : Rp P w K Z H mm (o.getD d) (u.getD y) := by
  cases h
  · exact r
  · assumption
theorem RpO.some_ {v : PV} {u : Option V} (h : RpO P w K Z H mm (some v) u) : ∃ x, u = some x ∧ Rp P w K Z H mm v x := by
  cases h; exact ⟨_, rfl, by assumption⟩
theorem Rkv.get {a : PV} {q : Key} (hq : kOf a = some q) : ∀ {es : List (PV × PV)} {kvs : List (Key × V)}, Rkv P w K Z H mm es kvs → RpO P w K Z H mm (dget es a) (valV kvs q)
  | _, _, .nil => .no
  | _, _, .cons (k := k) (q := p) e r t => by
    have ih := Rkv.get hq t
    unfold dget
    rw [List.find?_cons]
    show RpO P w K Z H mm (Option.map _ (match k.eqv a with | true => _ | false => _)) _
    rw [kOf_eqv e hq]
    by_cases h : p = q
    · rw [decide_eq_true h, valV_pos h]; exact .yes r
    · rw [decide_eq_false h, valV_neg h]; exact ih
theorem RkvT.get {xs : List PV} {q : List Key} (hq : kOfs xs = some q) : ∀ {es : List (PV × PV)} {kvs : List (List Key × V)}, RkvT P w K Z H mm es kvs → RpO P w K Z H mm (dget es (.tup xs)) (valV kvs q)
  | _, _, .nil => .no
  | _, _, .cons (ks := k) (q := p) e r t => by
    have ih := RkvT.get hq t
    unfold dget
    rw [List.find?_cons]
    show RpO P w K Z H mm (Option.map _ (match PV.eqvL k xs with | true => _ | false => _)) _
    rw [kOfs_eqv e hq]
    by_cases h : p = q
    · rw [decide_eq_true h, valV_pos h]; exact .yes r
    · rw [decide_eq_false h, valV_neg h]; exact ih
theorem Rkv.len : ∀ {es : List (PV × PV)} {kvs : List (Key × V)}, Rkv P w K Z H mm es kvs → es.length = kvs.length
  | _, _, .nil => rfl
  | _, _, .cons _ _ t => congrArg (· + 1) (Rkv.len t)
theorem RkvT.len : ∀ {es : List (PV × PV)} {kvs : List (List Key × V)}, RkvT P w K Z H mm es kvs → es.length = kvs.length
  | _, _, .nil => rfl
  | _, _, .cons _ _ t => congrArg (· + 1) (RkvT.len t)
/-- what a dict of the evaluator's sight is -/
theorem see_dct {v : PV} {x : V} {tk : Bool} {es : List (PV × PV)} (hr : HRp P w K Z H mm ph) (r : Rp P w K Z H mm v x) (e : see ph v = some (.dct tk es)) :
    ∃ a, x = .ref a ∧ ((tk = false ∧ ∃ kvs, Rd H a (.dK kvs) ∧ Rkv P w K Z H mm es kvs) ∨ (tk = true ∧ ∃ kvs, Rd H a (.dT kvs) ∧ RkvT P w K Z H mm es kvs)) := by
  cases v with
  | ref n =>
    obtain ⟨o, a, _, rfl, _, ho, es⟩ := see_ref hr r e
    rcases ho.see es with ⟨ys, vs, e1, h, q⟩ | ⟨_, _, e1, h, q⟩ | ⟨_, _, e1, h, q⟩
    · cases e1
    · cases e1; exact ⟨a, rfl, .inl ⟨rfl, _, h, q⟩⟩
    · cases e1; exact ⟨a, rfl, .inr ⟨rfl, _, h, q⟩⟩
  | dct tk' es' =>
    cases e
    cases r with
    | dct h _ q => exact ⟨_, rfl, .inl ⟨rfl, _, h, q⟩⟩
    | dctT h _ q => exact ⟨_, rfl, .inr ⟨rfl, _, h, q⟩⟩
  | _ => cases e
/-- the key asked for -/
theorem dget_ok {v k : PV} {x y : V} {tk : Bool} {es : List (PV × PV)} (hr : HRp P w K Z H mm ph) (r : Rp P w K Z H mm v x) (e : see ph v = some (.dct tk es)) (rk : Rp P w K Z H mm k y) (hk : keyOk tk k = true) :
    ∃ a o, x = .ref a ∧ DGet H a y o ∧ RpO P w K Z H mm (dget es k) o := by
  obtain ⟨a, rfl, ⟨rfl, kvs, h, q⟩ | ⟨rfl, kvs, h, q⟩⟩ := see_dct hr r e
  · have hf : flatK k = true := by
      cases k <;> first | rfl | cases hk
    obtain ⟨p, hp⟩ := kOf_flat hf
    exact ⟨a, _, rfl, .inl ⟨kvs, p, h, rk.key hp, rfl⟩, q.get hp⟩
  · cases k with
    | tup xs =>
      obtain ⟨p, hp⟩ := kOfs_all (xs := xs) (by simpa [keyOk] using hk)
      obtain ⟨b, vs, rfl, hb, rs⟩ := rk.tup_
      rw [rs.keys hp] at hb
      exact ⟨a, _, rfl, .inr ⟨kvs, p, b, h, rfl, hb, rfl⟩, q.get hp⟩
    | _ => cases hk
end
/-- a dict that is tracked, or one of the module -/
inductive DAt (X : Cx) (H : Hp) (s : Shared) (a : Addr) (y : V) (o : Option V) : Prop
  | tr : DGet H a y o → DAt X H s a y o
  | kd {kvs : List (Key × V)} {k : Key} {vs : List (Key × Value)} : y = kV k → (a == sysModules) = false → KV kvs vs → s.heap.DictOf (mixKind X.prog X.w) a vs → o = valV kvs k → DAt X H s a y o
section
variable {X : Cx} {pins : List (Addr × Obj)} {σ : L2.St} {H : Hp} {s : Shared} {a : Addr} {y d v : V} {u r : Value} {o : Option V} {A : Around} {E : Value → Shared → Prop} {Z : Addr → Prop} {mm : List Addr} {ph : PH}
theorem dat_dct {b k : PV} {x : V} {tk : Bool} {es : List (PV × PV)} (hr : HRp X.prog X.w X.K Z H mm ph) (r : Rp X.prog X.w X.K Z H mm b x) (e : see ph b = some (.dct tk es)) (rk : Rp X.prog X.w X.K Z H mm k y) (hk : keyOk tk k = true) :
    ∃ a o, x = .ref a ∧ DAt X H s a y o ∧ RpO X.prog X.w X.K Z H mm (dget es k) o := by
  obtain ⟨a, o, e, g, q⟩ := dget_ok hr r e rk hk
  exact ⟨a, o, e, .tr g, q⟩
theorem dat_fdc {b k : PV} {x : V} {es : List (PV × PV)} (I : Inv X pins σ H s) (hr : HRp X.prog X.w X.K Z H mm ph) (r : Rp X.prog X.w X.K Z H mm b x) (e : see ph b = some (.fdc es)) (rk : Rp X.prog X.w X.K Z H mm k y) (hk : keyOk false k = true) :
    ∃ a o, x = .ref a ∧ DAt X H s a y o ∧ RpO X.prog X.w X.K Z H mm (dget es k) o := by
  have := see_fdc hr r e
  subst this
  obtain ⟨a, kvs, rfl, ⟨z, hs, vs, rel, dd⟩, q⟩ := r.fdc_
  have hf : flatK k = true := by
    cases k <;> first | rfl | cases hk
  obtain ⟨p, hp⟩ := kOf_flat hf
  exact ⟨a, _, rfl, .kd (rk.key hp) hs rel (dd _ I.kIn) rfl, q.get hp⟩
theorem a_item {Q : Value → Shared → Prop} (hu : A.units + 1 < cLine) (I : Inv X pins σ H s) (g : DAt X H s a y (some v)) (ry : RelV y u) (h : ∀ w' s', Inv X pins σ H s' → RelV v w' → Q w' s') : wpAny (model X.prog X.w) A (getItem (.ref a) u) Q E s := by
  cases g with
  | tr g => exact d_getItem hu I g ry h
  | kd ey hs rel dd el =>
    subst ey
    rename_i kvs k vs
    have hrel := rel.val k
    rw [← el] at hrel
    obtain ⟨z, hz, rz⟩ := RelO.some_of hrel
    exact wpAny_getItem_of (kV_is ry) dd.mapOf hz (h z _ (I.tok _) rz)
theorem a_in {Q : Value → Shared → Prop} (hu : A.units + 1 < cLine) (I : Inv X pins σ H s) (g : DAt X H s a y o) (ry : RelV y u) (h : ∀ s', Inv X pins σ H s' → Q (.bool o.isSome) s') : wpAny (model X.prog X.w) A (compareOp .In u (.ref a)) Q E s := by
  cases g with
  | tr g => exact d_in hu I g ry h
  | kd ey hs rel dd el =>
    subst ey el
    refine wpAny_in_of (kV_is ry) hs dd.mapOf ?_
    rename_i kvs k vs
    have e := (rel.val k).isSome_eq
    rw [← e]; exact h _ (I.tok _)
theorem a_notIn {Q : Value → Shared → Prop} (hu : A.units + 1 < cLine) (I : Inv X pins σ H s) (g : DAt X H s a y o) (ry : RelV y u) (h : ∀ s', Inv X pins σ H s' → Q (.bool (!o.isSome)) s') : wpAny (model X.prog X.w) A (compareOp .NotIn u (.ref a)) Q E s := by
  cases g with
  | tr g => exact d_notIn hu I g ry h
  | kd ey hs rel dd el =>
    subst ey el
    refine wpAny_notIn_of (kV_is ry) hs dd.mapOf ?_
    rename_i kvs k vs
    have e := (rel.val k).isSome_eq
    rw [← e]; exact h _ (I.tok _)
theorem a_get1 {Q : Value → Shared → Prop} (hu : A.units + 1 < cLine) (I : Inv X pins σ H s) (g : DAt X H s a y o) (ry : RelV y u) (h : ∀ w' s', Inv X pins σ H s' → RelV (o.getD .non) w' → Q w' s') : wpAny (model X.prog X.w) A (call (.builtin "dict.get") [.ref a, u]) Q E s := by
  cases g with
  | tr g => exact d_get1 hu I g ry h
  | kd ey hs rel dd el =>
    subst ey el
    exact call_meetsIn PySem.F.slot_dict_get dd.typeIs PySem.F.entry_dict_get (PySem.F.args_dict_get_2 _ _) (meets_dict_get (mixKind X.prog X.w) a (kV_is ry) hs) ⟨_, dd.mapOf, h _ _ (I.tok _) ((rel.val _).getD rfl)⟩
theorem a_get2 {Q : Value → Shared → Prop} (hu : A.units + 1 < cLine) (I : Inv X pins σ H s) (g : DAt X H s a y o) (ry : RelV y u) (rd : RelV d r) (h : ∀ w' s', Inv X pins σ H s' → RelV (o.getD d) w' → Q w' s') : wpAny (model X.prog X.w) A (call (.builtin "dict.get") [.ref a, u, r]) Q E s := by
  cases g with
  | tr g => exact d_get2 hu I g ry rd h
  | kd ey hs rel dd el =>
    subst ey el
    exact call_meetsIn PySem.F.slot_dict_get dd.typeIs PySem.F.entry_dict_get (PySem.F.args_dict_get_3 _ _ _) (meets_dict_get_default (mixKind X.prog X.w) a (kV_is ry) hs r) ⟨_, dd.mapOf, h _ _ (I.tok _) ((rel.val _).getD rd)⟩
end

section
variable {X : Cx} {E : XK}
mutual
theorem like_comm : ∀ v u : PV, v.like u = true → u.like v = true := by
  intro v u h
  cases v <;> cases u <;> first
    | exact h
    | (exact likeL_comm _ _ h)
theorem likeL_comm : ∀ v u : List PV, PV.likeL v u = true → PV.likeL u v = true
  | [], [], _ => rfl
  | [], _ :: _, _ => rfl
  | _ :: _, [], _ => rfl
  | x :: xs, y :: ys, h => by
    have h' : x.like y = true ∧ PV.likeL xs ys = true := by simpa [PV.likeL] using h
    simp only [PV.likeL, like_comm x y h'.1, likeL_comm xs ys h'.2, Bool.and_self]
end
def cmpX : Cm → CmpOp
  | .eq => .Eq | .ne => .NotEq | .lt => .Lt | .le => .LtE | .gt => .Gt | .ge => .GtE | .isN => .Is | .notN => .IsNot | .inn => .In | .nin => .NotIn
theorem fin_b {pins : List (Addr × Obj)} {σ : L2.St} {H : Hp} {s : Shared} {Q : VK} {Z : Addr → Prop} {mm : List Addr} {ph : PH} {k k' : Bool} (I : Inv X pins σ H s) (hr : HRp X.prog X.w X.K Z H mm ph) (q : PostE X.prog X.w X.K Z E H mm Q (ofB (some k) ph)) (e : k = k') : EP X pins σ Q (.bool k') s :=
  fin_bl I (PostG.ok q hr (.bl _)) e
theorem isNon_iff {P : Program} {w : World} {K : PySem.W.Frag} {Z : Addr → Prop} {H : Hp} {mm : List Addr} {a : PV} {x : V} (r : Rp P w K Z H mm a x) : decide (x = V.non) = isNon a := by
  cases r <;> simp [isNon]
theorem any_toD {u : PV} (hu : u.plain = true) : ∀ xs : List PV, PV.plainL xs = true → ((toDs xs).any fun y => PyData.eqv y (toD u)) = xs.any fun z => z.eqv u
  | [], _ => rfl
  | x :: xs, h => by
    have h' : x.plain = true ∧ PV.plainL xs = true := by simpa [PV.plainL] using h
    simp only [toDs, List.any_cons, any_toD hu xs h'.2, toD_eqv x u h'.1 hu]
/-- in -/
theorem in_ok (hu : X.A.units + 64 < cLine) {pins : List (Addr × Obj)} {s : Shared} {σ : L2.St} {H : Hp} {x y : V} {v u : Value} {Q : Value → Shared → Prop} {Z : Addr → Prop} {mm : List Addr} {ph : PH} {a b : PV} {k : Bool} (I : Inv X pins σ H s) (rx : RelV x v) (ry : RelV y u)
    (hr : HRp X.prog X.w X.K Z H mm ph) (ra : Rp X.prog X.w X.K Z H mm a x) (rb : Rp X.prog X.w X.K Z H mm b y) (e : isIn a b ph = some k) :
    ((∀ s', Inv X pins σ H s' → Q (.bool k) s') → wpAny (model X.prog X.w) X.A (compareOp .In v u) Q X.xe s) ∧ ((∀ s', Inv X pins σ H s' → Q (.bool (!k)) s') → wpAny (model X.prog X.w) X.A (compareOp .NotIn v u) Q X.xe s) := by
  unfold isIn at e
  have seqCase : ∀ (ys : List PV), a.plain = true → PV.plainL ys = true → a.depth ≤ 60 → k = (ys.any fun z => z.eqv a) → (Dp X.K H y (.list (toDs ys)) ∨ Dp X.K H y (.tuple (toDs ys))) →
      ((∀ s', Inv X pins σ H s' → Q (.bool k) s') → wpAny (model X.prog X.w) X.A (compareOp .In v u) Q X.xe s) ∧ ((∀ s', Inv X pins σ H s' → Q (.bool (!k)) s') → wpAny (model X.prog X.w) X.A (compareOp .NotIn v u) Q X.xe s) := by
    intro ys h1 h2 h3 h4 h5
    obtain ⟨as, q1⟩ := Dp.reads I _ x v (ra.dp h1) rx
    have hroom : X.A.units + 1 + min (PyData.depthAll (toDs ys)) (toD a).depth < cLine := by
      have : min (PyData.depthAll (toDs ys)) (toD a).depth ≤ (toD a).depth := Nat.min_le_right _ _
      rw [toD_depth] at this
      rw [toD_depth]
      omega
    rw [← any_toD h1 ys h2] at h4
    subst h4
    rcases h5 with h5 | h5
    · obtain ⟨bs, q2⟩ := Dp.reads I _ y u h5 ry
      exact ⟨fun q => SeqAt.in_list_data q2 q1 (toDs_plain _ h2) (toD_plain _ h1) hroom (q s I), fun q => SeqAt.notIn_list_data q2 q1 (toDs_plain _ h2) (toD_plain _ h1) hroom (q s I)⟩
    · obtain ⟨bs, q2⟩ := Dp.reads I _ y u h5 ry
      exact ⟨fun q => SeqAt.in_tuple_data q2 q1 (toDs_plain _ h2) (toD_plain _ h1) hroom (q s I), fun q => SeqAt.notIn_tuple_data q2 q1 (toDs_plain _ h2) (toD_plain _ h1) hroom (q s I)⟩
  split at e
  · rename_i ys hs
    split at e
    · rename_i hh
      simp only [Bool.and_eq_true, decide_eq_true_eq] at hh
      exact seqCase ys hh.1.1 hh.1.2 hh.2 (Option.some.inj e).symm (.inl (see_dp hr rb hs hh.1.2))
    · cases e
  · rename_i ys hs
    split at e
    · rename_i hh
      simp only [Bool.and_eq_true, decide_eq_true_eq] at hh
      exact seqCase ys hh.1.1 hh.1.2 hh.2 (Option.some.inj e).symm (.inl (see_dp hr rb hs hh.1.2))
    · cases e
  · rename_i ys hs
    split at e
    · rename_i hh
      simp only [Bool.and_eq_true, decide_eq_true_eq] at hh
      exact seqCase ys hh.1.1 hh.1.2 hh.2 (Option.some.inj e).symm (.inr (see_dp hr rb hs hh.1.2))
    · cases e
  · rename_i ys hs
    split at e
    · rename_i hh
      simp only [Bool.and_eq_true, decide_eq_true_eq] at hh
      have := see_ftp hr rb hs
      subst this
      obtain ⟨a1, vs, rfl, h1, s1⟩ := rb.ftp_
      exact seqCase ys hh.1.1 hh.1.2 hh.2 (Option.some.inj e).symm (.inr (.tup h1 (s1.dp hh.1.2)))
    · cases e
  · rename_i t hs
    split at e
    · rename_i c
      have := see_str hr rb hs
      subst this
      obtain rfl := ra.str_
      obtain rfl := rb.str_
      obtain ⟨t1, rfl⟩ := rx
      obtain ⟨t2, rfl⟩ := ry
      have hk : (!(Builtin.Str.occurrences (sT t) (sT [c]) 0 (sT t).length 1).isEmpty) = k := by
        rw [← Option.some.inj e]
        refine (PySem.StrLaws.found_one (sT t) c).trans ?_
        rw [sT_cps, List.contains_eq_mem]
      exact ⟨fun q => PyProof.Rows.in_str (by rw [hk]; exact q s I), fun q => PyProof.Rows.notIn_str (by rw [hk]; exact q s I)⟩
    · cases e
  · rename_i tk es hs
    split at e
    · rename_i hk
      obtain ⟨a1, o, rfl, g, ro⟩ := dat_dct (s := s) hr rb hs ra hk
      cases ry
      have hk' : o.isSome = k := by rw [ro.isSome]; exact Option.some.inj e
      exact ⟨fun q => a_in (by omega) I g rx fun s' I' => by rw [hk']; exact q s' I', fun q => a_notIn (by omega) I g rx fun s' I' => by rw [hk']; exact q s' I'⟩
    · cases e
  · rename_i es hs
    split at e
    · rename_i hk
      obtain ⟨a1, o, rfl, g, ro⟩ := dat_fdc I hr rb hs ra hk
      cases ry
      have hk' : o.isSome = k := by rw [ro.isSome]; exact Option.some.inj e
      exact ⟨fun q => a_in (by omega) I g rx fun s' I' => by rw [hk']; exact q s' I', fun q => a_notIn (by omega) I g rx fun s' I' => by rw [hk']; exact q s' I'⟩
    · cases e
  · cases e

theorem eqPart_ok {p r : PV} {k : Bool} (h : eqPart p r = some k) : ∃ xs ys, p = .tup xs ∧ r = .tup ys ∧ ((xs.zip ys).all fun p => eqOk p.1 p.2) = true ∧ PV.eqvL xs ys = k := by
  unfold eqPart at h
  split at h
  · split at h
    · rename_i xs ys hz
      exact ⟨_, _, rfl, rfl, hz, Option.some.inj h⟩
    · cases h
  · cases h
theorem eqvL_range : ∀ (xs ys : List PV), (((List.range (min xs.length ys.length)).all fun j => (xs.getD j .non).eqv (ys.getD j .non)) && xs.length == ys.length) = PV.eqvL xs ys
  | [], [] => rfl
  | [], _ :: _ => by simp [PV.eqvL]
  | _ :: _, [] => by simp [PV.eqvL]
  | x :: xs, y :: ys => by
    have ih := eqvL_range xs ys
    rw [PV.eqvL, ← ih, List.length_cons, List.length_cons, Nat.succ_min_succ, List.range_succ_eq_map, List.all_cons, List.all_map]
    have e : ((xs.length + 1 == ys.length + 1) : Bool) = (xs.length == ys.length) := by simp
    rw [e, Bool.and_assoc]
    rfl
theorem vals_get : ∀ {vs : List V} {us : List Value}, Vals vs us → ∀ {i : Nat} {x : V}, vs[i]? = some x → ∃ u, us[i]? = some u ∧ RelV x u
  | _, _, .nil, i, x, e => by simp at e
  | _, _, .cons r rs, 0, x, e => by simp at e; subst e; exact ⟨_, rfl, r⟩
  | _, _, .cons r rs, i + 1, x, e => by
    obtain ⟨u, e1, q⟩ := vals_get rs (i := i) (x := x) (by simpa using e)
    exact ⟨u, by simpa using e1, q⟩
theorem op_cmp (hu : X.A.units + 64 < cLine) (op : Cm) : OpR X (compareOp (cmpX op)) (r2 X.prog X.w X.K E fun x y h => ofB (cmpop op x y h) h) := by
  intro pins s σ H x y v u Q I rx ry ⟨Z, mm, ph, a, b, hr, ra, rb, q⟩
  have fin : ∀ {o : Option Bool} {k : Bool} {s' : Shared}, Inv X pins σ H s' → PostE X.prog X.w X.K Z E H mm Q (ofB o ph) → o = some k → EP X pins σ Q (.bool k) s' := fun {o k s'} I' q e => by
    subst e
    exact fin_b I' hr q rfl
  have eqCase : ∀ {p r : PV}, see ph a = some p → see ph b = some r → eqOk p r = true → ∃ as bs, Reads s.heap v (toD p) as ∧ Reads s.heap u (toD r) bs ∧ (toD p).plain = true ∧ (toD r).plain = true ∧ X.A.units + min (toD p).depth (toD r).depth < cLine ∧ PyData.eqv (toD p) (toD r) = p.eqv r := fun {p r} e1 e2 h => by
    simp only [eqOk, Bool.and_eq_true, Bool.or_eq_true, decide_eq_true_eq] at h
    obtain ⟨as, q1⟩ := Dp.reads I _ x v (see_dp hr ra e1 h.1.1) rx
    obtain ⟨bs, q2⟩ := Dp.reads I _ y u (see_dp hr rb e2 h.1.2) ry
    refine ⟨as, bs, q1, q2, toD_plain _ h.1.1, toD_plain _ h.1.2, ?_, toD_eqv _ _ h.1.1 h.1.2⟩
    rw [toD_depth, toD_depth]
    have z1 := Nat.min_le_left p.depth r.depth
    have z2 := Nat.min_le_right p.depth r.depth
    rcases h.2 with h2 | h2 <;> omega
  have ltCase : ∀ {p r : PV}, see ph a = some p → see ph b = some r → ltOk p r = true → ∃ as bs, Reads s.heap v (toD p) as ∧ Reads s.heap u (toD r) bs ∧ W.alike (toD p) (toD r) = true ∧ toD p ≠ .none ∧ X.A.units + min (toD p).depth (toD r).depth < cLine ∧ W.dataLt (toD p) (toD r) = p.lt r ∧ W.dataLt (toD r) (toD p) = r.lt p := fun {p r} e1 e2 h => by
    simp only [ltOk, Bool.and_eq_true, Bool.or_eq_true, decide_eq_true_eq, Bool.not_eq_true'] at h
    obtain ⟨⟨⟨⟨h1, h2⟩, h3⟩, h4⟩, h5⟩ := h
    obtain ⟨as, q1⟩ := Dp.reads I _ x v (see_dp hr ra e1 h1) rx
    obtain ⟨bs, q2⟩ := Dp.reads I _ y u (see_dp hr rb e2 h2) ry
    refine ⟨as, bs, q1, q2, toD_like _ _ h3, ?_, ?_, toD_lt _ _ h1 h2 h3, ?_⟩
    · cases p <;> first | (intro z; cases z; done) | (cases h4; done) | cases h1
    · rw [toD_depth, toD_depth]
      have z1 := Nat.min_le_left p.depth r.depth
      have z2 := Nat.min_le_right p.depth r.depth
      rcases h5 with h5 | h5 <;> omega
    · have h3' : r.like p = true := like_comm _ _ h3
      exact toD_lt _ _ h2 h1 h3'
  cases op
  case isN =>
    simp only [cmpop] at q
    split at q
    · obtain rfl := rb.non_
      exact op_isN pins s σ H _ _ v u Q I rx ry ⟨rfl, by rw [isNon_iff ra]; exact PostG.ok q hr (.bl _)⟩
    · exact q.elim
  case notN =>
    simp only [cmpop] at q
    split at q
    · obtain rfl := rb.non_
      exact op_notN pins s σ H _ _ v u Q I rx ry ⟨rfl, by rw [isNon_iff ra]; exact PostG.ok q hr (.bl _)⟩
    · exact q.elim
  case inn =>
    simp only [cmpop] at q
    cases e : isIn a b ph with
    | none => rw [e] at q; exact q.elim
    | some k =>
      rw [e] at q
      exact (in_ok hu I rx ry hr ra rb e).1 fun s' I' => fin I' q rfl
  case nin =>
    simp only [cmpop] at q
    cases e : isIn a b ph with
    | none => rw [e] at q; exact q.elim
    | some k =>
      rw [e] at q
      exact (in_ok hu I rx ry hr ra rb e).2 fun s' I' => fin I' q rfl
  case eq =>
    simp only [cmpop] at q
    split at q
    · rename_i p r e1 e2
      split at q
      · rename_i h
        obtain ⟨as, bs, q1, q2, h1, h2, h3, h4⟩ := eqCase e1 e2 h
        exact SeqAt.eq_plain q1 q2 h1 h2 h3 (by rw [h4]; exact fin I q rfl)
      · cases eo : eqPart p r with
        | none => rw [eo] at q; exact q.elim
        | some k =>
          obtain ⟨xs, ys, rfl, rfl, hz, ek⟩ := eqPart_ok eo
          have ea := see_tup hr ra e1
          have eb := see_tup hr rb e2
          subst ea
          subst eb
          obtain ⟨a1, vs1, rfl, g1, r1⟩ := ra.tup_
          obtain ⟨a2, vs2, rfl, g2, r2⟩ := rb.tup_
          cases rx
          cases ry
          obtain ⟨it1, v1, t1, _⟩ := I.tuple (SqT.of (K := X.K) g1)
          obtain ⟨it2, v2, t2, _⟩ := I.tuple (SqT.of (K := X.K) g2)
          have l1 : xs.length = it1.length := r1.len.trans v1.length
          have l2 : ys.length = it2.length := r2.len.trans v2.length
          refine SeqAt.eq_tupleAt (e := fun j => (xs.getD j .non).eqv (ys.getD j .non)) t1 t2 (by omega) (fun j h1 h2 => ?_) ?_
          · have j1 : j < xs.length := by rw [l1]; simpa using h1
            have j2 : j < ys.length := by rw [l2]; simpa using h2
            obtain ⟨z1, ez1, rz1⟩ := r1.get (List.getElem?_eq_getElem j1)
            obtain ⟨z2, ez2, rz2⟩ := r2.get (List.getElem?_eq_getElem j2)
            have k1 : RelV z1 it1.toArray[j] := by
              obtain ⟨u, eu, ru⟩ := vals_get v1 ez1
              have : it1[j]? = some it1.toArray[j] := by simp
              rw [this] at eu; cases eu; exact ru
            have k2 : RelV z2 it2.toArray[j] := by
              obtain ⟨u, eu, ru⟩ := vals_get v2 ez2
              have : it2[j]? = some it2.toArray[j] := by simp
              rw [this] at eu; cases eu; exact ru
            have ok : eqOk xs[j] ys[j] = true := by
              refine List.all_eq_true.mp hz (xs[j], ys[j]) ?_
              refine List.mem_of_getElem? (i := j) ?_
              rw [List.getElem?_zip_eq_some]
              exact ⟨List.getElem?_eq_getElem j1, List.getElem?_eq_getElem j2⟩
            have gx : xs.getD j .non = xs[j] := by simp [List.getD, j1]
            have gy : ys.getD j .non = ys[j] := by simp [List.getD, j2]
            show SeqAt.EqAt _ _ _ _ ((xs.getD j .non).eqv (ys.getD j .non))
            rw [gx, gy]
            simp only [eqOk, Bool.and_eq_true, Bool.or_eq_true, decide_eq_true_eq] at ok
            obtain ⟨as, q1⟩ := Dp.reads I _ _ _ (rz1.dp ok.1.1) k1
            obtain ⟨bs, q2⟩ := Dp.reads I _ _ _ (rz2.dp ok.1.2) k2
            have key := SeqAt.eqAt_plain (toD xs[j]) (toD ys[j]) X.A.in1 s _ _ as bs q1 q2 (toD_plain _ ok.1.1) (toD_plain _ ok.1.2) (by
              rw [toD_depth, toD_depth]
              have z1 := Nat.min_le_left xs[j].depth ys[j].depth
              have z2 := Nat.min_le_right xs[j].depth ys[j].depth
              show X.A.units + 1 + _ < _
              rcases ok.2 with h2 | h2 <;> omega)
            rw [toD_eqv _ _ ok.1.1 ok.1.2] at key
            exact key
          · rw [show it1.toArray.size = xs.length by simp [l1], show it2.toArray.size = ys.length by simp [l2], eqvL_range, ek]
            rw [eo] at q
            exact fin I q rfl
    · exact q.elim
  case ne =>
    simp only [cmpop] at q
    split at q
    · rename_i p r e1 e2
      split at q
      · rename_i h
        obtain ⟨as, bs, q1, q2, h1, h2, h3, h4⟩ := eqCase e1 e2 h
        exact SeqAt.ne_plain q1 q2 h1 h2 h3 (by rw [h4]; exact fin I q rfl)
      · exact q.elim
    · exact q.elim
  case lt =>
    simp only [cmpop] at q
    split at q
    · rename_i p r e1 e2
      split at q
      · rename_i h
        obtain ⟨as, bs, q1, q2, h1, h2, h3, h4, h5⟩ := ltCase e1 e2 h
        exact W.lt_data q1 q2 h1 h2 h3 (by rw [h4]; exact fin I q rfl)
      · exact q.elim
    · exact q.elim
  case gt =>
    simp only [cmpop] at q
    split at q
    · rename_i p r e1 e2
      split at q
      · rename_i h
        obtain ⟨as, bs, q1, q2, h1, h2, h3, h4, h5⟩ := ltCase e1 e2 h
        exact W.gt_data q1 q2 h1 h2 h3 (by rw [h5]; exact fin I q rfl)
      · exact q.elim
    · exact q.elim
  case le =>
    simp only [cmpop] at q
    split at q
    · rename_i p r e1 e2
      split at q
      · rename_i h
        obtain ⟨as, bs, q1, q2, h1, h2, h3, h4, h5⟩ := ltCase e1 e2 h
        exact W.le_data q1 q2 h1 h2 h3 (by rw [h5]; exact fin I q rfl)
      · exact q.elim
    · exact q.elim
  case ge =>
    simp only [cmpop] at q
    split at q
    · rename_i p r e1 e2
      split at q
      · rename_i h
        obtain ⟨as, bs, q1, q2, h1, h2, h3, h4, h5⟩ := ltCase e1 e2 h
        exact W.ge_data q1 q2 h1 h2 h3 (by rw [h4]; exact fin I q rfl)
      · exact q.elim
    · exact q.elim
end
end Ev
end
section
set_option maxRecDepth 100000
/-! EvF: subscripts, slices. -/
namespace Ev
open PySem PySem.Spec PyProof.Rows L2

theorem ixN_same : Ev.ixN = L2.ixN := rfl
section
variable {X : Cx} {E : XK}
theorem ix_any (hu : X.A.units + 64 < cLine) : IxR X (r2 X.prog X.w X.K E ixop) := by
  intro value slice pins s σ H x y v u Q I rx ry ⟨Z, mm, ph, a, b, hr, ra, rb, q⟩ hs
  have seqI : ∀ {xs : List PV} {vs : List V} {p : Addr} {k : Int} {z : PV}, x = .ref p → Rps X.prog X.w X.K Z H mm xs vs → y = .int k → (Ev.ixN xs.length k).bind (xs[·]?) = some z → PostE X.prog X.w X.K Z E H mm Q (.ok z ph) →
      ∃ o, atI vs k = some o ∧ Q o H := fun {xs vs p k z} ex rs ey e q => by
    cases e1 : Ev.ixN xs.length k with
    | none => rw [e1] at e; cases e
    | some j =>
      rw [e1] at e
      obtain ⟨o, h1, h2⟩ := rs.get (i := j) e
      refine ⟨o, ?_, q.ok hr h2⟩
      unfold atI
      rw [← rs.len, ← ixN_same, e1]
      exact h1
  have dictI : ∀ {p : Addr} {o : Option V} {z : PV}, v = .ref p → DAt X H s p y o → RpO X.prog X.w X.K Z H mm (some z) o → PostE X.prog X.w X.K Z E H mm Q (.ok z ph) → wpAny (model X.prog X.w) X.A (subscriptTail value slice v u) (EP X pins σ Q) X.xe s := fun {p o z} ev g ro q => by
    obtain ⟨z', rfl, rz⟩ := ro.some_
    subst ev
    have ht : s.TypeIs (.ref p) "dict" := by
      cases g with
      | tr g => exact dict_typeIs I g
      | kd _ _ _ dd _ => exact dd.typeIs
    exact tail_any ht slot_dict_getitem.lookup (a_item (by omega) I g ry fun w' s' I' rw' => ⟨z', H, I', rw', q.ok hr rz⟩) hs
  unfold ixop at q
  split at q
  · rename_i xs es
    obtain ⟨p, vs, ep, h1, rs⟩ := see_lst hr ra es
    split at q
    · rename_i k
      split at q
      · rename_i z ez
        have ey := rb.int_
        obtain ⟨o, h2, h3⟩ := seqI ep rs ey ez q
        exact ix_list value slice pins s σ H x y v u Q I rx ry ⟨p, vs, k, o, ep, ey, .inl (.inl h1), h2, h3⟩ hs
      · exact q.elim
    · exact q.elim
  · rename_i xs es
    have := see_fls hr ra es
    subst this
    obtain ⟨p, vs, ep, h1, rs⟩ := ra.fls_
    split at q
    · rename_i k
      split at q
      · rename_i z ez
        have ey := rb.int_
        obtain ⟨o, h2, h3⟩ := seqI ep rs ey ez q
        exact ix_list value slice pins s σ H x y v u Q I rx ry ⟨p, vs, k, o, ep, ey, h1, h2, h3⟩ hs
      · exact q.elim
    · exact q.elim
  · rename_i xs es
    have := see_tup hr ra es
    subst this
    obtain ⟨p, vs, ep, h1, rs⟩ := ra.tup_
    split at q
    · rename_i k
      split at q
      · rename_i z ez
        have ey := rb.int_
        obtain ⟨o, h2, h3⟩ := seqI ep rs ey ez q
        exact ix_tup value slice pins s σ H x y v u Q I rx ry ⟨p, vs, k, o, ep, ey, .inl (.inl h1), h2, h3⟩ hs
      · exact q.elim
    · exact q.elim
  · rename_i xs es
    have := see_ftp hr ra es
    subst this
    obtain ⟨p, vs, ep, h1, rs⟩ := ra.ftp_
    split at q
    · rename_i k
      split at q
      · rename_i z ez
        have ey := rb.int_
        obtain ⟨o, h2, h3⟩ := seqI ep rs ey ez q
        exact ix_tup value slice pins s σ H x y v u Q I rx ry ⟨p, vs, k, o, ep, ey, h1, h2, h3⟩ hs
      · exact q.elim
    · exact q.elim
  · rename_i es0 es
    split at q
    · rename_i hk
      split at q
      · rename_i z ez
        obtain ⟨p, o, rfl, g, ro⟩ := dat_fdc I hr ra es rb hk
        rw [ez] at ro
        exact dictI rx g ro q
      · exact q.elim
    · exact q.elim
  · rename_i xs es
    have := see_str hr ra es
    subst this
    have ex := ra.str_
    split at q
    · rename_i k
      split at q
      · rename_i c ec
        split at q
        · rename_i hz
          have ey := rb.int_
          refine ix_str value slice pins s σ H x y v u Q I rx ry ⟨sT xs, k, c, ex, ey, by rw [sT_len]; exact hz, ?_, ?_⟩ hs
          · rw [sT_cps]; unfold atI; rw [← ixN_same]; exact ec
          · exact q.ok hr (.str [c])
        · exact q.elim
      · exact q.elim
    · exact q.elim
  · rename_i tk es0 es
    split at q
    · rename_i hk
      split at q
      · rename_i z ez
        obtain ⟨p, o, rfl, g, ro⟩ := dat_dct (s := s) hr ra es rb hk
        rw [ez] at ro
        exact dictI rx g ro q
      · exact q.elim
    · exact q.elim
  · exact q.elim

/-! ### slices -/
def partO : PV → Option Int
  | .int i => some i
  | _ => none
theorem sIx_same {n d : Nat} {v : PV} (h : isPart v = true) : Ev.sIx n d v = some (HT.sIx n d (partO v)) := by
  cases v <;> first | rfl | cases h
/-- a part's reading -/
def rdP (P : Program) (w : World) (K : PySem.W.Frag) (G : Ctx) (E : XK) (c : CE) : TO := fun σ H Q => ∃ Z ρ ph mm, SRp P w K Z H mm ρ σ ∧ HRp P w K Z H mm ph ∧ PostG P w K Z (fun _ _ v o => isPart v = true ∧ o = partO v) E H mm Q (evE G c ρ ph)
theorem po_nil {G : Ctx} : L2.PO X none (rdP X.prog X.w X.K G E (.cst .non)) := by
  refine ⟨fun pins s σ H Q I ⟨Z, ρ, ph, mm, hs, hr, q⟩ => ?_⟩
  rw [evalPart_none]
  exact wpAny_pure ⟨none, H, I, .none, PostG.ok q hr ⟨rfl, rfl⟩⟩
theorem PostG.part {P : Program} {w : World} {K : PySem.W.Frag} {Z : Addr → Prop} {H : Hp} {mm : List Addr} {Q : Option Int → Hp → Prop} {r : R PV} (h : PostG P w K Z (fun _ _ v o => isPart v = true ∧ o = partO v) E H mm Q r)
    (hk : ∀ v ph, r = .ok v ph → isPart v = true) : PostE P w K Z E H mm (fun x H' => ∃ o, Q o H' ∧ ((x = .non ∧ o = none) ∨ ∃ i, x = .int i ∧ o = some i)) r := by
  cases r with
  | ok v ph =>
    intro x H' mm' e h1 h2
    have hp := hk v ph rfl
    refine ⟨partO v, h _ H' mm' e h1 ⟨hp, rfl⟩, ?_⟩
    cases v with
    | non => exact .inl ⟨h2.non_, rfl⟩
    | int i => exact .inr ⟨i, h2.int_, rfl⟩
    | _ => cases hp
  | exc c u ph => exact h
  | stk => exact h
theorem po_e {G : Ctx} {e : Expr} {c : CE} (he : PE X e (rdE X.prog X.w X.K G E c)) : L2.PO X (some e) (fun σ H Q => ∃ Z ρ ph mm, SRp X.prog X.w X.K Z H mm ρ σ ∧ HRp X.prog X.w X.K Z H mm ph ∧ PostG X.prog X.w X.K Z (fun _ _ v o => isPart v = true ∧ o = partO v) E H mm Q (evE G c ρ ph) ∧ ∀ v ph', evE G c ρ ph = .ok v ph' → isPart v = true) := by
  refine ⟨fun pins s σ H Q I ⟨Z, ρ, ph, mm, hs, hr, q, hk⟩ => ?_⟩
  rw [evalPart_some]
  refine thn (he.run pins s σ H _ I ⟨Z, ρ, ph, mm, hs, hr, q.part hk⟩) fun u s1 ⟨x, H1, I1, r1, o, q1, ho⟩ => ?_
  rcases ho with ⟨rfl, rfl⟩ | ⟨i, rfl, rfl⟩
  · cases r1
    exact ⟨none, H1, I1, .none, q1⟩
  · obtain ⟨t, rfl⟩ := r1
    exact ⟨some i, H1, I1, .int i t, q1⟩
theorem sl_any (mu : Bool) : SlR X (fun x lo hi H Q => ∃ Z mm ph a l u, HRp X.prog X.w X.K Z H mm ph ∧ Rp X.prog X.w X.K Z H mm a x ∧ isPart l = true ∧ lo = partO l ∧ hi = partO u ∧ isPart u = true ∧ PostE X.prog X.w X.K Z E H mm Q (slcop mu a l u ph)) := by
  intro pins s σ H x v vl vu lo hi sl Q I rx hs pl pu ⟨Z, mm, ph, a, l, u, hr, ra, h1, h2, h3, h4, q⟩
  subst h2 h3
  unfold slcop at q
  have cutE : ∀ {xs : List PV} {vs : List V}, Rps X.prog X.w X.K Z H mm xs vs → Rps X.prog X.w X.K Z H mm (Ev.cut xs (HT.sIx xs.length 0 (partO l)) (HT.sIx xs.length xs.length (partO u))) (cutV vs (partO l) (partO u)) := fun {xs vs} rs => by
    unfold cutV Ev.cut
    rw [← rs.len]
    exact (rs.drop _).take _
  split at q
  · rename_i xs es
    rw [sIx_same h1, sIx_same h4] at q
    obtain ⟨p, vs, rfl, hp, rs⟩ := see_lst hr ra es
    exact sl_list pins s σ H _ v vl vu _ _ sl Q I rx hs pl pu ⟨p, vs, rfl, .inl (.inl hp), fun p' hp' => new_lst q hr (cutE rs) hp'⟩
  · rename_i xs es
    rw [sIx_same h1, sIx_same h4] at q
    have := see_tup hr ra es
    subst this
    obtain ⟨p, vs, rfl, hp, rs⟩ := ra.tup_
    refine sl_tupA pins s σ H _ v vl vu _ _ sl Q I rx hs pl pu ⟨p, vs, rfl, .inl (.inl hp), fun ⟨e1, e2⟩ => ?_, fun _ p' hp' => new_tup q hr (cutE rs) hp'⟩
    have e : Ev.cut xs (HT.sIx xs.length 0 (partO l)) (HT.sIx xs.length xs.length (partO u)) = xs := by
      rw [← rs.len] at e1 e2
      rw [e1, e2]
      unfold Ev.cut
      simp
    dsimp only at q
    rw [e] at q
    exact q.ok hr ra
  · rename_i xs es
    rw [sIx_same h1, sIx_same h4] at q
    have := see_str hr ra es
    subst this
    obtain rfl := ra.str_
    dsimp only at q
    split at q
    · rename_i hz
      refine sl_str pins s σ H _ v vl vu _ _ sl Q I rx hs pl pu ⟨sT xs, rfl, by rw [sT_len]; exact hz, ?_⟩
      have e : cutS (sT xs) (partO l) (partO u) = sT (Ev.cut xs (HT.sIx xs.length 0 (partO l)) (HT.sIx xs.length xs.length (partO u))) := by
        unfold cutS Ev.cut sT
        simp [Str.length]
      rw [e]
      exact q.ok hr (.str _)
    · exact q.elim
  · exact q.elim
end
end Ev
end
section
set_option maxRecDepth 100000
/-! EvG: the nodes of expressions. -/
namespace Ev
open PySem PySem.Spec PyProof.Rows L2

/-- what every context of ours has -/
structure Bx (X : Cx) : Prop where
  calm : X.calm = true
  nd : X.N.Nodup
  un : X.A.units + 200 < cLine
  gd : X.A.guards = some []
theorem Bx.hu {X : Cx} (b : Bx X) : X.A.units + 64 < cLine := by have := b.un; omega

abbrev RE (X : Cx) (G : Ctx) (E : XK) (c : CE) : TE := rdE X.prog X.w X.K G E c
abbrev RT (X : Cx) (G : Ctx) (E : XK) (c : CE) : TT := rdT X.prog X.w X.K G E c
abbrev RL (X : Cx) (G : Ctx) (E : XK) (c : CEs) : TA := rdL X.prog X.w X.K G E c

section
variable {P : Program} {w : World} {K : PySem.W.Frag} {Z : Addr → Prop} {E : XK} {H : Hp} {mm : List Addr} {ph : PH}
/-- a test's wish as a value's -/
theorem postB_val {Q : Bool → Hp → Prop} {r : R PV} (q : PostB P w K Z E H mm Q r) : PostE P w K Z E H mm (fun x H1 => ∃ b, x = .bl b ∧ Q b H1) r := by
  cases r with
  | ok v h =>
    cases v with
    | bl b => exact fun x H' mm' e h1 h2 => ⟨b, h2.bl_, q b H' mm' e h1 rfl⟩
    | _ => exact q.elim
  | exc c u h => exact q
  | stk => exact q
/-- a value's wish as a test's -/
theorem postE_test {Q : VK} {r : R PV} {f : Bool → PH → R PV} (q : PostE P w K Z E H mm Q (r.test f)) :
    PostB P w K Z E H mm (fun b H' => ∃ ph mm', Ext H mm H' mm' ∧ HRp P w K Z H' mm' ph ∧ PostE P w K Z E H' mm' Q (f b ph)) r := by
  have q' : PostE P w K Z E H mm Q (r.toB.bind f) := q
  exact (PostG.bind (RelA := fun _ _ v b => v = b) q').mono fun b H1 ⟨v, p1, m1, e1, h1, r1, q1⟩ => ⟨p1, m1, e1, h1, r1 ▸ q1⟩
theorem postB_test {Q : Bool → Hp → Prop} {r : R PV} {f : Bool → PH → R PV} (q : PostB P w K Z E H mm Q (r.test f)) :
    PostB P w K Z E H mm (fun b H' => ∃ ph mm', Ext H mm H' mm' ∧ HRp P w K Z H' mm' ph ∧ PostB P w K Z E H' mm' Q (f b ph)) r := by
  have e : (r.test f).toB = r.toB.bind fun b h => (f b h).toB := by
    cases r with
    | ok v h => cases v <;> rfl
    | exc c u h => rfl
    | stk => rfl
  unfold PostB at q
  rw [e] at q
  exact (PostG.bind (RelA := fun _ _ v b => v = b) q).mono fun b H1 ⟨v, p1, m1, e1, h1, r1, q1⟩ => ⟨p1, m1, e1, h1, r1 ▸ q1⟩
end

section
variable {X : Cx} {G : Ctx} {E : XK} {a b c : Expr} {ca cb cc : CE} {pos : Pos} {es : List Expr} {cs : CEs}
theorem rd_var {i : Nat} {x : Str} (hN : X.N[i]? = some x) (hv : Vis X.env.scope x) (hd : (x == ("__debug__" : Str)) = false) (hcd : (x == ("__classdict__" : Str)) = false) : PE X (.Name x pos) (RE X G E (.var i)) :=
  PE.imp (pe_var hN hv hd hcd) fun σ H Q ⟨Z, ρ, ph, mm, s, h, q⟩ => by
    unfold evE at q
    split at q
    · rename_i v e
      obtain ⟨x, e1, r1⟩ := s.2 i v e
      exact ⟨x, e1, q.ok h r1⟩
    · exact q.elim
/-- a constant that stands anywhere -/
def Anyw (X : Cx) (v : PV) (x : V) : Prop := ∀ Z H mm, Rp X.prog X.w X.K Z H mm v x
theorem rd_tC {v : PV} {x : V} (h : Anyw X v x) : ∀ σ H Q, RE X G E (.cst v) σ H Q → tC x σ H Q := fun σ H Q ⟨Z, ρ, ph, mm, s, hr, q⟩ => q.ok hr (h Z H mm)
theorem rd_int {i : Int} {j} : PE X (.Constant (.int i) j pos) (RE X G E (.cst (.int i))) := PE.imp pe_int (rd_tC fun _ _ _ => .int i)
theorem rd_bl {i : Bool} {j} : PE X (.Constant (.bool i) j pos) (RE X G E (.cst (.bl i))) := PE.imp pe_bl (rd_tC fun _ _ _ => .bl i)
theorem rd_non {j} : PE X (.Constant .none j pos) (RE X G E (.cst .non)) := PE.imp pe_non (rd_tC fun _ _ _ => .non)
theorem rd_str {x : Str} {j} : PE X (.Constant (.str x) j pos) (RE X G E (.cst (.str x.cps.toList))) := PE.imp pe_str (rd_tC fun _ _ _ => by
  have : sT x.cps.toList = x := by simp [sT]
  have h := Rp.str (P := X.prog) (w := X.w) (K := X.K) (Z := ‹Addr → Prop›) (H := ‹Hp›) (mm := ‹List Addr›) x.cps.toList
  rw [this] at h
  exact h)
theorem rd_glb {i : Nat} {x : Str} {v : PV} {u : Value} {y : V} (hg : Gl X x) (hm : X.mg x = some u) (r : RelV y u) (hd : (x == ("__debug__" : Str)) = false) (e : G.glbs[i]? = some v) (h : Anyw X v y) : PE X (.Name x pos) (RE X G E (.glb i)) :=
  PE.imp (pe_glob hg hm r hd) fun σ H Q ⟨Z, ρ, ph, mm, s, hr, q⟩ => by
    unfold evE at q
    rw [e] at q
    exact q.ok hr (h Z H mm)
theorem rd_bin {op : Op} {mu : Bool} (ha : PE X a (RE X G E ca)) (hb : PE X b (RE X G E cb)) : PE X (.BinOp a (opX op) b pos) (RE X G E (.bin op mu ca cb)) :=
  PE.imp (pe_op (op_bin op mu) ha hb) fun σ H Q ⟨Z, ρ, ph, mm, s, h, q⟩ => by
    unfold evE at q
    exact ⟨Z, ρ, ph, mm, s, h, (PostG.bind q).mono fun x H1 ⟨v, p1, m1, e1, h1, r1, q1⟩ => ⟨Z, ρ, p1, m1, s.wk e1.wk, h1, (PostG.bind q1).mono fun y H2 ⟨u, p2, m2, e2, h2, r2, q2⟩ => ⟨Z, m2, p2, v, u, h2, r1.wk e2.wk, r2, q2⟩⟩⟩
theorem rd_ix (B : Bx X) (hs : PlainIx b) (ha : PE X a (RE X G E ca)) (hb : PE X b (RE X G E cb)) : PE X (.Subscript a b pos) (RE X G E (.ix ca cb)) :=
  PE.imp (pe_ix (ix_any B.hu) ha hb hs) fun σ H Q ⟨Z, ρ, ph, mm, s, h, q⟩ => by
    unfold evE at q
    exact ⟨Z, ρ, ph, mm, s, h, (PostG.bind q).mono fun x H1 ⟨v, p1, m1, e1, h1, r1, q1⟩ => ⟨Z, ρ, p1, m1, s.wk e1.wk, h1, (PostG.bind q1).mono fun y H2 ⟨u, p2, m2, e2, h2, r2, q2⟩ => ⟨Z, m2, p2, v, u, h2, r1.wk e2.wk, r2, q2⟩⟩⟩
theorem rd_neg (ha : PE X a (RE X G E ca)) : PE X (.UnaryOp .USub a pos) (RE X G E (.neg ca)) :=
  PE.imp (pe_un un_neg ha) fun σ H Q ⟨Z, ρ, ph, mm, s, h, q⟩ => by
    unfold evE at q
    refine ⟨Z, ρ, ph, mm, s, h, (PostG.bind q).mono fun x H1 ⟨v, p1, m1, e1, h1, r1, q1⟩ => ?_⟩
    split at q1
    · exact ⟨_, r1.int_, q1.ok h1 (.int _)⟩
    · exact q1.elim
/-- a slice: the parts are written or left out -/
inductive PartR (X : Cx) (G : Ctx) (E : XK) : Option Expr → CE → Prop
  | no : PartR X G E none (.cst .non)
  | yes {e : Expr} {c : CE} : PE X e (RE X G E c) → PartR X G E (some e) c
theorem part_po {lo : Option Expr} {cl : CE} (h : PartR X G E lo cl) : L2.PO X lo (fun σ H Q => ∃ Z ρ ph mm, SRp X.prog X.w X.K Z H mm ρ σ ∧ HRp X.prog X.w X.K Z H mm ph ∧ PostG X.prog X.w X.K Z (fun _ _ v o => isPart v = true ∧ o = partO v) E H mm Q (evE G cl ρ ph) ∧ ∀ v ph', evE G cl ρ ph = .ok v ph' → isPart v = true) := by
  cases h with
  | no => exact ⟨fun pins s σ H Q I ⟨Z, ρ, ph, mm, hs, hr, q, _⟩ => po_nil.run pins s σ H Q I ⟨Z, ρ, ph, mm, hs, hr, q⟩⟩
  | yes he => exact po_e he
theorem post_part {P : Program} {w : World} {K : PySem.W.Frag} {Z : Addr → Prop} {H : Hp} {mm : List Addr} {Q : VK} {r : R PV} {f : PV → PH → R PV} (q : PostE P w K Z E H mm Q (r.bind fun v h => if isPart v then f v h else .stk)) :
    PostG P w K Z (fun _ _ v o => isPart v = true ∧ o = partO v) E H mm (fun o H' => ∃ v ph mm', Ext H mm H' mm' ∧ HRp P w K Z H' mm' ph ∧ isPart v = true ∧ o = partO v ∧ PostE P w K Z E H' mm' Q (f v ph)) r ∧ ∀ v ph', r = .ok v ph' → isPart v = true := by
  cases r with
  | ok v h =>
    have q' : PostE P w K Z E H mm Q (if isPart v then f v h else .stk) := q
    cases hp : isPart v with
    | true =>
      rw [hp, if_pos rfl] at q'
      exact ⟨fun o H' mm' e h1 h2 => ⟨v, h, mm', e, h1, h2.1, h2.2, q'.ext e⟩, fun v' ph' e => by cases e; exact hp⟩
    | false => rw [hp, if_neg Bool.false_ne_true] at q'; exact q'.elim
  | exc c u h => exact ⟨q, fun v ph' e => by cases e⟩
  | stk => exact q.elim
theorem post_partE {P : Program} {w : World} {K : PySem.W.Frag} {Z : Addr → Prop} {H : Hp} {mm : List Addr} {Q : VK} {r : R PV} {f : PV → PH → R PV} (hf : ∀ v h, isPart v = false → f v h = .stk) (q : PostE P w K Z E H mm Q (r.bind f)) :
    PostE P w K Z E H mm Q (r.bind fun v h => if isPart v then f v h else .stk) := by
  cases r with
  | ok v h =>
    have q' : PostE P w K Z E H mm Q (f v h) := q
    show PostE P w K Z E H mm Q (if isPart v then f v h else .stk)
    cases hp : isPart v with
    | true => rw [if_pos rfl]; exact q'
    | false => rw [hf v h hp] at q'; exact q'.elim
  | exc c u h => exact q
  | stk => exact q
theorem slcop_part {mu : Bool} {x y z : PV} {h : PH} (hz : isPart z = false) : slcop mu x y z h = .stk := by
  have e : ∀ n d, Ev.sIx n d z = none := fun n d => by cases z <;> first | rfl | cases hz
  unfold slcop
  split
  · rw [e]; split <;> first | rfl | (rename_i h1; cases h1)
  · rw [e]; split <;> first | rfl | (rename_i h1; cases h1)
  · rw [e]; split <;> first | rfl | (rename_i h1; cases h1)
  · rfl
theorem rd_slc {mu : Bool} {lo hi : Option Expr} {cl ch : CE} {p2 : Pos} (ha : PE X a (RE X G E ca)) (hl : PartR X G E lo cl) (hh : PartR X G E hi ch) : PE X (.Subscript a (.Slice lo hi none p2) pos) (RE X G E (.slc mu ca cl ch)) :=
  PE.imp (pe_slice (sl_any mu) ha (part_po hl) (part_po hh)) fun σ H Q ⟨Z, ρ, ph, mm, s, h, q⟩ => by
    unfold evE at q
    refine ⟨Z, ρ, ph, mm, s, h, (PostG.bind q).mono fun x H1 ⟨v, p1, m1, e1, h1, r1, q1⟩ => ?_⟩
    obtain ⟨q1, k1⟩ := post_part q1
    refine ⟨Z, ρ, p1, m1, s.wk e1.wk, h1, q1.mono fun o H2 ⟨u, p2, m2, e2, h2, i2, o2, q2⟩ => ?_, k1⟩
    obtain ⟨q3, k3⟩ := post_part (post_partE (fun z h hz => slcop_part hz) q2)
    refine ⟨Z, ρ, p2, m2, (s.wk e1.wk).wk e2.wk, h2, q3.mono fun o' H3 ⟨u', p3, m3, e3, h3, i3, o3, q4⟩ => ?_, k3⟩
    exact ⟨Z, m3, p3, v, u, u', h3, (r1.wk e2.wk).wk e3.wk, i2, o2, o3, i3, q4⟩

/-! ### tests -/
theorem rt_val (h : PE X a (RE X G E ca)) (he : ∀ whole, isTrue a X.env whole = (do let v ← whole; standAt a.pos; holding [v] (truthy v))) : PT X a (RT X G E ca) :=
  PT.imp (pt_val h he) fun σ H Q ⟨Z, ρ, ph, mm, s, h, q⟩ => ⟨Z, ρ, ph, mm, s, h, postB_val q⟩
theorem cmp_post {Z : Addr → Prop} {H : Hp} {mm : List Addr} {ρ : Env} {ph : PH} {σ : L2.St} {Q : VK} {op : Cm} (s : SRp X.prog X.w X.K Z H mm ρ σ) (h : HRp X.prog X.w X.K Z H mm ph) (q : PostE X.prog X.w X.K Z E H mm Q (evE G (.cmp op ca cb) ρ ph)) :
    tOp (r2 X.prog X.w X.K E fun x y h => ofB (cmpop op x y h) h) (RE X G E ca) (RE X G E cb) σ H Q := by
  unfold evE at q
  exact ⟨Z, ρ, ph, mm, s, h, (PostG.bind q).mono fun x H1 ⟨v, p1, m1, e1, h1, r1, q1⟩ => ⟨Z, ρ, p1, m1, s.wk e1.wk, h1, (PostG.bind q1).mono fun y H2 ⟨u, p2, m2, e2, h2, r2, q2⟩ => ⟨Z, m2, p2, v, u, h2, r1.wk e2.wk, r2, q2⟩⟩⟩
theorem rd_pc (B : Bx X) {op : Cm} (ha : PE X a (RE X G E ca)) (hb : PE X b (RE X G E cb)) : PC X (cmpX op) a b (RE X G E (.cmp op ca cb)) :=
  ⟨fun pins s σ H Q I ⟨Z, ρ, ph, mm, hs, h, q⟩ => binT ha hb I (cmp_post hs h q) fun v u s2 x y H2 I2 rx ry q => op_cmp B.hu op pins s2 σ H2 x y v u Q I2 rx ry q⟩
theorem rd_cmp (B : Bx X) {op : Cm} (hm : behindInMarks (cmpX op) b = false) (ha : PE X a (RE X G E ca)) (hb : PE X b (RE X G E cb)) : PE X (.Compare a [cmpX op] [b] pos) (RE X G E (.cmp op ca cb)) := pe_cmp (rd_pc B ha hb) hm
theorem rt_cmp (B : Bx X) {op : Cm} (hm : behindInMarks (cmpX op) b = false) (ha : PE X a (RE X G E ca)) (hb : PE X b (RE X G E cb)) : PT X (.Compare a [cmpX op] [b] pos) (RT X G E (.cmp op ca cb)) :=
  PT.imp (pt_cmp (rd_pc B ha hb) hm) fun σ H Q ⟨Z, ρ, ph, mm, s, h, q⟩ => ⟨Z, ρ, ph, mm, s, h, postB_val q⟩
theorem rt_not (ha : PT X a (RT X G E ca)) : PT X (.UnaryOp .Not a pos) (RT X G E (.not ca)) :=
  PT.imp (pt_not ha) fun σ H Q ⟨Z, ρ, ph, mm, s, h, q⟩ => by
    unfold evE at q
    exact ⟨Z, ρ, ph, mm, s, h, (postB_test q).mono fun b H1 ⟨p1, m1, e1, h1, q1⟩ => q1.ok h1 rfl⟩
theorem rd_not (ha : PE X a (RE X G E ca)) : PE X (.UnaryOp .Not a pos) (RE X G E (.not ca)) :=
  PE.imp (pe_not ha) fun σ H Q ⟨Z, ρ, ph, mm, s, h, q⟩ => by
    unfold evE at q
    exact ⟨Z, ρ, ph, mm, s, h, (postB_val (postE_test q)).mono fun x H1 ⟨b, ex, p1, m1, e1, h1, q1⟩ => ⟨b, ex, q1.ok h1 (.bl _)⟩⟩
theorem rd_ite {c : Expr} (hc : PT X c (RT X G E cc)) (ha : PE X a (RE X G E ca)) (hb : PE X b (RE X G E cb)) : PE X (.IfExp c a b pos) (RE X G E (.ite cc ca cb)) :=
  PE.imp (pe_ifExp hc ha hb) fun σ H Q ⟨Z, ρ, ph, mm, s, h, q⟩ => by
    unfold evE at q
    refine ⟨Z, ρ, ph, mm, s, h, (postE_test q).mono fun t H1 ⟨p1, m1, e1, h1, q1⟩ => ?_⟩
    cases t with
    | true => exact ⟨Z, ρ, p1, m1, s.wk e1.wk, h1, q1⟩
    | false => exact ⟨Z, ρ, p1, m1, s.wk e1.wk, h1, q1⟩
variable {rest : List Expr}
/-- a value that is a truth value is what .test hands on -/
theorem post_testV {P : Program} {w : World} {K : PySem.W.Frag} {Z : Addr → Prop} {H : Hp} {mm : List Addr} {Q : VK} {r : R PV} (q : PostE P w K Z E H mm Q (r.test fun u h => .ok (.bl u) h)) : PostE P w K Z E H mm Q r := by
  cases r with
  | ok v h =>
    cases v with
    | bl b => exact q
    | _ => exact q.elim
  | exc c u h => exact q
  | stk => exact q
theorem post_testB {P : Program} {w : World} {K : PySem.W.Frag} {Z : Addr → Prop} {H : Hp} {mm : List Addr} {Q : Bool → Hp → Prop} {r : R PV} (q : PostB P w K Z E H mm Q (r.test fun u h => .ok (.bl u) h)) : PostB P w K Z E H mm Q r := by
  cases r with
  | ok v h =>
    cases v with
    | bl b => exact q
    | _ => exact q.elim
  | exc c u h => exact q
  | stk => exact q
theorem rw_and (ha : PT X a (RT X G E ca)) (hb : PW X (.BoolOp .And (b :: rest) pos) (RT X G E cb)) : PW X (.BoolOp .And (a :: b :: rest) pos) (RT X G E (.and ca cb)) :=
  ⟨fun wh pins s σ H Q I ⟨Z, ρ, ph, mm, hs, h, q⟩ => (pw_and ha hb).run wh pins s σ H Q I (by
    unfold evE at q
    refine ⟨Z, ρ, ph, mm, hs, h, (postB_test q).mono fun t H1 ⟨p1, m1, e1, h1, q1⟩ => ?_⟩
    cases t with
    | true => exact ⟨Z, ρ, p1, m1, hs.wk e1.wk, h1, post_testB q1⟩
    | false => exact q1.ok h1 rfl)⟩
theorem rw_or (ha : PT X a (RT X G E ca)) (hb : PW X (.BoolOp .Or (b :: rest) pos) (RT X G E cb)) : PW X (.BoolOp .Or (a :: b :: rest) pos) (RT X G E (.or ca cb)) :=
  ⟨fun wh pins s σ H Q I ⟨Z, ρ, ph, mm, hs, h, q⟩ => (pw_or ha hb).run wh pins s σ H Q I (by
    unfold evE at q
    refine ⟨Z, ρ, ph, mm, hs, h, (postB_test q).mono fun t H1 ⟨p1, m1, e1, h1, q1⟩ => ?_⟩
    cases t with
    | true => exact q1.ok h1 rfl
    | false => exact ⟨Z, ρ, p1, m1, hs.wk e1.wk, h1, post_testB q1⟩)⟩
theorem rd_and (ha : PE X a (RE X G E ca)) (hb : PE X (.BoolOp .And (b :: rest) pos) (RE X G E cb)) : PE X (.BoolOp .And (a :: b :: rest) pos) (RE X G E (.and ca cb)) :=
  PE.imp (pe_and ha hb) fun σ H Q ⟨Z, ρ, ph, mm, hs, h, q⟩ => by
    unfold evE at q
    refine ⟨Z, ρ, ph, mm, hs, h, (postB_val (postE_test q)).mono fun x H1 ⟨t, ex, p1, m1, e1, h1, q1⟩ => ⟨t, ex, ?_⟩⟩
    cases t with
    | true => exact ⟨Z, ρ, p1, m1, hs.wk e1.wk, h1, post_testV q1⟩
    | false => exact q1.ok h1 (.bl _)
theorem rd_or (ha : PE X a (RE X G E ca)) (hb : PE X (.BoolOp .Or (b :: rest) pos) (RE X G E cb)) : PE X (.BoolOp .Or (a :: b :: rest) pos) (RE X G E (.or ca cb)) :=
  PE.imp (pe_or ha hb) fun σ H Q ⟨Z, ρ, ph, mm, hs, h, q⟩ => by
    unfold evE at q
    refine ⟨Z, ρ, ph, mm, hs, h, (postB_val (postE_test q)).mono fun x H1 ⟨t, ex, p1, m1, e1, h1, q1⟩ => ⟨t, ex, ?_⟩⟩
    cases t with
    | true => exact q1.ok h1 (.bl _)
    | false => exact ⟨Z, ρ, p1, m1, hs.wk e1.wk, h1, post_testV q1⟩

/-! ### lists of expressions -/
theorem rl_nil : PA X [] (RL X G E .nil) := PA.imp pa_nil fun σ H Q ⟨Z, ρ, ph, mm, s, h, q⟩ => by
  unfold evL at q
  exact q.ok h .nil
theorem rl_cons {e : Expr} {ce : CE} (hs : starEach (e :: es) X.env = (false, eval e X.env) :: starEach es X.env) (he : PE X e (RE X G E ce)) (hr : PA X es (RL X G E cs)) : PA X (e :: es) (RL X G E (.cons ce cs)) :=
  PA.imp (pa_cons he hr hs) fun σ H Q ⟨Z, ρ, ph, mm, s, h, q⟩ => by
    unfold evL at q
    refine ⟨Z, ρ, ph, mm, s, h, (PostG.bind q).mono fun x H1 ⟨v, p1, m1, e1, h1, r1, q1⟩ => ⟨Z, ρ, p1, m1, s.wk e1.wk, h1, (PostG.bind q1).mono fun xs H2 ⟨vs, p2, m2, e2, h2, r2, q2⟩ => q2.ok h2 (.cons (r1.wk e2.wk) r2)⟩⟩
theorem rd_tup {x1} (h : PA X es (RL X G E cs)) : PE X (.Tuple es x1 pos) (RE X G E (.tup cs)) :=
  PE.imp (pe_tup h) fun σ H Q ⟨Z, ρ, ph, mm, s, h, q⟩ => by
    unfold evE at q
    refine ⟨Z, ρ, ph, mm, s, h, (PostG.bind q).mono fun xs H1 ⟨vs, p1, m1, e1, h1, r1, q1⟩ => ?_⟩
    split at q1
    · rename_i hz
      exact ⟨by rw [← Rps.len r1]; exact hz, fun p hp => new_tup q1 h1 r1 hp⟩
    · exact q1.elim
theorem rd_lst {mu : Bool} (h : PA X es (RL X G E cs)) : PE X (.List es pos) (RE X G E (.lst mu cs)) :=
  PE.imp (pe_lst h) fun σ H Q ⟨Z, ρ, ph, mm, s, h, q⟩ => by
    unfold evE at q
    refine ⟨Z, ρ, ph, mm, s, h, (PostG.bind q).mono fun xs H1 ⟨vs, p1, m1, e1, h1, r1, q1⟩ => ?_⟩
    split at q1
    · rename_i hz
      exact ⟨by rw [← Rps.len r1]; exact hz, fun p hp => new_lst q1 h1 r1 hp⟩
    · exact q1.elim
end
end Ev
end
section
set_option maxRecDepth 100000
/-! EvH: built-in functions by values. -/
namespace Ev
open PySem PySem.Spec PyProof.Rows L2

/-- the text of a value, as repr tells it -/
def repX (v : PV) : Tx := (PyData.shown (toD v)).cps.toList
section
variable {P : Program} {w : World} {K : PySem.W.Frag} {Z : Addr → Prop} {H : Hp} {mm : List Addr} {ph : PH}
theorem Rps.one {x : PV} {vs : List V} (r : Rps P w K Z H mm [x] vs) : ∃ y, vs = [y] ∧ Rp P w K Z H mm x y := by
  cases r with
  | cons h t => cases t; exact ⟨_, rfl, h⟩
theorem Rps.two {x y : PV} {vs : List V} (r : Rps P w K Z H mm [x, y] vs) : ∃ a b, vs = [a, b] ∧ Rp P w K Z H mm x a ∧ Rp P w K Z H mm y b := by
  cases r with
  | cons h t => obtain ⟨b, rfl, hb⟩ := t.one; exact ⟨_, b, rfl, h, hb⟩
theorem bools_ : ∀ {xs : List PV} {bs : List Bool} {vs : List V}, boolsL xs = some bs → Rps P w K Z H mm xs vs → vs = bs.map V.bl
  | [], _, _, e, r => by cases e; cases r; rfl
  | x :: xs, bs, _, e, .cons h r => by
    cases x with
    | bl b =>
      simp only [boolsL] at e
      cases e1 : boolsL xs with
      | none => rw [e1] at e; cases e
      | some cs => rw [e1] at e; cases e; rw [bools_ e1 r, h.bl_]; rfl
    | _ => cases e
theorem ints_ : ∀ {xs : List PV} {bs : List Int} {vs : List V}, intsL xs = some bs → Rps P w K Z H mm xs vs → vs = bs.map V.int
  | [], _, _, e, r => by cases e; cases r; rfl
  | x :: xs, bs, _, e, .cons h r => by
    cases x with
    | int b =>
      simp only [intsL] at e
      cases e1 : intsL xs with
      | none => rw [e1] at e; cases e
      | some cs => rw [e1] at e; cases e; rw [ints_ e1 r, h.int_]; rfl
    | _ => cases e
theorem txts_ : ∀ {xs : List PV} {bs : List Tx} {vs : List V}, txtsL xs = some bs → Rps P w K Z H mm xs vs → vs = (bs.map sT).map V.str
  | [], _, _, e, r => by cases e; cases r; rfl
  | x :: xs, bs, _, e, .cons h r => by
    cases x with
    | str b =>
      simp only [txtsL] at e
      cases e1 : txtsL xs with
      | none => rw [e1] at e; cases e
      | some cs => rw [e1] at e; cases e; rw [txts_ e1 r, h.str_]; rfl
    | _ => cases e
theorem rps_strs : ∀ xs : List Tx, Rps P w K Z H mm (xs.map PV.str) ((xs.map sT).map V.str)
  | [] => .nil
  | x :: xs => .cons (.str x) (rps_strs xs)

/-! ### isinstance -/
def btN : Bt → String
  | .int => "int" | .bool => "bool" | .str => "str" | .tup => "tuple" | .lst => "list" | .dct => "dict" | .non => "NoneType"
def tyN : Ty → String
  | .tint => "int" | .tbool => "bool" | .tstr => "str" | .ttup => "tuple" | .tlst => "list" | .tdct => "dict"
theorem kit_tab (t : Ty) (b : Bt) : PySem.W.kitOne K (.type (btN b)) (.type (tyN t)) = some (tyIs t b) := by
  cases t <;> cases b <;> exact kit_ty (by decide +kernel)
theorem kit_tabs (b : Bt) : ∀ ts : List Ty, PySem.W.kitAny K (.type (btN b)) (ts.map fun t => .type (tyN t)) = some (ts.any fun t => tyIs t b)
  | [] => rfl
  | t :: ts => by
    refine kitAny_cons (kit_tab t b) (fun h => ?_) fun h => ?_
    · rw [kit_tabs b ts, List.any_cons, h, Bool.false_or]
    · rw [List.any_cons, h, Bool.true_or]
theorem bt_ty {a : PV} {x : V} {b : Bt} (hr : HRp P w K Z H mm ph) (r : Rp P w K Z H mm a x) (e : btOf ph a = some b) : TyX K H x (.type (btN b)) := by
  unfold btOf at e
  split at e
  all_goals first
    | (cases e; done)
    | skip
  · rename_i i es
    cases a with
    | int j => cases es; cases e; rw [r.int_]; exact .base (.int _)
    | ref n =>
      obtain ⟨o, p, _, rfl, _, ho, e3⟩ := see_ref hr r es
      rcases ho.see e3 with ⟨_, _, e4, _⟩ | ⟨_, _, e4, _⟩ | ⟨_, _, e4, _⟩ <;> cases e4
    | _ => cases es
  · rename_i i es
    cases a with
    | bl j => cases es; cases e; rw [r.bl_]; exact .base (.bl _)
    | ref n =>
      obtain ⟨o, p, _, rfl, _, ho, e3⟩ := see_ref hr r es
      rcases ho.see e3 with ⟨_, _, e4, _⟩ | ⟨_, _, e4, _⟩ | ⟨_, _, e4, _⟩ <;> cases e4
    | _ => cases es
  · rename_i i es
    cases e
    have := see_str hr r es
    subst this
    rw [r.str_]; exact .base (.str _)
  · rename_i i es
    cases e
    have := see_tup hr r es
    subst this
    obtain ⟨p, vs, rfl, hp, _⟩ := r.tup_
    exact .base (.tup hp)
  · rename_i i es
    cases e
    have := see_ftp hr r es
    subst this
    cases r with
    | tupK h _ =>
      obtain ⟨o, its, n, hl, hc, _⟩ := h
      exact .kTuple hl hc
  · rename_i i es
    cases e
    obtain ⟨p, vs, rfl, hp, _⟩ := see_lst hr r es
    exact .base (.lst hp)
  · rename_i i es
    cases e
    have := see_fls hr r es
    subst this
    cases r with
    | fls h _ _ =>
      rcases h with h | ⟨o, h⟩
      · exact .base (.lst h)
      · exact .base (.frz h)
    | flsK h _ =>
      obtain ⟨o, its, n, hl, hc, _⟩ := h
      exact .kList hl hc
  · rename_i es0 es
    cases e
    obtain ⟨p, rfl, ⟨_, kvs, hd, _⟩ | ⟨h, _⟩⟩ := see_dct hr r es
    · rcases hd with hd | ⟨o, hd⟩
      · exact .base (.dK hd)
      · exact .fDict hd
    · cases h
  · rename_i es
    cases e
    cases a with
    | non => rw [r.non_]; exact .base .non
    | ref n =>
      obtain ⟨o, p, _, rfl, _, ho, e3⟩ := see_ref hr r es
      rcases ho.see e3 with ⟨_, _, e4, _⟩ | ⟨_, _, e4, _⟩ | ⟨_, _, e4, _⟩ <;> cases e4
    | _ => cases es
end

section
variable {X : Cx} {E : XK} {rep : PV → Tx}
abbrev RL' (X : Cx) (E : XK) (rep : PV → Tx) (p : Pr) : List V → Hp → VK → Prop := rL X.prog X.w X.K E fun vs h => primop rep p vs h
theorem see_scalar {P : Program} {w : World} {K : PySem.W.Frag} {Z : Addr → Prop} {H : Hp} {mm : List Addr} {ph : PH} {a u : PV} {x : V} (hr : HRp P w K Z H mm ph) (r : Rp P w K Z H mm a x) (e : see ph a = some u) (h : flatK u = true) : a = u := by
  cases a with
  | ref n =>
    obtain ⟨o, p, _, rfl, _, ho, e3⟩ := see_ref hr r e
    rcases ho.see e3 with ⟨_, _, e4, _⟩ | ⟨_, _, e4, _⟩ | ⟨_, _, e4, _⟩ <;> (rw [e4] at h; cases h)
  | _ => cases e; rfl
/-- a list or a tuple that is seen -/
theorem len_seq {pins : List (Addr × Obj)} {s : Shared} {σ : L2.St} {H : Hp} {us : List Value} {Q : VK} {Z : Addr → Prop} {mm : List Addr} {ph : PH} {xs : List PV} {vs : List V} {p : Addr} (I : Inv X pins σ H s) (rs : Vals [.ref p] us) (hr : HRp X.prog X.w X.K Z H mm ph)
    (h : SqL X.K H p vs ∨ SqT X.K H p vs) (r : Rps X.prog X.w X.K Z H mm xs vs) (q : PostE X.prog X.w X.K Z E H mm Q (.ok (.int xs.length) ph)) : wpAny (model X.prog X.w) X.A (call (.builtin "len") us) (EP X pins σ Q) X.xe s :=
  call_len_seq pins s σ H [.ref p] us Q I rs ⟨p, vs, rfl, h, q.ok hr (by rw [r.len]; exact .int _)⟩
theorem cr_len : CallR X (.builtin "len") (RL' X E rep .len) := by
  intro pins s σ H xs us Q I rs ⟨Z, mm, ph, vs, hr, rv, q⟩
  cases vs with
  | nil => exact q.elim
  | cons a t =>
    cases t with
    | cons _ _ => exact q.elim
    | nil =>
      obtain ⟨x, rfl, ra⟩ := rv.one
      unfold primop at q
      dsimp only at q
      split at q
      · rename_i ys es
        obtain ⟨p, vs, rfl, hp, r⟩ := see_lst hr ra es
        exact len_seq I rs hr (.inl (.inl (.inl hp))) r q
      · rename_i ys es
        have := see_fls hr ra es
        subst this
        obtain ⟨p, vs, rfl, hp, r⟩ := ra.fls_
        exact len_seq I rs hr (.inl hp) r q
      · rename_i ys es
        have := see_tup hr ra es
        subst this
        obtain ⟨p, vs, rfl, hp, r⟩ := ra.tup_
        exact len_seq I rs hr (.inr (.inl (.inl hp))) r q
      · rename_i ys es
        have := see_ftp hr ra es
        subst this
        obtain ⟨p, vs, rfl, hp, r⟩ := ra.ftp_
        exact len_seq I rs hr (.inr hp) r q
      · rename_i ys es
        have := see_fdc hr ra es
        subst this
        obtain ⟨p, kvs, rfl, ⟨hz, hs, ws, rel, dd⟩, r⟩ := ra.fdc_
        obtain ⟨u, rfl, ru⟩ := rs.one
        cases ru
        refine call_len_dict hs (dd _ I.kIn) (by rw [← rel.length]; rw [sizeLine_eq] at hz; omega) ?_
        rw [← rel.length]
        exact ⟨.int _, H, I.tok _, ⟨_, rfl⟩, q.ok hr (by rw [r.len]; exact .int _)⟩
      · rename_i ys es
        split at q
        · rename_i hz
          have := see_str hr ra es
          subst this
          obtain rfl := ra.str_
          exact call_len_str pins s σ H _ us Q I rs ⟨sT ys, rfl, by rw [sT_len]; exact hz, by rw [sT_len]; exact q.ok hr (.int _)⟩
        · exact q.elim
      · rename_i tk ys es
        obtain ⟨p, rfl, ⟨_, kvs, hd, r⟩ | ⟨_, kvs, hd, r⟩⟩ := see_dct hr ra es
        · obtain ⟨u, rfl, ru⟩ := rs.one
          cases ru
          exact d_len I hd fun t s' I' => ⟨.int _, H, I', ⟨_, rfl⟩, q.ok hr (by rw [r.len]; exact .int _)⟩
        · obtain ⟨u, rfl, ru⟩ := rs.one
          cases ru
          obtain ⟨hz, hs, ws, rel, dd⟩ := dt_rd I.hok hd
          have hl : kvs.length = ws.length := Paired.length rel
          refine call_len_dictH hs dd (by rw [← hl]; rw [sizeLine_eq] at hz; omega) ?_
          rw [← hl]
          exact ⟨.int _, H, I.tok _, ⟨_, rfl⟩, q.ok hr (by rw [r.len]; exact .int _)⟩
      · exact q.elim

theorem numL_same : Ev.numL = TL.numL := rfl
theorem toString_int (i : Int) : Str.ofString (toString i) = sT (intL i) := by
  cases i with
  | ofNat n =>
    refine TL.ext_tl ?_
    rw [show TL.tl (Str.ofString (toString (Int.ofNat n))) = TL.numL n from TL.tl_num n]
    exact (sT_cps _).symm
  | negSucc n =>
    refine TL.ext_tl ?_
    have e : toString (Int.negSucc n) = "-" ++ toString (n + 1) := rfl
    have e2 := TL.tl_num (n + 1)
    show (Str.ofString (toString (Int.negSucc n))).cps.toList = (sT (intL (Int.negSucc n))).cps.toList
    rw [sT_cps, e, Str.ofString_eq_toList]
    have e3 : (Str.ofString (toString (((n + 1 : Nat)) : Int))).cps.toList = Ev.numL (n + 1) := e2
    rw [Str.ofString_eq_toList] at e3
    show List.map Char.toNat ("-" ++ toString (n + 1)).toList = 45 :: Ev.numL (n + 1)
    rw [String.toList_append, List.map_append]
    show 45 :: List.map Char.toNat (toString (n + 1)).toList = _
    rw [← e3]
    rfl
theorem small_log2 {i : Int} (h : small i = true) : i.natAbs.log2 < 1920 := by
  have h1 := small_lt h
  by_cases e : i.natAbs = 0
  · rw [e]; decide
  · exact (Nat.log2_lt e).mpr (Nat.lt_of_lt_of_le h1 (Nat.pow_le_pow_right (by decide) (by decide)))
/-- a call with one argument: the argument -/
theorem one_arg {P : Program} {w : World} {K : PySem.W.Frag} {Z : Addr → Prop} {H : Hp} {mm : List Addr} {ph : PH} {p : Pr} {vs : List PV} {Q : VK} (h0 : primop rep p [] ph = .stk) (h2 : ∀ a b t, primop rep p (a :: b :: t) ph = .stk) (q : PostE P w K Z E H mm Q (primop rep p vs ph)) : ∃ a, vs = [a] := by
  cases vs with
  | nil => rw [h0] at q; exact q.elim
  | cons a t =>
    cases t with
    | nil => exact ⟨a, rfl⟩
    | cons b t => rw [h2] at q; exact q.elim
theorem cr_str : CallR X (.type "str") (RL' X E rep .str) := by
  intro pins s σ H xs us Q I rs ⟨Z, mm, ph, vs, hr, rv, q⟩
  obtain ⟨a, rfl⟩ := one_arg rfl (by intro a b t; cases a <;> rfl) q
  obtain ⟨x, rfl, ra⟩ := rv.one
  unfold primop at q
  cases a with
  | int i =>
    dsimp only at q
    split at q
    · rename_i hi
      obtain rfl := ra.int_
      exact call_str_int pins s σ H _ us Q I rs ⟨i, rfl, small_log2 hi, by rw [toString_int]; exact q.ok hr (.str _)⟩
    · exact q.elim
  | str z =>
    obtain rfl := ra.str_
    exact SkE.call_str_str pins s σ H _ us Q I rs ⟨sT z, rfl, q.ok hr (.str _)⟩
  | _ => exact q.elim
theorem isDig_all {x : List Nat} (h : x.all isDig = true) : NumText.AllDigits x := fun c hc => by
  have := List.all_eq_true.mp h c hc
  simpa [isDig] using this
theorem intOf_text {x : Tx} {i : Int} (h : intOf x = some i) (hl : x.length ≤ 600) : PySem.intText? (sT x) = some i := by
  unfold intOf at h
  split at h
  · cases h
  · rename_i r
    split at h
    · cases h
    · rename_i hne
      split at h
      · rename_i hd
        cases h
        have := intText_neg (x := sT (45 :: r)) (cs := r) (sT_cps _) (isDig_all hd) (by intro z; rw [z] at hne; exact hne rfl) (by rw [sT_len]; simp at hl ⊢; omega)
        rw [this]; rfl
      · cases h
  · rename_i hne _
    split at h
    · rename_i hd
      cases h
      have := intText_digits (x := sT x) (by rw [sT_cps]; exact isDig_all hd) (by rw [sT_cps]; exact hne) (by rw [sT_len]; omega)
      rw [this, sT_cps]; rfl
    · cases h
theorem cr_int : CallR X (.type "int") (RL' X E rep .int) := by
  intro pins s σ H xs us Q I rs ⟨Z, mm, ph, vs, hr, rv, q⟩
  obtain ⟨a, rfl⟩ := one_arg rfl (by intro a b t; cases a <;> rfl) q
  obtain ⟨x, rfl, ra⟩ := rv.one
  unfold primop at q
  cases a with
  | int i =>
    obtain rfl := ra.int_
    exact call_int1 pins s σ H _ us Q I rs (.inl ⟨i, rfl, q.ok hr (.int _)⟩)
  | bl b =>
    obtain rfl := ra.bl_
    exact call_int1 pins s σ H _ us Q I rs (.inr ⟨b, rfl, q.ok hr (.int _)⟩)
  | str z =>
    dsimp only at q
    split at q
    · rename_i i ei
      split at q
      · rename_i hl
        obtain rfl := ra.str_
        exact call_int_str pins s σ H _ us Q I rs ⟨sT z, i, rfl, intOf_text ei hl, by rw [sT_len]; omega, q.ok hr (.int _)⟩
      · exact q.elim
    · exact q.elim
  | _ => exact q.elim
theorem cr_tuple : CallR X (.type "tuple") (RL' X E rep .tuple) := by
  intro pins s σ H xs us Q I rs ⟨Z, mm, ph, vs, hr, rv, q⟩
  obtain ⟨a, rfl⟩ := one_arg rfl (by intro a b t; cases a <;> rfl) q
  obtain ⟨x, rfl, ra⟩ := rv.one
  unfold primop at q
  dsimp only at q
  split at q
  · rename_i ys es
    have := see_tup hr ra es
    subst this
    obtain ⟨p, vs, rfl, hp, r⟩ := ra.tup_
    exact call_tuple_of pins s σ H _ us Q I rs ⟨p, vs, rfl, .inr ⟨.inl (.inl hp), q.ok hr ra⟩⟩
  · rename_i ys es
    have := see_ftp hr ra es
    subst this
    obtain ⟨p, vs, rfl, hp, r⟩ := ra.ftp_
    exact call_tuple_of pins s σ H _ us Q I rs ⟨p, vs, rfl, .inr ⟨hp, q.ok hr ra⟩⟩
  · rename_i ys es
    obtain ⟨p, vs, rfl, hp, r⟩ := see_lst hr ra es
    exact call_tuple_of pins s σ H _ us Q I rs ⟨p, vs, rfl, .inl ⟨.inl (.inl hp), fun l hl => new_tup q hr r hl⟩⟩
  · rename_i ys es
    have := see_fls hr ra es
    subst this
    obtain ⟨p, vs, rfl, hp, r⟩ := ra.fls_
    exact call_tuple_of pins s σ H _ us Q I rs ⟨p, vs, rfl, .inl ⟨hp, fun l hl => new_tup q hr r hl⟩⟩
  · exact q.elim
theorem cr_list {mu : Bool} : CallR X (.type "list") (RL' X E rep (.list mu)) := by
  intro pins s σ H xs us Q I rs ⟨Z, mm, ph, vs, hr, rv, q⟩
  obtain ⟨a, rfl⟩ := one_arg rfl (by intro a b t; cases a <;> rfl) q
  obtain ⟨x, rfl, ra⟩ := rv.one
  unfold primop at q
  dsimp only at q
  split at q
  · rename_i ys es
    obtain ⟨p, vs, rfl, hp, r⟩ := seqOf_ hr ra es
    exact call_list_of pins s σ H _ us Q I rs ⟨p, vs, rfl, hp, fun l hl => new_lst q hr r hl⟩
  · exact q.elim
theorem rp_each {Z : Addr → Prop} {H : Hp} {mm : List Addr} : ∀ {xs : List PV} {vs : List V} {us : List Value}, Rps X.prog X.w X.K Z H mm xs vs → Vals vs us → PySem.W.EachIs (fun u a => ∃ x, RelV x u ∧ Rp X.prog X.w X.K Z H mm a x) us xs
  | _, _, _, .nil, .nil => .nil
  | _, _, _, .cons h r, .cons q t => .cons ⟨_, q, h⟩ (rp_each r t)
theorem each_rp {Z : Addr → Prop} {H : Hp} {mm : List Addr} : ∀ {us : List Value} {xs : List PV}, PySem.W.EachIs (fun u a => ∃ x, RelV x u ∧ Rp X.prog X.w X.K Z H mm a x) us xs → ∃ vs, Rps X.prog X.w X.K Z H mm xs vs ∧ Vals vs us
  | _, _, .nil => ⟨[], .nil, .nil⟩
  | _, _, .cons ⟨x, h1, h2⟩ t => by
    obtain ⟨vs, r, q⟩ := each_rp t
    exact ⟨x :: vs, .cons h2 r, .cons h1 q⟩
theorem each_reads {Z : Addr → Prop} {pins : List (Addr × Obj)} {s : Shared} {σ : L2.St} {H : Hp} {mm : List Addr} (I : Inv X pins σ H s) : ∀ {xs : List PV} {vs : List V} {us : List Value}, (∀ x ∈ xs, x.plain = true) → Rps X.prog X.w X.K Z H mm xs vs → Vals vs us →
    PySem.W.EachIs (fun u a => ∃ as, Reads s.heap u (toD a) as) us xs
  | _, _, _, _, .nil, .nil => .nil
  | x :: xs, _, _, hp, .cons h r, .cons q t => .cons (Dp.reads I _ _ _ (h.dp (hp x (List.mem_cons_self ..))) q) (each_reads I (fun y hy => hp y (List.mem_cons_of_mem _ hy)) r t)
theorem sortS_eq {xs : List PV} (hp : ∀ x ∈ xs, x.plain = true) (hl : ∀ x ∈ xs, ∀ y ∈ xs, x.like y = true) : xs.mergeSort (PySem.W.dataLe false toD) = sortS xs := by
  unfold sortS
  have e := List.map_mergeSort (l := xs) (f := id) (r := fun a b => !PV.lt b a) (s := PySem.W.dataLe false toD) fun a ha b hb => by
    rw [PySem.W.dataLe_eq]
    show (!PV.lt b a) = !PySem.W.dataLt (toD b) (toD a)
    rw [toD_lt b a (hp b hb) (hp a ha) (hl b hb a ha)]
  simpa using e.symm
theorem cr_sorted (hu : X.A.units + 200 < cLine) {mu : Bool} : CallR X (.builtin "sorted") (RL' X E rep (.sorted mu)) := by
  intro pins s σ H xs us Q I rs ⟨Z, mm, ph, vs, hr, rv, q⟩
  obtain ⟨a, rfl⟩ := one_arg rfl (by intro a b t; cases a <;> rfl) q
  obtain ⟨x, rfl, ra⟩ := rv.one
  unfold primop at q
  dsimp only at q
  split at q
  · rename_i ys es
    split at q
    · rename_i hh
      obtain ⟨p, vs, rfl, hp, r⟩ := lstOf_ hr ra es
      obtain ⟨its, rv2, hl, hz⟩ := I.list hp
      obtain ⟨u, rfl, ru⟩ := rs.one
      cases ru
      simp only [sortable, Bool.and_eq_true, decide_eq_true_eq, List.all_eq_true, Bool.or_eq_true] at hh
      obtain ⟨⟨⟨h1, h2⟩, h3⟩, h4⟩ := hh
      have hpl : ∀ x ∈ ys, x.plain = true := fun x hx => (h3 x hx).1
      refine PySem.W.sorted_data (enc := toD) (R := fun u a => ∃ x, RelV x u ∧ Rp X.prog X.w X.K Z H mm a x) hl.isList (rp_each r rv2) (each_reads I hpl r rv2) ?_ ?_ h4 (fun b hb => ?_) fun out ho eo => ?_
      · intro d hd d' hd'
        obtain ⟨b, hb, rfl⟩ := List.mem_map.mp hd
        obtain ⟨b', hb', rfl⟩ := List.mem_map.mp hd'
        exact toD_like _ _ (h1 b hb b' hb')
      · rcases h2 with h2 | h2
        · refine .inl fun d hd => ?_
          obtain ⟨b, hb, rfl⟩ := List.mem_map.mp hd
          have := h2 b hb
          cases b with
          | tup zs =>
            cases zs with
            | nil => cases this
            | cons z zs => exact ⟨_, _, rfl⟩
          | _ => cases this
        · refine .inr fun d hd => ?_
          obtain ⟨b, hb, rfl⟩ := List.mem_map.mp hd
          have h5 := h2 b hb
          have h6 := hpl b hb
          cases b <;> first
            | (cases h6; done)
            | (simp [isNon, isTup] at h5; done)
            | exact ⟨(fun z => nomatch z), (fun _ z => nomatch z)⟩
      · have := (h3 b hb).2
        rw [toD_depth]; omega
      · rw [sortS_eq hpl h1] at eo
        obtain ⟨vs', r', rv'⟩ := each_rp eo
        obtain ⟨ep, he'⟩ := PyProof.Rows.sortedAll_at s.heap its out.toArray
        have hlen : vs'.length ≤ sizeLine := by
          rw [← r'.len]
          show (ys.mergeSort _).length ≤ _
          rw [List.length_mergeSort]; exact h4
        exact ⟨.ref _, upd H (s.heap.objs.size + 1) (.lst vs'), I.laid (t' := s.toks) (fun _ _ => PyProof.Rows.sortedAll_old) (Nat.le_succ _) ⟨hlen, out, ep, rv', he'⟩, rfl, new_lst q hr r' (I.hok.fresh (Nat.le_succ _))⟩
    · exact q.elim
  · exact q.elim
theorem bind_lst {ph : PH} {a : PV} {α : Type} {f : List PV → Option α} {bs : α} (e : (lstOf ph a).bind f = some bs) : ∃ ys, lstOf ph a = some ys ∧ f ys = some bs := by
  cases e1 : lstOf ph a with
  | none => rw [e1] at e; cases e
  | some ys => rw [e1] at e; exact ⟨ys, rfl, e⟩
theorem cr_all (hc : X.calm = true) : CallR X (.builtin "all") (RL' X E rep .all) := by
  intro pins s σ H xs us Q I rs ⟨Z, mm, ph, vs, hr, rv, q⟩
  obtain ⟨a, rfl⟩ := one_arg rfl (by intro a b t; cases a <;> rfl) q
  obtain ⟨x, rfl, ra⟩ := rv.one
  unfold primop at q
  dsimp only at q
  split at q
  · rename_i bs es
    obtain ⟨ys, e1, e2⟩ := bind_lst es
    obtain ⟨p, vs, rfl, hp, r⟩ := lstOf_ hr ra e1
    rw [bools_ e2 r] at hp
    exact L2.cr_all hc pins s σ H _ us Q I rs ⟨p, bs, rfl, hp, q.ok hr (.bl _)⟩
  · exact q.elim
theorem cr_any (hc : X.calm = true) : CallR X (.builtin "any") (RL' X E rep .any) := by
  intro pins s σ H xs us Q I rs ⟨Z, mm, ph, vs, hr, rv, q⟩
  obtain ⟨a, rfl⟩ := one_arg rfl (by intro a b t; cases a <;> rfl) q
  obtain ⟨x, rfl, ra⟩ := rv.one
  unfold primop at q
  dsimp only at q
  split at q
  · rename_i bs es
    obtain ⟨ys, e1, e2⟩ := bind_lst es
    obtain ⟨p, vs, rfl, hp, r⟩ := lstOf_ hr ra e1
    rw [bools_ e2 r] at hp
    exact L2.cr_any hc pins s σ H _ us Q I rs ⟨p, bs, rfl, hp, q.ok hr (.bl _)⟩
  · exact q.elim
theorem cr_sum (hc : X.calm = true) : CallR X (.builtin "sum") (RL' X E rep .sum) := by
  intro pins s σ H xs us Q I rs ⟨Z, mm, ph, vs, hr, rv, q⟩
  obtain ⟨a, rfl⟩ := one_arg rfl (by intro a b t; cases a <;> rfl) q
  obtain ⟨x, rfl, ra⟩ := rv.one
  unfold primop at q
  dsimp only at q
  split at q
  · rename_i bs es
    obtain ⟨ys, e1, e2⟩ := bind_lst es
    obtain ⟨p, vs, rfl, hp, r⟩ := lstOf_ hr ra e1
    rw [ints_ e2 r] at hp
    exact L2.cr_sum hc pins s σ H _ us Q I rs ⟨p, bs, rfl, hp, q.ok hr (.int _)⟩
  · exact q.elim

/-! ### repr -/
theorem sT_back (z : Str) : sT z.cps.toList = z := by simp [sT]
mutual
theorem shw_plain : ∀ v : PV, v.shw = true → v.plain = true ∧ (toD v).showable = true ∧ (toD v).hasDict = false
  | .non, _ => ⟨rfl, rfl, rfl⟩
  | .bl _, _ => ⟨rfl, rfl, rfl⟩
  | .int i, h => ⟨rfl, decide_eq_true (small_log2 h), rfl⟩
  | .str _, _ => ⟨rfl, rfl, rfl⟩
  | .tup xs, h => shwL_plain xs h
  | .lst xs, h => shwL_plain xs h
  | .fls xs, h => shwL_plain xs h
  | .dct _ _, h => by cases h
  | .ref _, h => by cases h
  | .exc _ _, h => by cases h
  | .ftp _, h => by cases h
  | .fdc _, h => by cases h
theorem shwL_plain : ∀ v : List PV, PV.shwL v = true → PV.plainL v = true ∧ PyData.showableAll (toDs v) = true ∧ PyData.hasDictAll (toDs v) = false
  | [], _ => ⟨rfl, rfl, rfl⟩
  | x :: xs, h => by
    have h' : x.shw = true ∧ PV.shwL xs = true := by simpa [PV.shwL] using h
    obtain ⟨a1, a2, a3⟩ := shw_plain x h'.1
    obtain ⟨b1, b2, b3⟩ := shwL_plain xs h'.2
    simp only [PV.plainL, toDs, PyData.showableAll, PyData.hasDictAll, a1, a2, a3, b1, b2, b3, Bool.and_self, Bool.or_self, and_self]
end
theorem numL_small {n : Nat} (h : n < 18446744073709551617) : (Ev.numL n).length ≤ 20 := TL.numL_len (by decide) (Nat.lt_of_lt_of_le h (by decide))
mutual
theorem shown_wt : ∀ v : PV, v.shw = true → (toD v).shown.length ≤ v.wt
  | .non, _ => by show (4 : Nat) ≤ 5; decide
  | .bl b, _ => by cases b <;> (show _ ≤ 5; decide)
  | .int i, h => by
    show (Str.ofString (toString i)).length ≤ 25
    rw [toString_int, sT_len]
    have := small_lt h
    cases i with
    | ofNat n =>
      have z := numL_small (n := n) (by simp at this; omega)
      show (Ev.numL n).length ≤ 25
      omega
    | negSucc n =>
      have z := numL_small (n := n + 1) (by simp [Int.natAbs] at this; omega)
      show (45 :: Ev.numL (n + 1)).length ≤ 25
      rw [List.length_cons]; omega
  | .str x, h => by
    show (reprText (sT x)).length ≤ 10 * x.length + 2
    have z := StrLaws.reprText_len (sT x) (fun c hc => by
      rw [sT_cps] at hc
      have := of_decide_eq_true (List.all_eq_true.mp h c hc)
      omega)
    rw [sT_len] at z
    exact z
  | .tup xs, h => by
    have z := shownL_wt xs h
    have z2 := tupleText_len_le (PyData.shownAll (toDs xs))
    show (tupleText (PyData.shownAll (toDs xs))).length ≤ PV.wtL xs + 3
    omega
  | .lst xs, h => by
    have z := shownL_wt xs h
    have z2 := listText_len_le (PyData.shownAll (toDs xs))
    show (listText (PyData.shownAll (toDs xs))).length ≤ PV.wtL xs + 3
    omega
  | .fls xs, h => by
    have z := shownL_wt xs h
    have z2 := listText_len_le (PyData.shownAll (toDs xs))
    show (listText (PyData.shownAll (toDs xs))).length ≤ PV.wtL xs + 3
    omega
  | .dct _ _, h => by cases h
  | .ref _, h => by cases h
  | .exc _ _, h => by cases h
  | .ftp _, h => by cases h
  | .fdc _, h => by cases h
theorem shownL_wt : ∀ v : List PV, PV.shwL v = true → ((PyData.shownAll (toDs v)).map (·.length)).sum + 2 * (PyData.shownAll (toDs v)).length ≤ PV.wtL v
  | [], _ => by show (0 : Nat) ≤ 0; decide
  | x :: xs, h => by
    have h' : x.shw = true ∧ PV.shwL xs = true := by simpa [PV.shwL] using h
    have a1 := shown_wt x h'.1
    have a2 := shownL_wt xs h'.2
    simp only [toDs, PyData.shownAll, List.map_cons, List.sum_cons, List.length_cons, PV.wtL]
    omega
end
theorem cr_repr (B : Bx X) : CallR X (.builtin "repr") (RL' X E repX .repr) := by
  intro pins s σ H xs us Q I rs ⟨Z, mm, ph, vs, hr, rv, q⟩
  obtain ⟨a, rfl⟩ := one_arg rfl (by intro a b t; cases a <;> rfl) q
  obtain ⟨x, rfl, ra⟩ := rv.one
  unfold primop at q
  dsimp only at q
  split at q
  · rename_i hh
    simp only [Bool.and_eq_true, decide_eq_true_eq] at hh
    obtain ⟨⟨h1, h2⟩, h3⟩ := hh
    obtain ⟨p1, p2, p3⟩ := shw_plain a h1
    have hsz : (toD a).shown.length ≤ sizeLine := Nat.le_trans (shown_wt a h1) h3
    obtain ⟨u, rfl, ru⟩ := rs.one
    have fin : ∀ (h' : Heap) (t tk : Nat), (∀ b o, s.heap.get? b = some o → h'.get? b = some o) → EP X pins σ Q (.str (toD a).shown t) { s with heap := h', toks := tk } := fun h' t tk hk => by
      refine ⟨.str (toD a).shown, H, I.kept (t' := tk) hk, ⟨t, rfl⟩, ?_⟩
      have e : sT (repX a) = (toD a).shown := sT_back _
      rw [← e]
      exact q.ok hr (.str _)
    have refCase : ∀ p, x = .ref p → wpAny (model X.prog X.w) X.A (call (.builtin "repr") [u]) (EP X pins σ Q) X.xe s := fun p ep => by
      subst ep
      cases ru
      obtain ⟨as, hrd⟩ := Dp.reads I _ _ _ (ra.dp p1) (show RelV (.ref p) (.ref p) from rfl)
      exact repr_of_reads' hrd p2 (PyData.noDict_hsm p3) B.gd (by rw [toD_depth]; have := B.un; omega) (fun b o e => e) (fun h' t tk hk => fin h' t tk hk) hsz
    cases a with
    | non =>
      obtain rfl := ra.non_
      cases ru
      exact PySem.P.repr_of_none (fin s.heap _ _ fun _ _ e => e)
    | bl b =>
      obtain rfl := ra.bl_
      cases ru
      exact PySem.P.repr_of_bool (by
        have := fin s.heap s.toks (s.toks + 1) fun _ _ e => e
        cases b <;> exact this)
    | int i =>
      obtain rfl := ra.int_
      obtain ⟨t, rfl⟩ := ru
      exact PySem.P.repr_of_int (small_log2 h1) (fin s.heap _ _ fun _ _ e => e)
    | str z =>
      obtain rfl := ra.str_
      obtain ⟨t, rfl⟩ := ru
      exact PySem.P.repr_of_str (fin s.heap _ _ fun _ _ e => e) hsz
    | tup zs => obtain ⟨p, vs, e, _⟩ := ra.tup_; exact refCase p e
    | lst zs => obtain ⟨p, vs, e, _⟩ := ra.lst_; exact refCase p e
    | fls zs => obtain ⟨p, vs, e, _⟩ := ra.fls_; exact refCase p e
    | _ => cases h1
  · exact q.elim
theorem cr_abs : CallR X (.builtin "abs") (RL' X E rep .abs) := by
  intro pins s σ H xs us Q I rs ⟨Z, mm, ph, vs, hr, rv, q⟩
  obtain ⟨a, rfl⟩ := one_arg rfl (by intro a b t; cases a <;> rfl) q
  obtain ⟨x, rfl, ra⟩ := rv.one
  cases a with
  | int i =>
    obtain rfl := ra.int_
    exact call_abs pins s σ H _ us Q I rs ⟨i, rfl, PostG.ok q hr (.int _)⟩
  | _ => exact q.elim
theorem cr_max (hc : X.calm = true) : CallR X (.builtin "max") (RL' X E rep .max) := by
  intro pins s σ H xs us Q I rs ⟨Z, mm, ph, vs, hr, rv, q⟩
  match vs, q, rv with
  | [.int i, .int j], q, rv =>
    obtain ⟨x, y, rfl, rx, ry⟩ := rv.two
    obtain rfl := rx.int_
    obtain rfl := ry.int_
    exact call_max2 hc pins s σ H _ us Q I rs ⟨i, j, rfl, PostG.ok q hr (.int _)⟩
theorem cr_min (hc : X.calm = true) : CallR X (.builtin "min") (RL' X E rep .min) := by
  intro pins s σ H xs us Q I rs ⟨Z, mm, ph, vs, hr, rv, q⟩
  match vs, q, rv with
  | [.int i, .int j], q, rv =>
    obtain ⟨x, y, rfl, rx, ry⟩ := rv.two
    obtain rfl := rx.int_
    obtain rfl := ry.int_
    exact call_min2 hc pins s σ H _ us Q I rs ⟨i, j, rfl, PostG.ok q hr (.int _)⟩
theorem cr_divmod : CallR X (.builtin "divmod") (RL' X E rep .divmod) := by
  intro pins s σ H xs us Q I rs ⟨Z, mm, ph, vs, hr, rv, q⟩
  match vs, q, rv with
  | [.int i, .int j], q, rv =>
    obtain ⟨x, y, rfl, rx, ry⟩ := rv.two
    obtain rfl := rx.int_
    obtain rfl := ry.int_
    have q' : PostE X.prog X.w X.K Z E H mm Q (if (decide (0 < j) && decide (j < 1073741824)) = true then .ok (.tup [.int (i / j), .int (i % j)]) ph else .stk) := q
    split at q'
    · rename_i hj
      simp only [Bool.and_eq_true, decide_eq_true_eq] at hj
      exact call_divmod pins s σ H _ us Q I rs ⟨i, j, rfl, ⟨hj.1, hj.2⟩, fun p hp => new_tup q' hr (.cons (.int _) (.cons (.int _) .nil)) hp⟩
    · exact q'.elim
end
end Ev
end
section
set_option maxRecDepth 100000
/-! EvI: the trees' side conditions; calls of built-in functions; methods of built-ins. -/
namespace Ev
open PySem PySem.Spec PyProof.Rows L2

/-! ### side conditions -/
def nst : Expr → Bool
  | .Starred _ _ => false
  | _ => true
theorem star_cons {e : Expr} {es : List Expr} {env : PySem.Env} (h : nst e = true) : starEach (e :: es) env = (false, eval e env) :: starEach es env := by
  cases e <;> first | rfl | cases h
theorem star_all {env : PySem.Env} : ∀ {es : List Expr}, (es.all nst) = true → starEach es env = es.map fun e => (false, eval e env)
  | [], _ => rfl
  | e :: es, h => by
    rw [List.all_cons, Bool.and_eq_true] at h
    rw [star_cons h.1, star_all h.2]; rfl
theorem back_any {env : PySem.Env} {pos : Pos} {es : List Expr} (h : (es.all nst) = true) : (backTo pos (starEach es env)).any (·.1) = false := by
  rw [star_all h]
  unfold backTo
  rw [List.map_map, List.any_map]
  exact List.any_eq_false.mpr fun e _ => by simp
theorem back_few {env : PySem.Env} {pos : Pos} {es : List Expr} (h : (es.all nst) = true) (hl : es.length < 30) : ((backTo pos (starEach es env)).all (fun x => !x.1) && (backToKw pos (keywordEach [] env)).all (fun x => x.1.isSome)
    && decide (es.length + ([] : List Keyword).length + (if ([] : List Keyword).isEmpty then 0 else 1) < 30)) = true := by
  have h1 : (backTo pos (starEach es env)).all (fun x => !x.1) = true := by
    rw [star_all h]
    unfold backTo
    rw [List.map_map, List.all_map]
    exact List.all_eq_true.mpr fun e _ => by simp
  have h2 : (backToKw pos (keywordEach [] env)).all (fun x => x.1.isSome) = true := rfl
  rw [h1, h2]
  simpa using hl
/-- not a call of super -/
def nsup : Expr → Bool
  | .Call (.Name _ _) [] [] _ => false
  | _ => true
theorem base_ok {o : Expr} {attr : Str} {env : PySem.Env} {wh : Sem Value} (h : nsup o = true) : attributeBase o attr env wh = wh := by
  unfold attributeBase
  split
  · cases h
  · rfl

theorem evL1 {G : Ctx} {ce : CE} {ρ : Env} {ph : PH} {f : List PV → PH → R PV} : (evL G (.cons ce .nil) ρ ph).bind f = (evE G ce ρ ph).bind fun v h => f [v] h := by
  unfold evL
  cases evE G ce ρ ph <;> rfl
/-! ### built-in functions -/
section
variable {X : Cx} {G : Ctx} {E : XK} {es : List Expr} {cs : CEs} {e : Expr} {ce : CE} {x : Str} {p pos : Pos}
theorem prim_post {pr : Pr} : ∀ σ H Q, RE X G E (.prim pr cs) σ H Q → tCB (RL' X E G.rep pr) (RL X G E cs) σ H Q := fun σ H Q ⟨Z, ρ, ph, mm, s, h, q⟩ => by
  unfold evE at q
  exact ⟨Z, ρ, ph, mm, s, h, (PostG.bind q).mono fun xs H1 ⟨vs, p1, m1, e1, h1, r1, q1⟩ => ⟨Z, m1, p1, vs, h1, r1, q1⟩⟩
theorem rd_primB {pr : Pr} {id : String} (hc : CallR X (.builtin id) (RL' X E G.rep pr)) (hs : ((e :: es).all nst) = true) (hg : Gl X x) (hm : X.mg x = none) (hv : bootBuiltins x = some (.builtin id)) (hn : x ≠ "__name__") (hdb : (x == ("__debug__" : Str)) = false) (ha : PA X (e :: es) (RL X G E cs)) :
    PE X (.Call (.Name x p) (e :: es) [] pos) (RE X G E (.prim pr cs)) := by
  have hs' := hs
  rw [List.all_cons, Bool.and_eq_true] at hs'
  exact PE.imp (pe_callB hc hg hm hv ha hn hdb (star_cons hs'.1) (back_any hs'.2)) prim_post
theorem rd_primT {pr : Pr} {T : String} (hc : CallR X (.type T) (RL' X E G.rep pr)) (hs : ((e :: es).all nst) = true) (hg : Gl X x) (hm : X.mg x = none) (hv : bootBuiltins x = some (.type T)) (hn : x ≠ "__name__") (hdb : (x == ("__debug__" : Str)) = false) (ha : PA X (e :: es) (RL X G E cs)) :
    PE X (.Call (.Name x p) (e :: es) [] pos) (RE X G E (.prim pr cs)) := by
  have hs' := hs
  rw [List.all_cons, Bool.and_eq_true] at hs'
  exact PE.imp (pe_callTy hc hg hm hv ha hn hdb (star_cons hs'.1) (back_any hs'.2)) prim_post
/-- the functions: their name, and what stands under it -/
def prB : Pr → Option (String × String)
  | .len => some ("len", "len") | .repr => some ("repr", "repr") | .sorted _ => some ("sorted", "sorted") | .all => some ("all", "all") | .any => some ("any", "any") | .sum => some ("sum", "sum")
  | .max => some ("max", "max") | .min => some ("min", "min") | .abs => some ("abs", "abs") | .divmod => some ("divmod", "divmod")
  | _ => none
def prT : Pr → Option (String × String)
  | .str => some ("str", "str") | .int => some ("int", "int") | .tuple => some ("tuple", "tuple") | .list _ => some ("list", "list")
  | _ => none
theorem prB_ok (B : Bx X) {pr : Pr} {n id : String} (h : prB pr = some (n, id)) : CallR X (.builtin id) (RL' X E repX pr) := by
  cases pr <;> first
    | (cases h; done)
    | skip
  all_goals (simp only [prB, Option.some.injEq, Prod.mk.injEq] at h; obtain ⟨rfl, rfl⟩ := h)
  · exact Ev.cr_len
  · exact Ev.cr_repr B
  · exact Ev.cr_sorted B.un
  · exact Ev.cr_all B.calm
  · exact Ev.cr_any B.calm
  · exact Ev.cr_sum B.calm
  · exact Ev.cr_max B.calm
  · exact Ev.cr_min B.calm
  · exact Ev.cr_abs
  · exact Ev.cr_divmod
theorem prT_ok {pr : Pr} {n id : String} (h : prT pr = some (n, id)) : CallR X (.type id) (RL' X E repX pr) := by
  cases pr <;> first
    | (cases h; done)
    | skip
  all_goals (simp only [prT, Option.some.injEq, Prod.mk.injEq] at h; obtain ⟨rfl, rfl⟩ := h)
  · exact Ev.cr_str
  · exact Ev.cr_int
  · exact Ev.cr_tuple
  · exact Ev.cr_list
theorem prB_boot {pr : Pr} {n id : String} (h : prB pr = some (n, id)) : bootBuiltins n = some (.builtin id) ∧ (n : Str) ≠ "__name__" ∧ ((n : Str) == ("__debug__" : Str)) = false := by
  cases pr <;> first
    | (cases h; done)
    | skip
  all_goals (simp only [prB, Option.some.injEq, Prod.mk.injEq] at h; obtain ⟨rfl, rfl⟩ := h; exact ⟨by first | rfl | decide +kernel | kernel_rfl, by decide +kernel, by decide +kernel⟩)
theorem prT_boot {pr : Pr} {n id : String} (h : prT pr = some (n, id)) : bootBuiltins n = some (.type id) ∧ (n : Str) ≠ "__name__" ∧ ((n : Str) == ("__debug__" : Str)) = false := by
  cases pr <;> first
    | (cases h; done)
    | skip
  all_goals (simp only [prT, Option.some.injEq, Prod.mk.injEq] at h; obtain ⟨rfl, rfl⟩ := h; exact ⟨by first | rfl | decide +kernel | kernel_rfl, by decide +kernel, by decide +kernel⟩)
/-- isinstance with one class -/
theorem rd_isa1 {t : Ty} {q p2 : Pos} {y : Str} (hs : nst e = true) (hg : Gl X "isinstance") (hm : X.mg "isinstance" = none) (hg2 : Gl X y) (hm2 : X.mg y = none) (hy : y = (tyN t : Str)) (he : PE X e (RE X G E ce)) :
    PE X (.Call (.Name "isinstance" p) [e, .Name y q] [] pos) (RE X G E (.prim (.isa [t]) (.cons ce .nil))) := by
  have hb : bootBuiltins y = some (.type (tyN t)) := by
    subst hy
    cases t <;> first | rfl | decide +kernel | kernel_rfl
  have hn : y ≠ "__name__" := by subst hy; cases t <;> decide +kernel
  have hdb : (y == ("__debug__" : Str)) = false := by subst hy; cases t <;> decide +kernel
  have hA : PA X [e, .Name y q] (tCons (RE X G E ce) (tCons (tC (.ty (tyN t))) tNil)) := pa_cons he (pa_cons (pe_bltn hg2 hm2 hb rfl hn hdb) pa_nil (star_cons rfl)) (star_cons hs)
  refine PE.imp (pe_callB call_isi hg hm (by first | rfl | decide +kernel | kernel_rfl) hA (by decide +kernel) (by decide +kernel) (star_cons hs) (back_any rfl)) fun σ H Q ⟨Z, ρ, ph, mm, s, h, q⟩ => ?_
  unfold evE at q
  rw [evL1] at q
  refine ⟨Z, ρ, ph, mm, s, h, (PostG.bind q).mono fun x1 H1 ⟨v, p1, m1, e1, h1, r1, q1⟩ => ?_⟩
  unfold primop at q1
  dsimp only at q1
  split at q1
  · rename_i b eb
    refine ⟨x1, .ty (tyN t), .type (btN b), .type (tyN t), tyIs t b, rfl, .ty _, bt_ty h1 r1 eb, kit_tab t b, ?_⟩
    simp only [List.any_cons, List.any_nil, Bool.or_false] at q1
    exact q1.ok h1 (.bl _)
  · exact q1.elim
/-- the names of built-in types -/
inductive TyNames (X : Cx) : List Expr → List Ty → Prop
  | nil : TyNames X [] []
  | cons {y : Str} {q : Pos} {t : Ty} {es : List Expr} {ts : List Ty} : Gl X y → X.mg y = none → y = (tyN t : Str) → TyNames X es ts → TyNames X (.Name y q :: es) (t :: ts)
def tTys : List Ty → TA
  | [] => tNil
  | t :: ts => tCons (tC (.ty (tyN t))) (tTys ts)
theorem TyNames.pa : ∀ {es : List Expr} {ts : List Ty}, TyNames X es ts → PA X es (tTys ts)
  | _, _, .nil => pa_nil
  | _, _, .cons (t := t) hg hm hy r => by
    subst hy
    exact pa_cons (pe_bltn hg hm (by cases t <;> first | rfl | decide +kernel | kernel_rfl) rfl (by cases t <;> decide +kernel) (by cases t <;> decide +kernel)) r.pa (star_cons rfl)
theorem tTys_run : ∀ {ts : List Ty} {σ : L2.St} {H : Hp} {Q : List V → Hp → Prop}, Q (ts.map fun t => V.ty (tyN t)) H → tTys ts σ H Q
  | [], _, _, _, h => h
  | t :: ts, _, _, _, h => tTys_run (ts := ts) h
theorem ty_vals : ∀ ts : List Ty, Paired ClsV (ts.map fun t => V.ty (tyN t)) (ts.map fun t => Value.type (tyN t))
  | [] => .nil
  | t :: ts => .cons (.ty _) (ty_vals ts)
/-- isinstance with a written tuple of classes -/
theorem rd_isaT {ts : List Ty} {es2 : List Expr} {k : Nat} {p2 : Pos} (hl : ts.length ≤ 100) (hs : nst e = true) (hg : Gl X "isinstance") (hm : X.mg "isinstance" = none) (hT : TyNames X es2 ts) (he : PE X e (RE X G E ce)) :
    PE X (.Call (.Name "isinstance" p) [e, .Tuple es2 k p2] [] pos) (RE X G E (.prim (.isa ts) (.cons ce .nil))) := by
  have hA : PA X [e, .Tuple es2 k p2] (tCons (RE X G E ce) (tCons (tTup (tTys ts)) tNil)) := pa_cons he (pa_cons (pe_tup hT.pa) pa_nil (star_cons rfl)) (star_cons hs)
  refine PE.imp (pe_callB call_isiT hg hm (by first | rfl | decide +kernel | kernel_rfl) hA (by decide +kernel) (by decide +kernel) (star_cons hs) (back_any rfl)) fun σ H Q ⟨Z, ρ, ph, mm, s, h, q⟩ => ?_
  unfold evE at q
  rw [evL1] at q
  refine ⟨Z, ρ, ph, mm, s, h, (PostG.bind q).mono fun x1 H1 ⟨v, p1, m1, e1, h1, r1, q1⟩ => ?_⟩
  unfold primop at q1
  dsimp only at q1
  split at q1
  · rename_i b eb
    refine tTys_run ⟨by rw [List.length_map, sizeLine_eq]; omega, fun tp htp => ?_⟩
    have hx := Ext.laid (o := .tup (ts.map fun t => V.ty (tyN t))) (mm := m1) htp
    exact ⟨x1, tp, ts.map fun t => V.ty (tyN t), .type (btN b), ts.map fun t => .type (tyN t), ts.any fun t => tyIs t b, rfl, upd_same, ty_vals ts, bt_ty (h1.laid htp) (r1.wk hx.wk) eb, kit_tabs b ts, q1.at_ hx (h1.laid htp) (.bl _)⟩
  · exact q1.elim
end
end Ev
end
section
set_option maxRecDepth 100000
/-! EvJ: methods of built-in types. -/
namespace Ev
open PySem PySem.Spec PyProof.Rows L2

section
variable {X : Cx} {E : XK}
/-- a method's reading, by values -/
def rM (X : Cx) (E : XK) (p : Pr) : V → List V → Hp → VK → Prop := fun x xs H Q => ∃ Z mm ph a vs, HRp X.prog X.w X.K Z H mm ph ∧ Rp X.prog X.w X.K Z H mm a x ∧ Rps X.prog X.w X.K Z H mm vs xs ∧ PostE X.prog X.w X.K Z E H mm Q (mthop p a vs ph)
theorem spl_same : ∀ (S : Tx) (k : Nat) (acc l : Tx), Ev.spl S k acc l = TL.spl S k acc l
  | _, k, _, [] => by cases k <;> rfl
  | S, 0, acc, c :: r => by
    show (if Ev.pre S (c :: r) then acc :: Ev.spl S (S.length - 1) [] r else Ev.spl S 0 (acc ++ [c]) r) = (if TL.pre S (c :: r) = true then acc :: TL.spl S (S.length - 1) [] r else TL.spl S 0 (acc ++ [c]) r)
    rw [spl_same S _ [] r, spl_same S 0 _ r]
    rfl
  | S, k + 1, acc, _ :: r => spl_same S k acc r
theorem split_same {x y : Tx} (hy : y ≠ []) (hc : y.all (fun c => decide (c < 256)) = true) : Txt.split (sT x) (sT y) = (Ev.spl y 0 [] x).map sT := by
  have h := TL.split_spl (sT x) (sT y) (by rw [show TL.tl (sT y) = y from sT_cps y]; exact hy) (TL.kind_ok (by
    show (sT y).cps.all _ = true
    rw [← Array.all_toList, sT_cps]; exact hc))
  rw [show TL.tl (sT y) = y from sT_cps y, show TL.tl (sT x) = x from sT_cps x, ← spl_same] at h
  rw [← h, List.map_map]
  exact (List.map_id' _).symm.trans (List.map_congr_left fun z _ => (sT_back z).symm)
theorem mr_split {mu : Bool} : MtR X "str.split" (rM X E (.split mu)) := by
  intro pins s σ H x xs v us Q I rx rs ⟨Z, mm, ph, a, vs, hr, ra, rv, q⟩
  match a, vs, q, ra, rv with
  | .str z, [.str y], q, ra, rv =>
    have q' : PostE X.prog X.w X.K Z E H mm Q (if (!y.isEmpty) && y.all (fun c => decide (c < 256)) && decide (z.length + 2 ≤ szLine) then newLst mu ((Ev.spl y 0 [] z).map PV.str) ph else .stk) := q
    split at q'
    · rename_i hh
      simp only [Bool.and_eq_true, decide_eq_true_eq, Bool.not_eq_true'] at hh
      obtain ⟨⟨h1, h2⟩, h3⟩ := hh
      obtain rfl := ra.str_
      obtain ⟨y', rfl, ry⟩ := rv.one
      obtain rfl := ry.str_
      have hy : y ≠ [] := fun e => by rw [e] at h1; cases h1
      refine mt_split pins s σ H _ _ v us Q I rx rs ⟨sT z, sT y, rfl, rfl, ?_, by rw [sT_len]; exact h3, fun p hp => ?_⟩
      · rw [sT_len]
        cases y with
        | nil => exact absurd rfl hy
        | cons _ _ => rfl
      · rw [split_same hy h2]
        exact new_lst q' hr (rps_strs _) hp
    · exact q'.elim
theorem joinL_same : ∀ (S : Tx) (l : List Tx), Ev.joinL S l = TL.joinL S l
  | _, [] => rfl
  | _, [_] => rfl
  | S, x :: y :: r => by
    show x ++ S ++ Ev.joinL S (y :: r) = x ++ (S ++ TL.joinL S (y :: r))
    rw [joinL_same S (y :: r), List.append_assoc]
theorem join_same (y : Tx) (ts : List Tx) : Txt.join (sT y) (ts.map sT) = sT (Ev.joinL y ts) := by
  rw [TL.join_eq]
  refine TL.ext_tl ?_
  rw [TL.tl_join, List.map_map, joinL_same]
  show TL.joinL (sT y).cps.toList (ts.map (TL.tl ∘ sT)) = (sT (TL.joinL y ts)).cps.toList
  rw [sT_cps, sT_cps]
  congr 1
  exact (List.map_congr_left fun z _ => sT_cps z).trans (List.map_id' _)
theorem tlen_sum (y : Tx) : ∀ ts : List Tx, ((ts.map sT).map (·.length)).sum + (ts.map sT).length * (sT y).length = tlen ts y
  | [] => by simp [tlen]
  | t :: ts => by
    have ih := tlen_sum y ts
    unfold tlen at ih ⊢
    simp only [List.map_cons, List.sum_cons, List.length_cons, sT_len] at ih ⊢
    rw [← ih, Nat.succ_mul]
    omega
theorem mr_join : MtR X "str.join" (rM X E .join) := by
  intro pins s σ H x xs v us Q I rx rs ⟨Z, mm, ph, a, vs, hr, ra, rv, q⟩
  match a, vs, q, ra, rv with
  | .str y, [b], q, ra, rv =>
    have q' : PostE X.prog X.w X.K Z E H mm Q (match (seqOf ph b).bind txtsL with
      | some ts => if tlen ts y ≤ szLine then .ok (.str (Ev.joinL y ts)) ph else .stk
      | none => .stk) := q
    split at q'
    · rename_i ts es
      split at q'
      · rename_i hz
        obtain rfl := ra.str_
        obtain ⟨y', rfl, ry⟩ := rv.one
        cases e1 : seqOf ph b with
        | none => rw [e1] at es; cases es
        | some ys =>
          rw [e1] at es
          obtain ⟨p, vs, rfl, hp, r⟩ := seqOf_ hr ry e1
          rw [txts_ es r] at hp
          exact mt_join pins s σ H _ _ v us Q I rx rs ⟨sT y, p, ts.map sT, rfl, rfl, hp, by rw [tlen_sum]; exact hz, by rw [join_same]; exact q'.ok hr (.str _)⟩
      · exact q'.elim
    · exact q'.elim
/-- a list that the evaluator may write -/
theorem ref_lst {Z : Addr → Prop} {H : Hp} {mm : List Addr} {ph : PH} {n : Nat} {xs : List PV} {x : V} (hr : HRp X.prog X.w X.K Z H mm ph) (r : Rp X.prog X.w X.K Z H mm (.ref n) x) (e : ph[n]? = some (.lst xs)) :
    ∃ a vs, x = .ref a ∧ mm[n]? = some a ∧ H a = some (.lst vs) ∧ Rps X.prog X.w X.K Z H mm xs vs := by
  cases r with
  | ref hm =>
    have := hr.ob n _ _ e hm
    cases this with
    | lst h q => exact ⟨_, _, rfl, hm, h, q⟩
theorem put_lst {Z : Addr → Prop} {H : Hp} {mm : List Addr} {ph : PH} {n : Nat} {a : Addr} {xs : List PV} {vs : List V} {v : PV} {x : V} {Q : VK} (hr : HRp X.prog X.w X.K Z H mm ph) (hm : mm[n]? = some a) {ws0 : List V} (h0 : H a = some (.lst ws0)) (r : Rps X.prog X.w X.K Z H mm xs vs) (rv : Rp X.prog X.w X.K Z H mm v x)
    (q : PostE X.prog X.w X.K Z E H mm Q (.ok v (upH ph n (.lst xs)))) : Q x (upd H a (.lst vs)) := by
  have hf : ∀ o u, H a ≠ some (.frz o u) := fun o u z => by rw [h0] at z; cases z
  have hx := Ext.wrote (o := .lst vs) (H := H) (List.mem_of_getElem? hm) hf
  exact q _ _ _ hx (hr.wrote hm (.lst upd_same (r.wk hx.wk))) (rv.wk hx.wk)
theorem mr_append : MtR X "list.append" (rM X E .append) := by
  intro pins s σ H x xs v us Q I rx rs ⟨Z, mm, ph, a, vs, hr, ra, rv, q⟩
  match a, vs, q, ra, rv with
  | .ref n, [b], q, ra, rv =>
    have q' : PostE X.prog X.w X.K Z E H mm Q (match ph[n]? with
      | some (.lst xs) => if xs.length < szLine then .ok .non (upH ph n (.lst (xs ++ [b]))) else .stk
      | _ => .stk) := q
    split at q'
    · rename_i ys es
      split at q'
      · rename_i hz
        obtain ⟨p, ws, rfl, hm, hH, r⟩ := ref_lst hr ra es
        obtain ⟨y, rfl, ry⟩ := rv.one
        exact mt_append pins s σ H _ _ v us Q I rx rs ⟨p, ws, y, rfl, rfl, hH, by rw [← r.len]; exact hz, put_lst hr hm hH (r.append (.cons ry .nil)) .non q'⟩
      · exact q'.elim
    · exact q'.elim
theorem mr_insert : MtR X "list.insert" (rM X E .insert) := by
  intro pins s σ H x xs v us Q I rx rs ⟨Z, mm, ph, a, vs, hr, ra, rv, q⟩
  match a, vs, q, ra, rv with
  | .ref n, [.int i, b], q, ra, rv =>
    have q' : PostE X.prog X.w X.K Z E H mm Q (match ph[n]? with
      | some (.lst xs) => if xs.length < szLine && decide (0 ≤ i) && decide (i ≤ xs.length) then .ok .non (upH ph n (.lst (xs.take i.toNat ++ [b] ++ xs.drop i.toNat))) else .stk
      | _ => .stk) := q
    split at q'
    · rename_i ys es
      split at q'
      · rename_i hz
        simp only [Bool.and_eq_true, decide_eq_true_eq] at hz
        obtain ⟨p, ws, rfl, hm, hH, r⟩ := ref_lst hr ra es
        obtain ⟨y1, y, rfl, ri, ry⟩ := rv.two
        obtain rfl := ri.int_
        have hl := r.len
        have hs : szLine = 16777216 := rfl
        exact mt_insert pins s σ H _ _ v us Q I rx rs ⟨p, ws, i, y, rfl, rfl, hH, by rw [← r.len]; exact hz.1.1, hz.1.2, by omega, put_lst hr hm hH (((r.take _).append (.cons ry .nil)).append (r.drop _)) .non q'⟩
      · exact q'.elim
    · exact q'.elim
theorem mr_extend : MtR X "list.extend" (rM X E .extend) := by
  intro pins s σ H x xs v us Q I rx rs ⟨Z, mm, ph, a, vs, hr, ra, rv, q⟩
  match a, vs, q, ra, rv with
  | .ref n, [b], q, ra, rv =>
    have q' : PostE X.prog X.w X.K Z E H mm Q (match ph[n]?, see ph b with
      | some (.lst xs), some (.lst ys) => if xs.length + ys.length ≤ szLine then .ok .non (upH ph n (.lst (xs ++ ys))) else .stk
      | _, _ => .stk) := q
    split at q'
    · rename_i ys zs es es2
      split at q'
      · rename_i hz
        obtain ⟨p, ws, rfl, hm, hH, r⟩ := ref_lst hr ra es
        obtain ⟨y, rfl, ry⟩ := rv.one
        obtain ⟨p2, ws2, rfl, hH2, r2⟩ := see_lst hr ry es2
        exact mt_extend pins s σ H _ _ v us Q I rx rs ⟨p, p2, ws, ws2, rfl, rfl, hH, hH2, by rw [← r.len, ← r2.len]; exact hz, put_lst hr hm hH (r.append r2) .non q'⟩
      · exact q'.elim
    · exact q'.elim
theorem rps_dropLast {Z : Addr → Prop} {H : Hp} {mm : List Addr} {xs : List PV} {vs : List V} (r : Rps X.prog X.w X.K Z H mm xs vs) : Rps X.prog X.w X.K Z H mm xs.dropLast vs.dropLast := by
  rw [List.dropLast_eq_take, List.dropLast_eq_take, r.len]
  exact r.take _
theorem rps_erase {Z : Addr → Prop} {H : Hp} {mm : List Addr} : ∀ {xs : List PV} {vs : List V} (i : Nat), Rps X.prog X.w X.K Z H mm xs vs → Rps X.prog X.w X.K Z H mm (xs.eraseIdx i) (vs.eraseIdx i)
  | _, _, _, .nil => .nil
  | _, _, 0, .cons _ r => r
  | _, _, i + 1, .cons h r => .cons h (rps_erase i r)
theorem mr_pop : MtR X "list.pop" (rM X E .pop) := by
  intro pins s σ H x xs v us Q I rx rs ⟨Z, mm, ph, a, vs, hr, ra, rv, q⟩
  match a, vs, q, ra, rv with
  | .ref n, [], q, ra, rv =>
    have q' : PostE X.prog X.w X.K Z E H mm Q (match ph[n]? with
      | some (.lst xs) => match xs.getLast? with
        | some v => .ok v (upH ph n (.lst xs.dropLast))
        | none => .stk
      | _ => .stk) := q
    split at q'
    · rename_i ys es
      split at q'
      · rename_i w hw
        obtain ⟨p, ws, rfl, hm, hH, r⟩ := ref_lst hr ra es
        cases rv
        rw [List.getLast?_eq_getElem?] at hw
        obtain ⟨y, hy, ry⟩ := r.get hw
        rw [r.len] at hy
        exact mt_pop pins s σ H _ _ v us Q I rx rs ⟨p, ws, y, rfl, rfl, hH, hy, put_lst hr hm hH (rps_dropLast r) ry q'⟩
      · exact q'.elim
    · exact q'.elim
  | .ref n, [k], q, ra, rv =>
    have q' : PostE X.prog X.w X.K Z E H mm Q (match ph[n]? with
      | some (.lst xs) => popAt ph n xs k
      | _ => .stk) := q
    split at q'
    · rename_i ys es
      unfold popAt at q'
      split at q'
      · rename_i i
        split at q'
        · rename_i j hj
          split at q'
          · rename_i w hw
            obtain ⟨p, ws, rfl, hm, hH, r⟩ := ref_lst hr ra es
            obtain ⟨y1, rfl, r1⟩ := rv.one
            obtain rfl := r1.int_
            obtain ⟨y, hy, ry⟩ := r.get hw
            obtain ⟨h1, h2, h3, h4⟩ := ixN_seq (n := ys.length) (i := i) (j := j) hj
            obtain ⟨hz, _⟩ := I.lstM hH
            have hs : sizeLine = 16777216 := sizeLine_eq
            rw [r.len] at h1 h3 h4
            exact mt_popAt pins s σ H _ _ v us Q I rx rs ⟨p, ws, i, j, y, rfl, rfl, hH, by omega, by omega, h1, hy, put_lst hr hm hH (rps_erase j r) ry q'⟩
          · exact q'.elim
        · exact q'.elim
      · exact q'.elim
    · exact q'.elim
theorem dat_see {b k d : PV} {x y z : V} {pins : List (Addr × Obj)} {s : Shared} {σ : L2.St} {H : Hp} {Z : Addr → Prop} {mm : List Addr} {ph : PH} {Q : VK} (I : Inv X pins σ H s) (hr : HRp X.prog X.w X.K Z H mm ph) (r : Rp X.prog X.w X.K Z H mm b x) (rk : Rp X.prog X.w X.K Z H mm k y) (rd : Rp X.prog X.w X.K Z H mm d z)
    (q : PostE X.prog X.w X.K Z E H mm Q (getop ph b k d)) : ∃ a o, x = .ref a ∧ DAt X H s a y o ∧ Q (o.getD z) H := by
  unfold getop at q
  split at q
  · rename_i tk es e
    split at q
    · rename_i hk
      obtain ⟨a, o, rfl, g, ro⟩ := dat_dct (s := s) hr r e rk hk
      exact ⟨a, o, rfl, g, q.ok hr (ro.getD rd)⟩
    · exact q.elim
  · rename_i es e
    split at q
    · rename_i hk
      obtain ⟨a, o, rfl, g, ro⟩ := dat_fdc I hr r e rk hk
      exact ⟨a, o, rfl, g, q.ok hr (ro.getD rd)⟩
    · exact q.elim
  · exact q.elim
theorem mr_get (hu : X.A.units + 64 < cLine) : MtR X "dict.get" (rM X E .get) := by
  intro pins s σ H x xs v us Q I rx rs ⟨Z, mm, ph, a, vs, hr, ra, rv, q⟩
  match vs, q, rv with
  | [k], q, rv =>
    have q' : PostE X.prog X.w X.K Z E H mm Q (getop ph a k .non) := by
      cases a <;> exact q
    obtain ⟨y, rfl, rk⟩ := rv.one
    obtain ⟨p, o, rfl, g, q2⟩ := dat_see I hr ra rk .non q'
    obtain ⟨u, rfl, ru⟩ := rs.one
    cases rx
    exact a_get1 (by omega) I g ru fun w' s' I' rw' => ⟨_, H, I', rw', q2⟩
  | [k, d], q, rv =>
    have q' : PostE X.prog X.w X.K Z E H mm Q (getop ph a k d) := by
      cases a <;> exact q
    obtain ⟨y, z, rfl, rk, rd⟩ := rv.two
    obtain ⟨p, o, rfl, g, q2⟩ := dat_see I hr ra rk rd q'
    obtain ⟨u1, u2, rfl, ru1, ru2⟩ := rs.two
    cases rx
    exact a_get2 (by omega) I g ru1 ru2 fun w' s' I' rw' => ⟨_, H, I', rw', q2⟩

theorem count_toD {u : PV} (hu : u.plain = true) : ∀ xs : List PV, PV.plainL xs = true → ((toDs xs).countP fun y => PyData.eqv y (toD u)) = xs.countP fun z => z.eqv u
  | [], _ => rfl
  | x :: xs, h => by
    have h' : x.plain = true ∧ PV.plainL xs = true := by simpa [PV.plainL] using h
    simp only [toDs, List.countP_cons, count_toD hu xs h'.2, toD_eqv x u h'.1 hu]
theorem mr_count (hu : X.A.units + 64 < cLine) : MtR X "list.count" (rM X E .count) := by
  intro pins s σ H x xs v us Q I rx rs ⟨Z, mm, ph, a, vs, hr, ra, rv, q⟩
  match vs, q, rv with
  | [k], q, rv =>
    have q' : PostE X.prog X.w X.K Z E H mm Q (match see ph a with
      | some (.lst xs) => if k.plain && PV.plainL xs && decide (k.depth ≤ 60) then .ok (.int ((xs.countP fun z => z.eqv k : Nat) : Int)) ph else .stk
      | _ => .stk) := by
      cases a <;> exact q
    split at q'
    · rename_i ys es
      split at q'
      · rename_i hh
        simp only [Bool.and_eq_true, decide_eq_true_eq] at hh
        obtain ⟨⟨h1, h2⟩, h3⟩ := hh
        obtain ⟨y, rfl, rk⟩ := rv.one
        obtain ⟨u, rfl, ru⟩ := rs.one
        obtain ⟨as, q1⟩ := Dp.reads I _ y u (rk.dp h1) ru
        obtain ⟨bs, q2⟩ := Dp.reads I _ x v (see_dp hr ra es h2) rx
        obtain ⟨p, vs', rfl, hp, rs2⟩ := see_lst hr ra es
        cases rx
        have hroom : X.A.units + 1 + min (PyData.depthAll (toDs ys)) (toD k).depth < cLine := by
          have : min (PyData.depthAll (toDs ys)) (toD k).depth ≤ (toD k).depth := Nat.min_le_right _ _
          rw [toD_depth] at this
          rw [toD_depth]
          omega
        cases q2 with
        | list g1 g2 g3 g4 =>
          exact SeqAt.count_list_data ⟨_, g1, g2, _, g3⟩ g4 q1 (toDs_plain _ h2) (toD_plain _ h1) hroom ⟨V.int ((ys.countP fun z => z.eqv k : Nat) : Int), H, I.kept (t' := s.toks + 1) fun _ _ z => z, ⟨s.toks, by rw [count_toD h1 ys h2]⟩, q'.ok hr (.int _)⟩
      · exact q'.elim
    · exact q'.elim
/-! ### the call -/
/-- the methods: the name -/
def mnm : Pr → String
  | .split _ => "split" | .join => "join" | .append => "append" | .insert => "insert" | .extend => "extend" | .pop => "pop" | .get => "get" | .count => "count" | _ => ""
def knm : Kd → String
  | .str => "str" | .lst => "list" | .dct => "dict" | .tup => "tuple" | .none => ""
theorem mtab (B : Bx X) {p : Pr} {k : Kd} (h : recvOk p k = true) : ∃ id, PlainAttrs (knm k) ∧ Slot (knm k) (mnm p) id ∧ typeOf (.builtin id) = pure (.type "method_descriptor") ∧ MtR X id (rM X E p) := by
  unfold recvOk at h
  split at h
  · exact ⟨_, F.plainAttrs_str, F.slot_str_split, F.type_str_split, mr_split⟩
  · exact ⟨_, F.plainAttrs_str, F.slot_str_join, F.type_str_join, mr_join⟩
  · exact ⟨_, F.plainAttrs_list, F.slot_list_append, F.type_list_append, mr_append⟩
  · exact ⟨_, F.plainAttrs_list, F.slot_list_insert, F.type_list_insert, mr_insert⟩
  · exact ⟨_, F.plainAttrs_list, F.slot_list_pop, F.type_list_pop, mr_pop⟩
  · exact ⟨_, F.plainAttrs_list, F.slot_list_extend, F.type_list_extend, mr_extend⟩
  · exact ⟨_, F.plainAttrs_list, F.slot_list_count, F.type_list_count, mr_count B.hu⟩
  · exact ⟨_, F.plainAttrs_dict, F.slot_dict_get, F.type_dict_get, mr_get B.hu⟩
  · cases h
theorem ktab {p : Pr} {a : PV} {x : V} {v : Value} {pins : List (Addr × Obj)} {s : Shared} {σ : L2.St} {H : Hp} {Z : Addr → Prop} {mm : List Addr} {ph : PH} (h : recvOk p (kind ph a) = true) (I : Inv X pins σ H s) (hr : HRp X.prog X.w X.K Z H mm ph) (r : Rp X.prog X.w X.K Z H mm a x) (rx : RelV x v) :
    s.TypeIs v (knm (kind ph a)) ∧ ∀ a, v = .ref a → ∃ ob, s.heap.get? a = some ob ∧ ob.dict = none := by
  cases ek : kind ph a with
  | none => rw [ek] at h; cases p <;> cases h
  | tup => unfold kind at ek; split at ek <;> cases ek
  | str =>
    unfold kind at ek
    split at ek
    · rename_i z es
      have := see_str hr r es
      subst this
      obtain rfl := r.str_
      exact tyV_is I rx (T := "str") rfl
    all_goals cases ek
  | lst =>
    unfold kind at ek
    split at ek
    · cases ek
    · rename_i z es
      obtain ⟨p, vs, rfl, hp, _⟩ := see_lst hr r es
      exact tyV_is I rx (T := "list") (.inl ⟨rfl, vs, .inl (.inl hp)⟩)
    all_goals cases ek
  | dct =>
    unfold kind at ek
    split at ek
    · cases ek
    · cases ek
    · rename_i tk es0 es
      obtain ⟨p, rfl, ⟨_, kvs, hd, _⟩ | ⟨_, kvs, hd, _⟩⟩ := see_dct hr r es
      · cases rx
        obtain ⟨h1, h2, _⟩ := isD_at I (.inl ⟨kvs, hd⟩)
        exact ⟨h1, h2⟩
      · cases rx
        obtain ⟨h1, h2, _⟩ := isD_at I (.inr ⟨kvs, hd⟩)
        exact ⟨h1, h2⟩
    · rename_i es0 es
      have := see_fdc hr r es
      subst this
      obtain ⟨p, kvs, rfl, ⟨hz, hs, ws, rel, dd⟩, _⟩ := r.fdc_
      cases rx
      have d := dd _ I.kIn
      refine ⟨d.typeIs, fun b e => ?_⟩
      cases e
      obtain ⟨ob, _, _, h1, h2, _⟩ := d
      exact ⟨ob, h1, h2.2.1⟩
    · cases ek
variable {G : Ctx} {o : Expr} {co : CE} {es : List Expr} {cs : CEs} {apos pos : Pos} {nm : Str}
theorem rd_mth (B : Bx X) {p : Pr} (hnm : nm = (mnm p : Str)) (hsup : nsup o = true) (hs : (es.all nst) = true) (hl : es.length < 30) (hline : (apos.endLine == pos.line) = true) (ho : PE X o (RE X G E co)) (ha : PA X es (RL X G E cs)) :
    PE X (.Call (.Attribute o nm apos) es [] pos) (RE X G E (.mth p co cs)) := by
  subst hnm
  refine ⟨fun pins s σ H Q I ⟨Z, ρ, ph, mm, hρ, h, q⟩ => ?_⟩
  unfold evE at q
  refine wpAny_Call_method_late (base_ok hsup) (back_few hs hl) hline rfl (thn (ho.run pins s σ H _ I ⟨Z, ρ, ph, mm, hρ, h, PostG.bind q⟩) fun v s1 ⟨x, H1, I1, r1, a, p1, m1, e1, h1, ra, q1⟩ => ?_)
  split at q1
  · rename_i hk
    obtain ⟨id, pa, slot, hty, hm⟩ := mtab (E := E) B hk
    obtain ⟨t1, t2⟩ := ktab hk I1 h1 ra r1
    refine ⟨_, id, pa, slot, hty, t1, t2, ?_⟩
    have hA := ha.run pos pins s1 σ H1 _ I1 ⟨Z, ρ, p1, m1, hρ.wk e1.wk, h1, PostG.bind q1⟩
    have fin : ∀ us s2, AP X pins σ (fun vs H2 => ∃ ws p2 m2, Ext H1 m1 H2 m2 ∧ HRp X.prog X.w X.K Z H2 m2 p2 ∧ Rps X.prog X.w X.K Z H2 m2 ws vs ∧ PostE X.prog X.w X.K Z E H2 m2 Q (mthop p a ws p2)) us s2 → wpAny (model X.prog X.w) X.A (call (.builtin id) (v :: us)) (EP X pins σ Q) X.xe s2 :=
      fun us s2 ⟨vs, H2, I2, r2, ws, p2, m2, e2, h2, rw2, q2⟩ => hm pins s2 σ H2 x vs v us Q I2 r1 r2 ⟨Z, m2, p2, a, ws, h2, ra.wk e2.wk, rw2, q2⟩
    cases es with
    | nil =>
      refine Calls.callWith_builtin (back_any hs) ?_
      unfold evalArgs
      show wpAny _ _ (spliced [] >>= _) _ _ _
      refine wpAny_bind (thn hA fun us s2 q => ?_)
      refine wpAny_bind (wpAny_pure ?_)
      refine wpAny_holding ?_
      refine wpAny_bind (wpAny_pure ?_)
      exact wpAny_pure (fin us s2 q)
    | cons e es' =>
      have hs' := hs
      rw [List.all_cons, Bool.and_eq_true] at hs'
      refine Calls.callWith_builtin (back_any hs) ?_
      rw [star_cons hs'.1] at hA ⊢
      exact Calls.evalArgs_plain (thn hA fin)
  · exact q1.elim
end
end Ev
end
section
set_option maxRecDepth 100000
/-! EvK: targets; what loops walk. -/
namespace Ev
open PySem PySem.Spec PyProof.Rows L2

/-! ### the same tree -/
mutual
theorem same_eq : ∀ v u : PV, v.same u = true → v = u := by
  intro v u h
  cases v <;> cases u <;> first
    | rfl
    | (exact nomatch (show false = true from h))
    | (have h' := eq_of_beq (show (_ == _) = true from h); rw [h']; done)
    | (rw [sameL_eq _ _ h]; done)
    | (rw [sameD_eq _ _ h]; done)
    | (have h' := Bool.and_eq_true_iff.mp h; rw [eq_of_beq h'.1, sameD_eq _ _ h'.2]; done)
    | (have h' := Bool.and_eq_true_iff.mp h; rw [eq_of_beq h'.1, same_eq _ _ h'.2]; done)
theorem sameL_eq : ∀ v u : List PV, PV.sameL v u = true → v = u
  | [], [], _ => rfl
  | [], _ :: _, h => nomatch h
  | _ :: _, [], h => nomatch h
  | x :: xs, y :: ys, h => by
    have h' := Bool.and_eq_true_iff.mp h
    rw [same_eq x y h'.1, sameL_eq xs ys h'.2]
theorem sameD_eq : ∀ v u : List (PV × PV), PV.sameD v u = true → v = u
  | [], [], _ => rfl
  | [], _ :: _, h => nomatch h
  | _ :: _, [], h => nomatch h
  | x :: xs, y :: ys, h => by
    have h' := Bool.and_eq_true_iff.mp h
    rw [sameP_eq x y h'.1, sameD_eq xs ys h'.2]
theorem sameP_eq : ∀ v u : PV × PV, PV.sameP v u = true → v = u
  | (a, b), (c, d), h => by
    have h' := Bool.and_eq_true_iff.mp h
    rw [same_eq a c h'.1, same_eq b d h'.2]
end
theorem sameO_eq : ∀ v u : PO, v.same u = true → v = u
  | .lst xs, .lst ys, h => by rw [sameL_eq _ _ h]
  | .dct a xs, .dct b ys, h => by
    have h' := Bool.and_eq_true_iff.mp h
    rw [eq_of_beq h'.1, sameD_eq _ _ h'.2]
  | .lck a, .lck b, h => by rw [sameO_eq a b h]
  | .lst _, .dct _ _, h => nomatch h
  | .lst _, .ins _ _, h => nomatch h
  | .lst _, .lck _, h => nomatch h
  | .dct _ _, .lst _, h => nomatch h
  | .dct _ _, .ins _ _, h => nomatch h
  | .dct _ _, .lck _, h => nomatch h
  | .ins _ _, .lst _, h => nomatch h
  | .ins _ _, .dct _ _, h => nomatch h
  | .ins _ _, .ins _ _, h => nomatch h
  | .ins _ _, .lck _, h => nomatch h
  | .lck _, .lst _, h => nomatch h
  | .lck _, .dct _ _, h => nomatch h
  | .lck _, .ins _ _, h => nomatch h
  | .tbl _, .lst _, h => nomatch h
  | .tbl _, .dct _ _, h => nomatch h
  | .tbl _, .ins _ _, h => nomatch h
  | .tbl _, .lck _, h => nomatch h
  | .tbl _, .tbl _, h => nomatch h
  | .lst _, .tbl _, h => nomatch h
  | .dct _ _, .tbl _, h => nomatch h
  | .ins _ _, .tbl _, h => nomatch h
  | .lck _, .tbl _, h => nomatch h

/-! ### targets -/
mutual
def tgIx : Tg → List Nat
  | .nm i => [i]
  | .tp ts => tgIxs ts
def tgIxs : List Tg → List Nat
  | [] => []
  | t :: ts => tgIx t ++ tgIxs ts
end
theorem wipe_in {σ : L2.St} {i : Nat} : ∀ {vs : List Nat}, i ∈ vs → ∀ x, (L2.wipe σ vs)[i]? ≠ some (some x)
  | v :: vs, h, x, e => by
    unfold L2.wipe at e
    by_cases hi : v = i
    · subst hi
      by_cases hv : v < (L2.wipe σ vs).length
      · rw [List.getElem?_set_self hv] at e; cases e
      · rw [List.getElem?_eq_none (by simpa using hv)] at e; cases e
    · rw [List.getElem?_set_ne hi] at e
      rcases List.mem_cons.mp h with h | h
      · exact hi h.symm
      · exact wipe_in h x e
theorem wipe_set {σ : L2.St} {i : Nat} {o : Option V} {vs : List Nat} (h : i ∈ vs) : L2.wipe (σ.set i o) vs = L2.wipe σ vs := by
  have hl : (L2.wipe (σ.set i o) vs).length = (L2.wipe σ vs).length := by rw [wipe_length, wipe_length, List.length_set]
  refine List.ext_getElem? fun j => ?_
  by_cases hj : j < (L2.wipe σ vs).length
  · by_cases hm : j ∈ vs
    · have a1 := wipe_in (σ := σ) hm
      have a2 := wipe_in (σ := σ.set i o) hm
      have b1 : ∃ u, (L2.wipe σ vs)[j]? = some u := ⟨_, List.getElem?_eq_getElem hj⟩
      have b2 : ∃ u, (L2.wipe (σ.set i o) vs)[j]? = some u := ⟨_, List.getElem?_eq_getElem (by rw [hl]; exact hj)⟩
      obtain ⟨u1, e1⟩ := b1
      obtain ⟨u2, e2⟩ := b2
      cases u1 with
      | some x => exact absurd e1 (a1 x)
      | none =>
        cases u2 with
        | some x => exact absurd e2 (a2 x)
        | none => rw [e1, e2]
    · rw [wipe_out hm, wipe_out hm, List.getElem?_set_ne (fun e => hm (by rw [← e]; exact h))]
  · rw [List.getElem?_eq_none (by omega), List.getElem?_eq_none (by omega)]
section
variable (P : Program) (w : World) (K : PySem.W.Frag)
def rdG (t : Tg) : TG := fun v σ H Q => ∃ Z ρ ph mm u ρ', SRp P w K Z H mm ρ σ ∧ HRp P w K Z H mm ph ∧ Rp P w K Z H mm u v ∧ asg t u ph ρ = some ρ' ∧ ∀ σ', SRp P w K Z H mm ρ' σ' → (∀ vs, (∀ i ∈ tgIx t, i ∈ vs) → L2.wipe σ' vs = L2.wipe σ vs) → Q σ' H
def rdGs (ts : List Tg) : TGs := fun vs σ H Q => ∃ Z ρ ph mm us ρ', SRp P w K Z H mm ρ σ ∧ HRp P w K Z H mm ph ∧ Rps P w K Z H mm us vs ∧ asgL ts us ph ρ = some ρ' ∧ ∀ σ', SRp P w K Z H mm ρ' σ' → (∀ vs, (∀ i ∈ tgIxs ts, i ∈ vs) → L2.wipe σ' vs = L2.wipe σ vs) → Q σ' H
end
theorem PG.imp {X : Cx} {e : Expr} {t t' : TG} (h : PG X e t) (i : ∀ v σ H Q, t' v σ H Q → t v σ H Q) : PG X e t' := ⟨fun pins s σ H v u Q I r q => h.run pins s σ H v u Q I r (i v σ H Q q)⟩
theorem PGs.imp {X : Cx} {e : List Expr} {t t' : TGs} (h : PGs X e t) (i : ∀ v σ H Q, t' v σ H Q → t v σ H Q) : PGs X e t' := ⟨fun pins s σ H v u Q I r q => h.run pins s σ H v u Q I r (i v σ H Q q)⟩
section
variable {X : Cx} {x : Str} {pos : Pos}
theorem rg_nm {i : Nat} (B : Bx X) (hi : X.N[i]? = some x) (hx : Loc X.env.scope x) (hf : X.fn x = true ∨ X.env.scope.names.lookup x = some .local) : PG X (.Name x pos) (rdG X.prog X.w X.K (.nm i)) :=
  PG.imp (pg_name B.nd hi hx hf) fun v σ H Q ⟨Z, ρ, ph, mm, u, ρ', s, h, r, e, q⟩ => by
    unfold asg at e
    split at e
    · cases e
      exact q _ (s.set r) fun vs hv => wipe_set (hv i (by simp [tgIx]))
    · cases e
theorem rgs_nil : PGs X [] (rdGs X.prog X.w X.K []) := PGs.imp pgs_nil fun v σ H Q ⟨Z, ρ, ph, mm, u, ρ', s, h, r, e, q⟩ => by
  cases r with
  | nil => cases e; exact ⟨rfl, q _ s fun _ _ => rfl⟩
  | cons _ _ => cases e
theorem asg_each {e : Expr} {es : List Expr} {env : PySem.Env} (h : nst e = true) : (assignEach (e :: es) env).map (·.2) = assign e env :: (assignEach es env).map (·.2) := by
  cases e <;> first | rfl | cases h
theorem asg_len {env : PySem.Env} : ∀ {es : List Expr}, (assignEach es env).length = es.length
  | [] => rfl
  | e :: es => by
    have := asg_len (env := env) (es := es)
    cases e <;> simp [assignEach, this]
theorem asg_nost {env : PySem.Env} : ∀ {es : List Expr}, (es.all nst) = true → (assignEach es env).findIdx? (·.1) = none
  | [], _ => rfl
  | e :: es, h => by
    rw [List.all_cons, Bool.and_eq_true] at h
    have ih := asg_nost (env := env) h.2
    cases e <;> first
      | (cases h.1; done)
      | (show List.findIdx? _ ((false, _) :: assignEach es env) = none
         rw [List.findIdx?_cons, ih]; rfl)
theorem rgs_cons {e : Expr} {es : List Expr} {t : Tg} {ts : List Tg} (hs : nst e = true) (h1 : PG X e (rdG X.prog X.w X.K t)) (h2 : PGs X es (rdGs X.prog X.w X.K ts)) : PGs X (e :: es) (rdGs X.prog X.w X.K (t :: ts)) :=
  PGs.imp (pgs_cons h1 h2 (asg_each hs)) fun v σ H Q ⟨Z, ρ, ph, mm, us, ρ', s, h, r, e, q⟩ => by
    cases r with
    | nil => cases e
    | @cons u us v vs r1 r2 =>
      simp only [asgL] at e
      split at e
      · rename_i ρ1 e1
        refine ⟨v, vs, rfl, Z, ρ, ph, mm, u, ρ1, s, h, r1, e1, fun σ1 s1 w1 => ⟨Z, ρ1, ph, mm, us, ρ', s1, h, r2, e, fun σ2 s2 w2 => q σ2 s2 fun vs hv => ?_⟩⟩
        rw [w2 vs fun i hi => hv i (by unfold tgIxs; exact List.mem_append_right _ hi), w1 vs fun i hi => hv i (by unfold tgIxs; exact List.mem_append_left _ hi)]
      · cases e
theorem asgL_len : ∀ {ts : List Tg} {us : List PV} {ph : PH} {ρ ρ' : Env}, asgL ts us ph ρ = some ρ' → us.length = ts.length
  | [], [], _, _, _, _ => rfl
  | [], _ :: _, _, _, _, h => by simp [asgL] at h
  | _ :: _, [], _, _, _, h => by simp [asgL] at h
  | t :: ts, u :: us, ph, ρ, ρ', h => by
    simp only [asgL] at h
    split at h
    · rw [List.length_cons, List.length_cons, asgL_len h]
    · cases h
theorem rg_tup {es : List Expr} {k : Nat} {ts : List Tg} (B : Bx X) (hs : (es.all nst) = true) (hl : es.length = ts.length) (h : PGs X es (rdGs X.prog X.w X.K ts)) : PG X (.Tuple es k pos) (rdG X.prog X.w X.K (.tp ts)) :=
  PG.imp (pg_tup B.calm h (n := ts.length) (by rw [asg_len, hl]) (asg_nost hs)) fun v σ H Q ⟨Z, ρ, ph, mm, u, ρ', s, hr, r, e, q⟩ => by
    unfold asg at e
    split at e
    · rename_i us es
      have := see_tup hr r es
      subst this
      obtain ⟨a, vs, rfl, hp, rs⟩ := r.tup_
      exact ⟨a, vs, rfl, .inl (.inl hp), by rw [← rs.len]; exact asgL_len e, Z, ρ, ph, mm, us, ρ', s, hr, rs, e, q⟩
    · rename_i us es
      have := see_ftp hr r es
      subst this
      obtain ⟨a, vs, rfl, hp, rs⟩ := r.ftp_
      exact ⟨a, vs, rfl, hp, by rw [← rs.len]; exact asgL_len e, Z, ρ, ph, mm, us, ρ', s, hr, rs, e, q⟩
    · cases e
end
end Ev
end
section
set_option maxRecDepth 100000
/-! EvL: what loops and comprehensions walk. -/
namespace Ev
open PySem PySem.Spec PyProof.Rows L2

/-! ### locks -/
section
variable {P : Program} {w : World} {K : PySem.W.Frag} {Z Z' : Addr → Prop} {H : Hp} {mm : List Addr}
theorem HRp.relab {ph : PH} {n : Nat} {o o' : PO} (h : HRp P w K Z H mm ph) (e : ph[n]? = some o) (k : ∀ a, OR P w K Z H mm o a → OR P w K Z H mm o' a) : HRp P w K Z H mm (ph.set n o') := by
  refine ⟨by rw [List.length_set]; exact h.len, h.nd, fun m u a h1 h2 => ?_, h.zs⟩
  by_cases hm : n = m
  · subst hm
    have hn : n < ph.length := (List.getElem?_eq_some_iff.mp e).1
    rw [List.getElem?_set_self hn] at h1
    cases h1
    exact k a (h.ob n o a e h2)
  · rw [List.getElem?_set_ne hm] at h1
    exact h.ob m u a h1 h2
theorem HRp.lock : ∀ {nl : List Nat} {ph : PH}, HRp P w K Z H mm ph → HRp P w K Z H mm (lockH ph nl)
  | [], _, h => h
  | n :: nl, ph, h => by
    unfold lockH
    split
    · rename_i xs e
      exact HRp.lock (h.relab e fun a q => by cases q with | lst h r => exact .lckL h r)
    · exact HRp.lock h
theorem HRp.unlock : ∀ {nl : List Nat} {ph : PH}, HRp P w K Z H mm ph → HRp P w K Z H mm (unlockH ph nl)
  | [], _, h => h
  | n :: nl, ph, h => by
    unfold unlockH
    split
    · rename_i xs e
      exact HRp.unlock (h.relab e fun a q => by cases q with | lckL h r => exact .lst h r)
    · exact HRp.unlock h
end
theorem held_at {h0 ph : PH} {lk : List Nat} {n : Nat} {o : PO} (h : held h0 lk ph = true) (hn : n ∈ lk) (e : h0[n]? = some o) : ph[n]? = some o := by
  have := List.all_eq_true.mp h n hn
  rw [e] at this
  cases e2 : ph[n]? with
  | none => rw [e2] at this; cases this
  | some u => rw [e2] at this; rw [sameO_eq o u this]
theorem lockH_lck {n : Nat} {xs : List PV} : ∀ {nl : List Nat} {h : PH}, h[n]? = some (.lck (.lst xs)) → (lockH h nl)[n]? = some (.lck (.lst xs))
  | [], _, e => e
  | m :: nl, h, e => by
    unfold lockH
    split
    · rename_i ys e2
      refine lockH_lck ?_
      by_cases hm : m = n
      · subst hm; rw [e] at e2; cases e2
      · rw [List.getElem?_set_ne hm]; exact e
    · exact lockH_lck e
theorem lockH_new {n : Nat} {xs : List PV} : ∀ {nl : List Nat} {h : PH}, n ∈ nl → h[n]? = some (.lst xs) → (lockH h nl)[n]? = some (.lck (.lst xs))
  | m :: nl, h, hm, e => by
    unfold lockH
    by_cases hq : m = n
    · subst hq
      rw [e]
      refine lockH_lck ?_
      exact List.getElem?_set_self (List.getElem?_eq_some_iff.mp e).1
    · have hm' : n ∈ nl := by
        rcases List.mem_cons.mp hm with z | z
        · exact absurd z.symm hq
        · exact z
      split
      · exact lockH_new hm' (by rw [List.getElem?_set_ne hq]; exact e)
      · exact lockH_new hm' e

/-! ### the items in every later state -/
section
variable (P : Program) (w : World) (K : PySem.W.Frag)
/-- a state behind (H1, m1, h1): what is locked is held -/
structure Later (Z : Addr → Prop) (H1 : Hp) (m1 : List Addr) (h1 : PH) (lk nl : List Nat) (Z' : Addr → Prop) (H' : Hp) (m' : List Addr) (ph' : PH) : Prop where
  z : ∀ b, Z' b → Z b ∨ H1 b = none
  e : Ext H1 m1 H' m'
  hr : HRp P w K Z' H' m' ph'
  lk : held (lockH h1 nl) lk ph' = true
theorem Later.wk {P : Program} {w : World} {K : PySem.W.Frag} {Z Z' : Addr → Prop} {H1 H' : Hp} {m1 m' : List Addr} {h1 ph' : PH} {lk nl : List Nat} (l : Later P w K Z H1 m1 h1 lk nl Z' H' m' ph') : Wk Z Z' H1 m1 H' m' :=
  (Wk.more l.z).trans l.e.wk
def StL (Z : Addr → Prop) (H1 : Hp) (m1 : List Addr) (h1 : PH) (lk nl : List Nat) (xs : List PV) (a : Addr) : Prop := ∀ Z' H' m' ph', Later P w K Z H1 m1 h1 lk nl Z' H' m' ph' → ∃ vs, SqL K H' a vs ∧ Rps P w K Z' H' m' xs vs
def StT (Z : Addr → Prop) (H1 : Hp) (m1 : List Addr) (h1 : PH) (lk nl : List Nat) (xs : List PV) (a : Addr) : Prop := ∀ Z' H' m' ph', Later P w K Z H1 m1 h1 lk nl Z' H' m' ph' → ∃ vs, SqT K H' a vs ∧ Rps P w K Z' H' m' xs vs
/-- J walks the items -/
def Wlk (Z : Addr → Prop) (H1 : Hp) (m1 : List Addr) (h1 : PH) (its : Ev.Its) (J : It) : Prop := ∀ Z' H' m' ph' i, Later P w K Z H1 m1 h1 its.lk its.nl Z' H' m' ph' →
  (its.xs.length = i → J.stop i H') ∧ ∀ v, its.xs[i]? = some v → J.go i H' ∧ ∀ x H'', J.yld i H' x H'' → Ext H' m' H'' m' ∧ HRp P w K Z' H'' m' ph' ∧ Rp P w K Z' H'' m' v x
end
section
variable {P : Program} {w : World} {K : PySem.W.Frag} {Z : Addr → Prop} {H1 : Hp} {m1 : List Addr} {h1 : PH} {lk nl : List Nat}
theorem stL_lst {v : PV} {x : V} {xs : List PV} (hr : HRp P w K Z H1 m1 h1) (r : Rp P w K Z H1 m1 v x) (e : lstOf h1 v = some xs) (hl : ∀ n ∈ lockOf v, n ∈ lk) (hn : ∀ n ∈ newOf h1 v, n ∈ nl) : ∃ a, x = .ref a ∧ (∃ vs, SqL K H1 a vs) ∧ StL P w K Z H1 m1 h1 lk nl xs a := by
  obtain ⟨a, vs, ex, hq, _⟩ := lstOf_ hr r e
  refine ⟨a, ex, ⟨vs, hq⟩, fun Z' H' m' ph' l => ?_⟩
  cases v with
  | lst ys =>
    cases e
    subst ex
    cases r with
    | lst h f q => exact ⟨_, .inl (.inl (l.e.keep _ _ f.1 h)), q.wk l.wk⟩
  | fls ys =>
    cases e
    subst ex
    cases r with
    | fls h f q => exact ⟨_, .inl ((Ext.wk (Z := Z) l.e).rd _ _ f h), q.wk l.wk⟩
    | flsK h q => exact ⟨_, h.sq, q.wk l.wk⟩
  | ref n =>
    subst ex
    have hm : m1[n]? = some a := by cases r with | ref h => exact h
    have hm' : m'[n]? = some a := (Ext.wk (Z := Z) l.e).ix n a hm
    unfold lstOf see at e
    dsimp only at e
    have get : ∀ zs, ph'[n]? = some (.lck (.lst zs)) → ∃ vs, SqL K H' a vs ∧ Rps P w K Z' H' m' zs vs := fun zs q => by
      cases l.hr.ob n _ a q hm' with
      | lckL h r => exact ⟨_, .inl (.inl h), r⟩
    cases eo : h1[n]? with
    | none => rw [eo] at e; cases e
    | some o =>
      rw [eo] at e
      cases o with
      | lst ys =>
        cases e
        have : n ∈ newOf h1 (.ref n) := by simp [newOf, eo]
        exact get xs (held_at l.lk (hl n (by simp [lockOf])) (lockH_new (hn n this) eo))
      | lck o' =>
        cases o' with
        | lst ys =>
          cases e
          exact get xs (held_at l.lk (hl n (by simp [lockOf])) (lockH_lck eo))
        | dct _ _ => cases e
        | ins _ _ => cases e
        | lck o2 =>
          obtain ⟨a2, _, q2⟩ := hr.at_ eo
          cases q2
        | tbl _ => cases e
      | dct _ _ => cases e
      | ins _ _ => cases e
      | tbl _ => cases e
  | _ => cases e
theorem stT_tup {xs : List PV} {x : V} (r : Rp P w K Z H1 m1 (.tup xs) x) : ∃ a, x = .ref a ∧ (∃ vs, SqT K H1 a vs) ∧ StT P w K Z H1 m1 h1 lk nl xs a := by
  cases r with
  | tup h f q => exact ⟨_, rfl, ⟨_, .inl (.inl h)⟩, fun Z' H' m' ph' l => ⟨_, .inl (.inl (l.e.keep _ _ f.1 h)), q.wk l.wk⟩⟩
theorem stT_ftp {xs : List PV} {x : V} (r : Rp P w K Z H1 m1 (.ftp xs) x) : ∃ a, x = .ref a ∧ (∃ vs, SqT K H1 a vs) ∧ StT P w K Z H1 m1 h1 lk nl xs a := by
  cases r with
  | tupK h q => exact ⟨_, rfl, ⟨_, h.sq⟩, fun Z' H' m' ph' l => ⟨_, h.sq, q.wk l.wk⟩⟩
theorem wlk_lst {xs : List PV} {a : Addr} (h : StL P w K Z H1 m1 h1 lk nl xs a) : Wlk P w K Z H1 m1 h1 ⟨xs, lk, nl⟩ (Itl K a) := fun Z' H' m' ph' i l => by
  obtain ⟨vs, hq, r⟩ := h Z' H' m' ph' l
  refine ⟨fun hi0 => have hi := Nat.le_of_eq hi0; ⟨vs, hq, by rw [← r.len]; exact hi⟩, fun v e => ?_⟩
  obtain ⟨x, ex, rx⟩ := r.get e
  refine ⟨⟨vs, x, hq, ex⟩, fun y H'' hy => ?_⟩
  obtain ⟨rfl, hy⟩ := hy
  have := hy vs hq
  rw [ex] at this; cases this
  exact ⟨Ext.refl _ _, l.hr, rx⟩
theorem wlk_tup {xs : List PV} {a : Addr} (h : StT P w K Z H1 m1 h1 lk nl xs a) : Wlk P w K Z H1 m1 h1 ⟨xs, lk, nl⟩ (Itt K a) := fun Z' H' m' ph' i l => by
  obtain ⟨vs, hq, r⟩ := h Z' H' m' ph' l
  refine ⟨fun hi0 => have hi := Nat.le_of_eq hi0; ⟨vs, hq, by rw [← r.len]; exact hi⟩, fun v e => ?_⟩
  obtain ⟨x, ex, rx⟩ := r.get e
  refine ⟨⟨vs, x, hq, ex⟩, fun y H'' hy => ?_⟩
  obtain ⟨rfl, hy⟩ := hy
  have := hy vs hq
  rw [ex] at this; cases this
  exact ⟨Ext.refl _ _, l.hr, rx⟩
theorem wlk_str {z : Tx} : Wlk P w K Z H1 m1 h1 ⟨z.map fun c => .str [c], lk, nl⟩ (L2.Its (sT z)) := fun Z' H' m' ph' i l => by
  have hs : (sT z).cps.size = z.length := by simp [sT]
  refine ⟨fun hi0 => have hi := Nat.le_of_eq hi0; ?_, fun v e => ?_⟩
  · show (sT z).cps.size ≤ i
    rw [hs]; simpa using hi
  · have hi : i < z.length := by
      have := (List.getElem?_eq_some_iff.mp e).1
      simpa using this
    refine ⟨by show i < (sT z).cps.size; rw [hs]; exact hi, fun y H'' hy => ?_⟩
    obtain ⟨rfl, c, hc, rfl⟩ := hy
    have hc' : z[i]? = some c := by simpa [sT] using hc
    rw [List.getElem?_map, hc'] at e
    cases e
    exact ⟨Ext.refl _ _, l.hr, .str [c]⟩
theorem wlk_rng {lo : Int} {n : Nat} : Wlk P w K Z H1 m1 h1 ⟨rngL lo n, lk, nl⟩ (Itr lo n) := fun Z' H' m' ph' i l => by
  have hl : (rngL lo n).length = n := by simp [rngL]
  refine ⟨fun hi0 => have hi := Nat.le_of_eq hi0; by show n ≤ i; rw [← hl]; exact hi, fun v e => ?_⟩
  have hi : i < n := by
    have := (List.getElem?_eq_some_iff.mp e).1
    rw [hl] at this; exact this
  refine ⟨hi, fun y H'' hy => ?_⟩
  obtain ⟨rfl, rfl⟩ := hy
  have : v = .int (lo + (i : Nat)) := by
    unfold rngL at e
    rw [List.getElem?_map, List.getElem?_range hi] at e
    exact (Option.some.inj e).symm
  subst this
  exact ⟨Ext.refl _ _, l.hr, .int _⟩
theorem enm_get : ∀ {xs : List PV} {st : Int} {i : Nat} {v : PV}, (enmT st xs)[i]? = some v → ∃ u, xs[i]? = some u ∧ v = .tup [.int (st + (i : Nat)), u]
  | [], _, _, _, h => by simp [enmT] at h
  | x :: xs, st, 0, v, h => by
    simp [enmT] at h
    exact ⟨x, rfl, by rw [← h]; simp⟩
  | x :: xs, st, i + 1, v, h => by
    simp only [enmT, List.getElem?_cons_succ] at h
    obtain ⟨u, h1, h2⟩ := enm_get h
    refine ⟨u, by simpa using h1, ?_⟩
    rw [h2]
    congr 3
    omega
theorem enm_len : ∀ {xs : List PV} {st : Int}, (enmT st xs).length = xs.length
  | [], _ => rfl
  | _ :: xs, st => by simp [enmT, enm_len]
theorem zip_get : ∀ {xs ys : List PV} {i : Nat} {v : PV}, (zipT xs ys)[i]? = some v → ∃ a b, xs[i]? = some a ∧ ys[i]? = some b ∧ v = .tup [a, b]
  | [], _, _, _, h => by simp [zipT] at h
  | _ :: _, [], _, _, h => by simp [zipT] at h
  | x :: xs, y :: ys, 0, v, h => by
    simp [zipT] at h
    exact ⟨x, y, rfl, rfl, h.symm⟩
  | x :: xs, y :: ys, i + 1, v, h => by
    simp only [zipT, List.getElem?_cons_succ] at h
    obtain ⟨a, b, h1, h2, h3⟩ := zip_get h
    exact ⟨a, b, by simpa using h1, by simpa using h2, h3⟩
theorem zip_len : ∀ {xs ys : List PV}, (zipT xs ys).length = min xs.length ys.length
  | [], _ => by simp [zipT]
  | _ :: _, [] => by simp [zipT]
  | x :: xs, y :: ys => by simp [zipT, zip_len, Nat.succ_min_succ]
/-- a new pair is laid and yielded -/
theorem pair_laid {H : Hp} {mm : List Addr} {ph : PH} {T : Addr} {a b : PV} {x y : V} (hr : HRp P w K Z H mm ph) (hT : H T = none) (ra : Rp P w K Z H mm a x) (rb : Rp P w K Z H mm b y) :
    Ext H mm (upd H T (.tup [x, y])) mm ∧ HRp P w K Z (upd H T (.tup [x, y])) mm ph ∧ Rp P w K Z (upd H T (.tup [x, y])) mm (.tup [a, b]) (.ref T) := by
  have hx := Ext.laid (o := .tup [x, y]) (mm := mm) hT
  exact ⟨hx, hr.laid hT, .tup upd_same (hr.fz hT (hr.notIn hT)) (.cons (ra.wk hx.wk) (.cons (rb.wk hx.wk) .nil))⟩
theorem wlk_enum {xs : List PV} {a : Addr} (h : StL P w K Z H1 m1 h1 lk nl xs a) : Wlk P w K Z H1 m1 h1 ⟨enmT 0 xs, lk, nl⟩ (Ite K a) := fun Z' H' m' ph' i l => by
  obtain ⟨vs, hq, r⟩ := h Z' H' m' ph' l
  refine ⟨fun hi0 => have hi := Nat.le_of_eq hi0; ⟨vs, hq, by rw [← r.len]; simpa [enm_len] using hi⟩, fun v e => ?_⟩
  obtain ⟨u, e1, rfl⟩ := enm_get e
  obtain ⟨x, ex, rx⟩ := r.get e1
  refine ⟨⟨vs, x, hq, ex⟩, fun y H'' hy => ?_⟩
  obtain ⟨T, z, rfl, hT, rfl, hz⟩ := hy
  have := hz vs hq
  rw [ex] at this; cases this
  have e0 : (0 : Int) + (i : Nat) = (i : Nat) := by omega
  rw [e0]
  exact pair_laid l.hr hT (.int _) rx
theorem wlk_zipL {xs ys : List PV} {a b : Addr} (h : StL P w K Z H1 m1 h1 lk nl xs a) (h' : StL P w K Z H1 m1 h1 lk nl ys b) : Wlk P w K Z H1 m1 h1 ⟨zipT xs ys, lk, nl⟩ (Itz K a b) := fun Z' H' m' ph' i l => by
  obtain ⟨vs, hq, r⟩ := h Z' H' m' ph' l
  obtain ⟨us, hq', r'⟩ := h' Z' H' m' ph' l
  refine ⟨fun hi0 => have hi := Nat.le_of_eq hi0; ⟨vs, us, hq, hq', by
    have hi' : min xs.length ys.length ≤ i := by simpa [zip_len] using hi
    rw [← r.len, ← r'.len]; omega⟩, fun v e => ?_⟩
  obtain ⟨u1, u2, e1, e2, rfl⟩ := zip_get e
  obtain ⟨x, ex, rx⟩ := r.get e1
  obtain ⟨y, ey, ry⟩ := r'.get e2
  refine ⟨⟨vs, us, x, y, hq, hq', ex, ey⟩, fun z H'' hy => ?_⟩
  obtain ⟨T, z1, z2, rfl, hT, rfl, hz1, hz2⟩ := hy
  have t1 := hz1 vs hq
  have t2 := hz2 us hq'
  rw [ex] at t1; cases t1
  rw [ey] at t2; cases t2
  exact pair_laid l.hr hT rx ry
theorem wlk_zipT {xs ys : List PV} {a b : Addr} (h : StT P w K Z H1 m1 h1 lk nl xs a) (h' : StT P w K Z H1 m1 h1 lk nl ys b) : Wlk P w K Z H1 m1 h1 ⟨zipT xs ys, lk, nl⟩ (RZ.ItzT K a b) := fun Z' H' m' ph' i l => by
  obtain ⟨vs, hq, r⟩ := h Z' H' m' ph' l
  obtain ⟨us, hq', r'⟩ := h' Z' H' m' ph' l
  refine ⟨fun hi0 => have hi := Nat.le_of_eq hi0; ⟨vs, us, hq, hq', by
    have hi' : min xs.length ys.length ≤ i := by simpa [zip_len] using hi
    rw [← r.len, ← r'.len]; omega⟩, fun v e => ?_⟩
  obtain ⟨u1, u2, e1, e2, rfl⟩ := zip_get e
  obtain ⟨x, ex, rx⟩ := r.get e1
  obtain ⟨y, ey, ry⟩ := r'.get e2
  refine ⟨⟨vs, us, x, y, hq, hq', ex, ey⟩, fun z H'' hy => ?_⟩
  obtain ⟨T, z1, z2, rfl, hT, rfl, hz1, hz2⟩ := hy
  have t1 := hz1 vs hq
  have t2 := hz2 us hq'
  rw [ex] at t1; cases t1
  rw [ey] at t2; cases t2
  exact pair_laid l.hr hT rx ry
end
end Ev
end
section
set_option maxRecDepth 100000
set_option maxHeartbeats 2000000
/-! EvM0: zip of a tuple and a list. -/
namespace EvZip
open PySem PySem.Spec PyProof.Rows L2
section
variable {prog : Program} {w : World} {A : Around} {E : Value → Shared → Prop} {s : Shared}
/-- a cursor i at place k of the tuple (tp) or list l, whose items are xs -/
def Cr (tp : Bool) (h : Heap) (i l : Addr) (k : Nat) (xs : Array Value) : Prop := match tp with
  | true => h.IsTupleIter i l k ∧ h.IsTuple l xs
  | false => h.IsListIter i l k ∧ h.IsList l xs
theorem Cr.ext {tp : Bool} {h h' : Heap} {i l b : Addr} {k : Nat} {xs : Array Value} (c : Cr tp h i l k xs) (e : Heap.ExtBut b h h') (n1 : i ≠ b) (n2 : l ≠ b) : Cr tp h' i l k xs := by
  cases tp with
  | true => exact ⟨c.1.extBut e n1, c.2.extBut e n2⟩
  | false => exact ⟨c.1.extBut e n1, c.2.extBut e n2⟩
theorem Cr.lt {tp : Bool} {h : Heap} {i l : Addr} {k : Nat} {xs : Array Value} (c : Cr tp h i l k xs) : i < h.objs.size := by
  cases tp with
  | true => obtain ⟨⟨_, e, _⟩, _⟩ := c; exact Heap.lt_size e
  | false => obtain ⟨⟨_, e, _⟩, _⟩ := c; exact Heap.lt_size e
theorem Cr.at_ {tp : Bool} {h h' : Heap} {i l : Addr} {k : Nat} {xs : Array Value} (c : Cr tp h i l k xs) (e1 : ∀ o, h.get? i = some o → h'.get? i = some o) (e2 : ∀ o, h.get? l = some o → h'.get? l = some o) : Cr tp h' i l k xs := by
  cases tp with
  | true => exact ⟨c.1.at e1, let ⟨o, a, r⟩ := c.2; ⟨o, e2 o a, r⟩⟩
  | false => exact ⟨c.1.at e1, c.2.at e2⟩
theorem Cr.step {tp : Bool} {i l : Addr} {k : Nat} {xs : Array Value} {x : Value} {Q : Value → Shared → Prop} (c : Cr tp s.heap i l k xs) (n : l ≠ i) (hx : xs[k]? = some x)
    (hQ : ∀ h', Cr tp h' i l (k + 1) xs → Heap.SameBut i s.heap h' → Q x { s with heap := h' }) : wpAny (model prog w) A (Builtin.SmallTypes.nextOf (.ref i)) Q E s := by
  cases tp with
  | true => exact RZ.nextOf_tuple_item c.1 c.2 hx fun h' a b => hQ h' ⟨a, c.2.extBut b.extBut n⟩ b
  | false => exact wpAny_nextOf_list_item c.1 c.2 hx fun h' a b => hQ h' ⟨a, c.2.extBut b.extBut n⟩ b
theorem Cr.stop {tp : Bool} {i l : Addr} {k : Nat} {xs : Array Value} {Q : Value → Shared → Prop} (hh : A.handled = none) (c : Cr tp s.heap i l k xs) (hx : xs[k]? = none)
    (hE : ∀ h' e, Heap.ExtBut i s.heap h' → (∃ o, h'.get? e = some o ∧ o.cls = .type "StopIteration") → E (.ref e) { s with heap := h' }) : wpAny (model prog w) A (Builtin.SmallTypes.nextOf (.ref i)) Q E s := by
  cases tp with
  | true => exact RZ.nextOf_tuple_end hh c.1 c.2 hx hE
  | false => exact wpAny_nextOf_list_end hh c.1 c.2 hx hE

variable {z TI TO i1 i2 l1 l2 : Addr} {k1 k2 : Nat} {xs ys : Array Value} {x y a b : Value} {t1 t2 : Bool}
/-- one turn: both cursors go on -/
theorem two_go {Q : Value → Shared → Prop} (D : ZipApart z TI TO i1 i2 l1 l2) (hz : IsZip s.heap z TI TO .none) (hTI : IsPair s.heap TI (.ref i1) (.ref i2)) (hTO : IsPair s.heap TO a b) (c1 : Cr t1 s.heap i1 l1 k1 xs) (c2 : Cr t2 s.heap i2 l2 k2 ys) (hx : xs[k1]? = some x) (hy : ys[k2]? = some y)
    (hQ : ∀ h', IsZip h' z TI TO (rawInt s.heap.objs.size) → IsPair h' TO x y → Cr t1 h' i1 l1 (k1 + 1) xs → Cr t2 h' i2 l2 (k2 + 1) ys → IsPair h' s.heap.objs.size x y → h'.objs.size = s.heap.objs.size + 1 → (∀ c o, c ≠ z → c ≠ TO → c ≠ i1 → c ≠ i2 → s.heap.get? c = some o → h'.get? c = some o) → Q (.ref s.heap.objs.size) { s with heap := h' }) :
    wpAny (model prog w) A (Builtin.«zip.__next__» ⟨[.ref z], []⟩) (fun fin s' => ∃ v, fin = .done (.ret v) ∧ Q v s') E s := by
  show wpAny _ _ (field (.ref z) 2 >>= _) _ _ _
  refine wpAny_bind (wpAny_field hz rfl (x := .bool false) rfl (wpAny_bind (wpAny_field hz rfl (x := .ref TI) rfl (wpAny_bind (wpAny_seqItems hTI rfl (wpAny_bind ?_))))))
  unfold Builtin.SmallTypes.ownedTupleIsFree
  refine wpAny_bind (wpAny_field hz rfl (x := .none) rfl (wpAny_pure ?_)); simp only [if_true]
  refine wpAny_bind (wpAny_rule (wpAny_bind (wpAny_field hz rfl (x := .ref TO) rfl (wpAny_bind (wpAny_setField_rec hz (by simp) fun ha za sa => wpAny_bind ?_)))))
  have za' : IsZip ha z TI TO .ellipsis := za
  simp only [List.zipIdx_cons, List.zipIdx_nil, List.forIn_cons, List.forIn_nil]
  refine wpAny_bind (wpAny_bind (wpAny_onRaise (wpAny_bind (Cr.step (c1.ext sa.extBut D.i1z D.l1z) D.l1i1 hx fun hb c1b sb => wpAny_pure ?_))))
  have tob : IsPair hb TO a b := sb.extBut _ _ D.TOi1 (sa.extBut _ _ D.TOz hTO)
  refine wpAny_bind (wpAny_seqItems tob rfl (wpAny_bind (wpAny_updateSeq_pair tob fun hc toc sc => wpAny_bind (wpAny_letGo (wpAny_pure ?_)))))
  have toc' : IsPair hc TO x b := toc
  have c2c : Cr t2 hc i2 l2 k2 ys := ((c2.ext sa.extBut D.i2z D.l2z).ext sb.extBut D.i12.symm D.l2i1).ext sc.extBut D.TOi2.symm D.l2TO
  refine wpAny_bind (wpAny_bind (wpAny_onRaise (wpAny_bind (Cr.step c2c D.l2i2 hy fun hd c2d sd => wpAny_pure ?_))))
  have tod : IsPair hd TO x b := sd.extBut _ _ D.TOi2 toc'
  refine wpAny_bind (wpAny_seqItems tod rfl (wpAny_bind (wpAny_updateSeq_pair tod fun he toe se => wpAny_bind (wpAny_letGo (wpAny_pure (wpAny_pure ?_))))))
  have toe' : IsPair he TO x y := toe
  refine wpAny_bind (wpAny_seqItems toe' rfl (wpAny_bind (wpAny_newTuple ?_)))
  have size : he.objs.size = s.heap.objs.size := by rw [se.1, sd.1, sc.1, sb.1, sa.1]
  have kept : ∀ c o, c ≠ z → c ≠ TO → c ≠ i1 → c ≠ i2 → s.heap.get? c = some o → he.get? c = some o := by
    intro c o n1 n2 n3 n4 e
    exact se.extBut _ _ n2 (sd.extBut _ _ n4 (sc.extBut _ _ n2 (sb.extBut _ _ n3 (sa.extBut _ _ n1 e))))
  have ze : IsZip he z TI TO .ellipsis := se.extBut _ _ D.TOz.symm (sd.extBut _ _ D.i2z.symm (sc.extBut _ _ D.TOz.symm (sb.extBut _ _ D.i1z.symm za')))
  have c1e : Cr t1 he i1 l1 (k1 + 1) xs := ((c1b.ext sc.extBut D.TOi1.symm D.l1TO).ext sd.extBut D.i12 D.l1i2).ext se.extBut D.TOi1.symm D.l1TO
  have c2e : Cr t2 he i2 l2 (k2 + 1) ys := c2d.ext se.extBut D.TOi2.symm D.l2TO
  have zl : z < he.objs.size := Heap.lt_size ze
  show wpAny _ _ (Builtin.SmallTypes.ownedTupleHandOut (.ref z) (.ref he.objs.size) >>= _) _ _ _
  unfold Builtin.SmallTypes.ownedTupleHandOut
  have zf : IsZip (he.push { cls := .type "tuple", data := .seq #[x, y] }) z TI TO .ellipsis := Heap.get?_push_of_some _ ze
  refine wpAny_bind (wpAny_bind (wpAny_setField_rec zf (by simp) fun hg zg sg => ?_))
  have zg' : IsZip hg z TI TO (rawInt he.objs.size) := zg
  refine wpAny_setField_rec zg' (by simp) fun hi zi si => wpAny_pure ⟨_, rfl, ?_⟩
  have zi' : IsZip hi z TI TO (rawInt he.objs.size) := zi
  have up : ∀ c o, c ≠ z → he.get? c = some o → hi.get? c = some o := fun c o n e => si.extBut _ _ n (sg.extBut _ _ n (Heap.get?_push_of_some _ e))
  have tp : IsPair hi he.objs.size x y := si.extBut _ _ (Nat.ne_of_gt zl) (sg.extBut _ _ (Nat.ne_of_gt zl) (Heap.get?_push_size _ rfl))
  have sz : hi.objs.size = he.objs.size + 1 := by rw [si.1, sg.1, Heap.size_push]
  show Q (.ref he.objs.size) _
  rw [size] at zi' tp sz ⊢
  exact hQ hi zi' (up _ _ D.TOz toe') (c1e.at_ (fun o e => up _ o D.i1z e) fun o e => up _ o D.l1z e) (c2e.at_ (fun o e => up _ o D.i2z e) fun o e => up _ o D.l2z e) tp sz fun c o n1 n2 n3 n4 e => up c o n1 (kept c o n1 n2 n3 n4 e)
/-- the end: one of them has no more -/
theorem two_stop {Q : Fin → Shared → Prop} (hh : A.handled = none) (D : ZipApart z TI TO i1 i2 l1 l2) (hz : IsZip s.heap z TI TO .none) (hTI : IsPair s.heap TI (.ref i1) (.ref i2)) (hTO : IsPair s.heap TO a b) (c1 : Cr t1 s.heap i1 l1 k1 xs) (c2 : Cr t2 s.heap i2 l2 k2 ys) (hend : xs[k1]? = none ∨ ys[k2]? = none)
    (hE : ∀ h' e, (∀ c o, c ≠ z → c ≠ TO → c ≠ i1 → c ≠ i2 → s.heap.get? c = some o → h'.get? c = some o) → (∃ o, h'.get? e = some o ∧ o.cls = .type "StopIteration") → E (.ref e) { s with heap := h' }) :
    wpAny (model prog w) A (Builtin.«zip.__next__» ⟨[.ref z], []⟩) Q E s := by
  show wpAny _ _ (field (.ref z) 2 >>= _) _ _ _
  refine wpAny_bind (wpAny_field hz rfl (x := .bool false) rfl (wpAny_bind (wpAny_field hz rfl (x := .ref TI) rfl (wpAny_bind (wpAny_seqItems hTI rfl (wpAny_bind ?_))))))
  unfold Builtin.SmallTypes.ownedTupleIsFree
  refine wpAny_bind (wpAny_field hz rfl (x := .none) rfl (wpAny_pure ?_)); simp only [if_true]
  refine wpAny_bind (wpAny_rule (wpAny_bind (wpAny_field hz rfl (x := .ref TO) rfl (wpAny_bind (wpAny_setField_rec hz (by simp) fun ha za sa => wpAny_bind ?_)))))
  have za' : IsZip ha z TI TO .ellipsis := za
  have fin : ∀ (hq : Heap) (e : Addr), IsZip hq z TI TO .ellipsis → (∃ o, hq.get? e = some o ∧ o.cls = .type "StopIteration") → e ≠ z := by
    rintro hq e zq ⟨o, e1, e2⟩ rfl
    rw [zq] at e1; cases e1; simp at e2
  simp only [List.zipIdx_cons, List.zipIdx_nil, List.forIn_cons, List.forIn_nil]
  have c1a := c1.ext sa.extBut D.i1z D.l1z
  rcases hx : xs[k1]? with _ | x
  · refine wpAny_bind (wpAny_bind (wpAny_onRaise (wpAny_bind (Cr.stop hh c1a hx fun hb e sb he => ?_))))
    have zb : IsZip hb z TI TO .ellipsis := sb _ _ D.i1z.symm za'
    have ez := fin hb e zb he
    obtain ⟨oe, e1, e2⟩ := he
    exact wpAny_setField_rec zb (by simp) fun hc _ sc => hE hc e (fun c o n1 _ n3 _ q => sc.extBut _ _ n1 (sb _ _ n3 (sa.extBut _ _ n1 q))) ⟨oe, sc.extBut _ _ ez e1, e2⟩
  · have hy : ys[k2]? = none := hend.elim (fun q => by rw [hx] at q; cases q) id
    refine wpAny_bind (wpAny_bind (wpAny_onRaise (wpAny_bind (Cr.step c1a D.l1i1 hx fun hb c1b sb => wpAny_pure ?_))))
    have tob : IsPair hb TO a b := sb.extBut _ _ D.TOi1 (sa.extBut _ _ D.TOz hTO)
    refine wpAny_bind (wpAny_seqItems tob rfl (wpAny_bind (wpAny_updateSeq_pair tob fun hc toc sc => wpAny_bind (wpAny_letGo (wpAny_pure ?_)))))
    have c2c : Cr t2 hc i2 l2 k2 ys := ((c2.ext sa.extBut D.i2z D.l2z).ext sb.extBut D.i12.symm D.l2i1).ext sc.extBut D.TOi2.symm D.l2TO
    refine wpAny_bind (wpAny_bind (wpAny_onRaise (wpAny_bind (Cr.stop hh c2c hy fun hd e sd he => ?_))))
    have zd : IsZip hd z TI TO .ellipsis := sd _ _ D.i2z.symm (sc.extBut _ _ D.TOz.symm (sb.extBut _ _ D.i1z.symm za'))
    have ez := fin hd e zd he
    obtain ⟨oe, e1, e2⟩ := he
    exact wpAny_setField_rec zd (by simp) fun hf _ sf => hE hf e (fun c o n1 n2 n3 n4 q => sf.extBut _ _ n1 (sd _ _ n4 (sc.extBut _ _ n2 (sb.extBut _ _ n3 (sa.extBut _ _ n1 q))))) ⟨oe, sf.extBut _ _ ez e1, e2⟩
theorem py_go {Q : Option Value → Shared → Prop} (D : ZipApart z TI TO i1 i2 l1 l2) (hz : IsZip s.heap z TI TO .none) (hTI : IsPair s.heap TI (.ref i1) (.ref i2)) (hTO : IsPair s.heap TO a b) (c1 : Cr t1 s.heap i1 l1 k1 xs) (c2 : Cr t2 s.heap i2 l2 k2 ys) (hx : xs[k1]? = some x) (hy : ys[k2]? = some y)
    (hQ : ∀ h', IsZip h' z TI TO (rawInt s.heap.objs.size) → IsPair h' TO x y → Cr t1 h' i1 l1 (k1 + 1) xs → Cr t2 h' i2 l2 (k2 + 1) ys → IsPair h' s.heap.objs.size x y → h'.objs.size = s.heap.objs.size + 1 → (∀ c o, c ≠ z → c ≠ TO → c ≠ i1 → c ≠ i2 → s.heap.get? c = some o → h'.get? c = some o) → Q (some (.ref s.heap.objs.size)) { s with heap := h' }) : wpAny (model prog w) A (pyNext (.ref z)) Q E s := by
  unfold pyNext
  exact wpAny_bind (wpAny_attempt (wpAny_callSpecial?_slot (name := Str.ofString "__next__") ⟨_, hz, rfl⟩ F.slot_zip_next (wpAny_call_entry F.slot_zip_next ⟨_, hz, rfl⟩ F.entry_zip_next (two_go D hz hTI hTO c1 c2 hx hy fun h' a1 a2 a3 a4 a5 a6 a7 => wpAny_pure (hQ h' a1 a2 a3 a4 a5 a6 a7)) (F.args_zip_next_1 _))))
theorem py_stop {Q : Option Value → Shared → Prop} (hh : A.handled = none) (D : ZipApart z TI TO i1 i2 l1 l2) (hz : IsZip s.heap z TI TO .none) (hTI : IsPair s.heap TI (.ref i1) (.ref i2)) (hTO : IsPair s.heap TO a b) (c1 : Cr t1 s.heap i1 l1 k1 xs) (c2 : Cr t2 s.heap i2 l2 k2 ys) (hend : xs[k1]? = none ∨ ys[k2]? = none)
    (hQ : ∀ h', (∀ c o, c ≠ z → c ≠ TO → c ≠ i1 → c ≠ i2 → s.heap.get? c = some o → h'.get? c = some o) → Q none { s with heap := h' }) : wpAny (model prog w) A (pyNext (.ref z)) Q E s := by
  unfold pyNext
  refine wpAny_bind (wpAny_attempt (wpAny_callSpecial?_slot (name := Str.ofString "__next__") ⟨_, hz, rfl⟩ F.slot_zip_next (wpAny_call_entry F.slot_zip_next ⟨_, hz, rfl⟩ F.entry_zip_next (two_stop hh D hz hTI hTO c1 c2 hend fun h' e hk he => ?_) (F.args_zip_next_1 _))))
  obtain ⟨o, e1, e2⟩ := he
  exact wpAny_bind (wpAny_isInstance (T := "StopIteration") (b := true) ⟨o, e1, e2⟩ isSubtype_stop (wpAny_pure (hQ _ hk)))
/-- the heap behind the making: two cursors, two tuples, the zip -/
def H5 (h : Heap) (l1 l2 : Addr) : Heap :=
  ((((h.push { cls := .type "tuple_iterator", data := .fields #[.ref l1, .int 0 0] }).push { cls := .type "list_iterator", data := .fields #[.ref l2, .int 0 0] }).push { cls := .type "tuple", data := .seq #[.ref h.objs.size, .ref (h.objs.size + 1)] }).push { cls := .type "tuple", data := .seq #[.none, .none] }).push
    { cls := .type "zip", data := .fields #[.none, .bool false, .bool false, .ref (h.objs.size + 2), .ref (h.objs.size + 3)] }
theorem new_ok (l1 l2 : Addr) (xs ys : Array Value) : Meets (Builtin.«zip.__new__» ⟨[.type "zip", .ref l1, .ref l2], []⟩) (fun _ R s => s.heap.IsTuple l1 xs ∧ s.heap.IsList l2 ys ∧ R (.ok (.ret (.ref (s.heap.objs.size + 4)))) { s with heap := H5 s.heap l1 l2 }) :=
  .of_wp fun prog w A R s h => by
    obtain ⟨hp, g, d, tk, os⟩ := s
    obtain ⟨p1, p2, h⟩ := h
    have hsub := sub_zip
    have q1 : Heap.IsTuple (Shared.heap ⟨hp, g, d, tk, os⟩) l1 xs := p1
    have q2 : Heap.IsList (Shared.heap ⟨hp.push { cls := .type "tuple_iterator", data := .fields #[.ref l1, .int 0 0] }, g, d, tk, os⟩) l2 ys := Heap.IsList.push p2 _
    wp_walk using wpAny_pyIter_tuple q1, wpAny_pyIter_list q2
    refine ⟨_, rfl, ?_⟩
    simp only [Heap.size_push]
    exact h
theorem call_mix {Q : Value → Shared → Prop} (hl1 : s.heap.IsTuple l1 xs) (hl2 : s.heap.IsList l2 ys)
    (h : ∀ h', IsZip h' (s.heap.objs.size + 4) (s.heap.objs.size + 2) (s.heap.objs.size + 3) .none → IsPair h' (s.heap.objs.size + 2) (.ref s.heap.objs.size) (.ref (s.heap.objs.size + 1)) → IsPair h' (s.heap.objs.size + 3) .none .none → h'.IsTupleIter s.heap.objs.size l1 0 → h'.IsListIter (s.heap.objs.size + 1) l2 0 → (∀ c o, s.heap.get? c = some o → h'.get? c = some o) → Q (.ref (s.heap.objs.size + 4)) { s with heap := h' }) :
    wpAny (model prog w) A (call (.type "zip") [.ref l1, .ref l2]) Q E s := by
  refine callType_new F.called_zip (by decide) (F.typeCall_zip_2 _ _) (F.newCall_zip_2 _ _) (fun obj => F.args_object_init_3 obj _ _) F.entry_zip_new (new_ok l1 l2 xs ys) ⟨hl1, hl2, ?_⟩
  have at_ : ∀ (h : Heap) (o : Obj) (n : Nat), o.isFreed = false → h.objs.size = n → (h.push o).get? n = some o := fun h o n f e => by subst e; exact Heap.get?_push_size _ f
  have g4 : (H5 s.heap l1 l2).get? (s.heap.objs.size + 4) = some { cls := .type "zip", data := .fields #[.none, .bool false, .bool false, .ref (s.heap.objs.size + 2), .ref (s.heap.objs.size + 3)] } := at_ _ _ _ rfl (by simp only [Heap.size_push])
  have g3 : (H5 s.heap l1 l2).get? (s.heap.objs.size + 3) = some { cls := .type "tuple", data := .seq #[.none, .none] } := Heap.get?_push_of_some _ (at_ _ _ _ rfl (by simp only [Heap.size_push]))
  have g2 : (H5 s.heap l1 l2).get? (s.heap.objs.size + 2) = some { cls := .type "tuple", data := .seq #[.ref s.heap.objs.size, .ref (s.heap.objs.size + 1)] } := Heap.get?_push_of_some _ (Heap.get?_push_of_some _ (at_ _ _ _ rfl (by simp only [Heap.size_push])))
  have g1 : (H5 s.heap l1 l2).get? (s.heap.objs.size + 1) = some { cls := .type "list_iterator", data := .fields #[.ref l2, .int 0 0] } := Heap.get?_push_of_some _ (Heap.get?_push_of_some _ (Heap.get?_push_of_some _ (at_ _ _ _ rfl (by simp only [Heap.size_push]))))
  have g0 : (H5 s.heap l1 l2).get? s.heap.objs.size = some { cls := .type "tuple_iterator", data := .fields #[.ref l1, .int 0 0] } := Heap.get?_push_of_some _ (Heap.get?_push_of_some _ (Heap.get?_push_of_some _ (Heap.get?_push_of_some _ (at_ _ _ _ rfl rfl))))
  exact ⟨⟨_, g4, rfl⟩, h _ g4 g2 g3 ⟨_, g0, rfl, rfl⟩ ⟨_, g1, rfl, rfl⟩ fun c o e => Heap.get?_push_of_some _ (Heap.get?_push_of_some _ (Heap.get?_push_of_some _ (Heap.get?_push_of_some _ (Heap.get?_push_of_some _ e))))⟩
end
/-- the turns: the tuple at a, the list at b, as they stand -/
def ItM (K : PySem.W.Frag) (a b : Addr) : It :=
  ⟨fun i H => ∃ (xs ys : List V) (x y : V), SqT K H a xs ∧ SqL K H b ys ∧ xs[i]? = some x ∧ ys[i]? = some y,
    fun i H v H' => ∃ T x y, v = .ref T ∧ H T = none ∧ H' = upd H T (.tup [x, y]) ∧ (∀ xs, SqT K H a xs → xs[i]? = some x) ∧ ∀ ys, SqL K H b ys → ys[i]? = some y,
    fun i H => ∃ xs ys : List V, SqT K H a xs ∧ SqL K H b ys ∧ (xs.length ≤ i ∨ ys.length ≤ i)⟩
/-- where the five objects of a zip stand -/
def Zs (z TI TO i1 i2 a b : Addr) (i : Nat) (h : Heap) : Prop := IsZip h z TI TO .none ∧ IsPair h TI (.ref i1) (.ref i2) ∧ (∃ x y, IsPair h TO x y) ∧ h.IsTupleIter i1 a i ∧ h.IsListIter i2 b i
theorem Zs.some_ {z TI TO i1 i2 a b : Addr} {i : Nat} {h : Heap} (q : Zs z TI TO i1 i2 a b i h) : ∀ c ∈ [z, TI, TO, i1, i2], ∃ o, h.get? c = some o ∧ ∀ v, o.data ≠ .cell v := by
  obtain ⟨q1, q2, ⟨x, y, q3⟩, ⟨o1, e1, _, d1⟩, ⟨o2, e2, _, d2⟩⟩ := q
  intro c hc
  simp only [List.mem_cons, List.not_mem_nil, or_false] at hc
  rcases hc with e | e | e | e | e <;> subst e
  · exact ⟨_, q1, fun v q => nomatch q⟩
  · exact ⟨_, q2, fun v q => nomatch q⟩
  · exact ⟨_, q3, fun v q => nomatch q⟩
  · exact ⟨o1, e1, fun v q => by rw [d1] at q; cases q⟩
  · exact ⟨o2, e2, fun v q => by rw [d2] at q; cases q⟩
theorem Zs.keep {z TI TO i1 i2 a b : Addr} {i : Nat} {h h' : Heap} (q : Zs z TI TO i1 i2 a b i h) (k : ∀ c ∈ [z, TI, TO, i1, i2], ∀ o, h.get? c = some o → h'.get? c = some o) : Zs z TI TO i1 i2 a b i h' := by
  obtain ⟨q1, q2, ⟨x, y, q3⟩, q4, q5⟩ := q
  exact ⟨k z (by simp) _ q1, k TI (by simp) _ q2, ⟨x, y, k TO (by simp) _ q3⟩, q4.at fun o e => k i1 (by simp) o e, q5.at fun o e => k i2 (by simp) o e⟩
theorem turn_mix {P : Program} {w : World} {K : PySem.W.Frag} {elts : List Expr} {kk : Nat} {tpos : Pos} {a b z TI TO i1 i2 : Addr} (D : ZipApart z TI TO i1 i2 a b) : Turn P w K (.Tuple elts kk tpos) (ItM K a b) [z, TI, TO, i1, i2] z (Zs z TI TO i1 i2 a b) where
  mem := List.mem_cons_self
  obj := fun i h q => q.some_
  keep := fun i h h' q k => q.keep k
  self := fun A i s Q E st h => wpAny_pyIter_zip st.1 h
  item := by
    rintro X rfl rfl rfl hc i pins s σ H E I hf ⟨hz, hTI, ⟨x0, y0, hTO⟩, h1, h2⟩ ⟨xs, ys, x, y, qx, qy, hx, hy⟩
    obtain ⟨vs1, rv1, p1, _⟩ := I.tuple qx
    obtain ⟨vs2, rv2, p2, _⟩ := I.list qy
    obtain ⟨u1, hu1, ru1⟩ := rv1.get hx
    obtain ⟨u2, hu2, ru2⟩ := rv2.get hy
    have zl : z < s.heap.objs.size := Heap.lt_size hz
    refine py_go (t1 := true) (t2 := false) D hz hTI hTO ⟨h1, p1⟩ ⟨h2, p2.isList⟩ (x := u1) (y := u2) (by simpa using hu1) (by simpa using hu2) fun h' z' to' c1' c2' hT _ hk => ⟨_, rfl, wpAny_letOwnedTupleGo_zip (s := { s with heap := h' }) z' fun h'' z'' sb => ?_⟩
    have tT : h''.get? s.heap.objs.size = some { cls := .type "tuple", data := .seq #[u1, u2] } := (sb.2 _ (Nat.ne_of_gt zl)).trans hT
    have ok : ObjOk X.prog X.w (upd H s.heap.objs.size (.tup [x, y])) h'' s.heap.objs.size (.tup [x, y]) := ⟨by show 2 ≤ sizeLine; decide, [u1, u2], .cons ru1 (.cons ru2 .nil), ⟨_, tT, rfl, _, rfl⟩⟩
    have J : Inv X pins σ (upd H s.heap.objs.size (.tup [x, y])) { s with heap := h'' } := I.turnedNew (t' := s.toks) (ch := [z, TI, TO, i1, i2]) (fun c o hb q => by
      simp only [List.mem_cons, List.not_mem_nil, or_false, not_or] at hb
      exact (sb.2 c hb.1).trans (hk c o hb.1 hb.2.2.1 hb.2.2.2.1 hb.2.2.2.2 q)) hf (Nat.le_refl _) ok
    refine ⟨.ref s.heap.objs.size, _, J, rfl, ⟨_, x, y, rfl, I.hok.fresh (Nat.le_refl _), rfl, fun l hl => by rw [I.tuple_inj hl qx]; exact hx, fun l hl => by rw [I.list_inj hl qy]; exact hy⟩, ⟨z'', (sb.2 _ D.TIz).trans (hk _ _ D.TIz D.TITO D.TIi1 D.TIi2 hTI), ⟨u1, u2, (sb.2 _ D.TOz).trans to'⟩, c1'.1.at fun o q => (sb.2 _ D.i1z).trans q, c2'.1.at fun o q => (sb.2 _ D.i2z).trans q⟩, fun c hc => ?_⟩
    obtain ⟨o, eo, _⟩ := Zs.some_ (i := i) ⟨hz, hTI, ⟨x0, y0, hTO⟩, h1, h2⟩ c hc
    rw [upd_ne (Nat.ne_of_lt (Heap.lt_size eo))]
    exact (hf c hc).1
  done := by
    rintro X rfl rfl rfl hc i pins s σ H E I hf ⟨hz, hTI, ⟨x0, y0, hTO⟩, h1, h2⟩ ⟨xs, ys, qx, qy, hend⟩
    obtain ⟨vs1, rv1, p1, _⟩ := I.tuple qx
    obtain ⟨vs2, rv2, p2, _⟩ := I.list qy
    have e1 := rv1.length
    have e2 := rv2.length
    refine py_stop (t1 := true) (t2 := false) (I.ok.hd hc) D hz hTI hTO ⟨h1, p1⟩ ⟨h2, p2.isList⟩ (hend.imp (fun q => by simp; omega) fun q => by simp; omega) fun h' hk => ⟨rfl, I.turnedL (t' := s.toks) (ch := [z, TI, TO, i1, i2]) (fun c o hb q => ?_) hf⟩
    simp only [List.mem_cons, List.not_mem_nil, or_false, not_or] at hb
    exact hk c o hb.1 hb.2.2.1 hb.2.2.2.1 hb.2.2.2.2 q
def iMix (K : PySem.W.Frag) (ta : TA) : TI := fun σ H R => ta σ H fun vs H1 => ∃ a b xs ys, vs = [.ref a, .ref b] ∧ SqT K H1 a xs ∧ SqL K H1 b ys ∧ R (ItM K a b) H1
theorem pi_mix {X : Cx} {e e2 : Expr} {ta : TA} {p pos tpos : Pos} {elts : List Expr} {kk : Nat} (hg : Gl X "zip") (hm : X.mg "zip" = none) (ha : PA X [e, e2] ta) (hs : starEach [e, e2] X.env = (false, eval e X.env) :: starEach [e2] X.env) (hpl : (backTo pos (starEach [e2] X.env)).any (·.1) = false) :
    PI X (.Tuple elts kk tpos) (.Call (.Name "zip" p) [e, e2] [] pos) (iMix X.K ta) := by
  refine ⟨fun pins s σ H R I h => Call_ (ld_blt I hg hm PyProof.Rows.boot_zip (PyProof.Rows.callWith_type1 (thn (ha.run pos pins s σ H _ I h) fun us s1 ⟨vs, H1, I1, r1, q1⟩ => ?_) hs hpl))⟩
  obtain ⟨a, b, xs, ys, rfl, qx, qy, q⟩ := q1
  obtain ⟨vs1, rv1, p1, _⟩ := I1.tuple qx
  obtain ⟨vs2, rv2, p2, _⟩ := I1.list qy
  cases r1 with
  | cons ra rr =>
    cases rr with
    | cons rb rr =>
      cases rr; cases ra; cases rb
      obtain ⟨o1, ho1, _⟩ := id p1
      refine call_mix (show s1.heap.IsTuple a vs1.toArray from p1) p2.isList fun h' hz hTI hTO h1 h2 hk => wpAny_pyIter_zip hz ?_
      refine ⟨s1.heap.objs.size + 4, [s1.heap.objs.size + 4, s1.heap.objs.size + 2, s1.heap.objs.size + 3, s1.heap.objs.size, s1.heap.objs.size + 1], _, _, H1, rfl, I1.kept (t' := s1.toks) hk, turn_mix (PySem.W.ktu_apart s1.heap.objs.size a b (Heap.lt_size ho1) p2.lt), ⟨hz, hTI, ⟨_, _, hTO⟩, h1, h2⟩, fun c hc => ?_, q⟩
      have le : s1.heap.objs.size ≤ c := by
        simp only [List.mem_cons, List.not_mem_nil, or_false] at hc
        rcases hc with e | e | e | e | e
        all_goals (rw [e]; first | exact Nat.le_add_right _ _ | exact Nat.le_refl _)
      exact I1.fpOk le (I1.hok.fresh le)
end EvZip
end
section
set_option maxRecDepth 100000
set_option maxHeartbeats 2000000
/-! EvM3: enumerate of a tuple; of a list or a tuple. -/
namespace EvEnm
open PySem PySem.Spec PyProof.Rows L2
/-- the pieces behind enumerate(t) -/
def O1 (t : Addr) : Obj := { cls := .type "tuple_iterator", data := .fields #[.ref t, .int 0 0] }
def O2 (i : Addr) : Obj := { cls := .type "enumerate", data := .fields #[.none, .bool false, .ref i, rawInt 0, .none, .none] }
theorem new_tup (t : Addr) (xs : Array Value) : Meets (Builtin.«enumerate.__new__» ⟨[.type "enumerate", .ref t], []⟩) (fun _ R s => s.heap.IsTuple t xs ∧ R (.ok (.ret (.ref (s.heap.objs.size + 1)))) { s with heap := (s.heap.push (O1 t)).push (O2 s.heap.objs.size) }) :=
  .of_wp fun prog w A R s h => by
    obtain ⟨hp, g, d, tk, os⟩ := s
    obtain ⟨⟨o, ho, hc, n, hd⟩, h⟩ := h
    obtain ⟨oc, od, dt, sl⟩ := o
    have hc' : oc = .type "tuple" := hc
    have hd' : dt = .seq xs n := hd
    subst hc' hd'
    have hsub := sub_enumerate
    have e1 : (hp.push (O1 t)).objs.size = hp.objs.size + 1 := Heap.size_push ..
    have ho' : hp.get? t = some { cls := .type "tuple", dict := od, data := .seq xs n, slots := sl } := ho
    have q : ∀ {A' : Around} {E : Value → Shared → Prop} {Q : Value → Shared → Prop}, Q (.ref hp.objs.size) ⟨hp.push (O1 t), g, d, tk, os⟩ → wpAny (model prog w) A' (pyIter (.ref t)) Q E ⟨hp, g, d, tk, os⟩ := fun z => wpAny_pyIter_tuple (items := xs) ⟨_, ho', rfl, n, rfl⟩ z
    wp_walk using wpAny_loadPart' ho'
    refine wpAny_stack_any fun st => wpAny_pure ?_
    split
    · rename_i c _ _ _ _ _
      cases (c == Value.type "enumerate") <;> (wp_walk using wpAny_loadPart' ho', q; refine ⟨_, rfl, ?_⟩; rw [← e1] at h; exact h)
    · wp_walk using wpAny_loadPart' ho', q
      refine ⟨_, rfl, ?_⟩
      rw [← e1] at h
      exact h
section
variable {prog : Program} {w : World} {A : Around} {E : Value → Shared → Prop} {s : Shared}
theorem call_tup {t : Addr} {xs : Array Value} {Q : Value → Shared → Prop} (hT : s.heap.IsTuple t xs)
    (h : ∀ h', IsEnum h' (s.heap.objs.size + 1) s.heap.objs.size 0 .none → h'.IsTupleIter s.heap.objs.size t 0 → (∀ b o, s.heap.get? b = some o → h'.get? b = some o) → Q (.ref (s.heap.objs.size + 1)) { s with heap := h' }) : wpAny (model prog w) A (call (.type "enumerate") [.ref t]) Q E s := by
  refine callType_new F.called_enumerate (by decide) (F.typeCall_enumerate_1 _) (F.newCall_enumerate_1 _) (fun obj => F.args_object_init_2 obj _) F.entry_enumerate_new (new_tup t xs) ⟨hT, ?_⟩
  have z : (s.heap.push (O1 t)).objs.size = s.heap.objs.size + 1 := Heap.size_push ..
  have g1 : ((s.heap.push (O1 t)).push (O2 s.heap.objs.size)).get? (s.heap.objs.size + 1) = some (O2 s.heap.objs.size) := by rw [← z]; exact Heap.get?_push_size _ rfl
  have g0 : ((s.heap.push (O1 t)).push (O2 s.heap.objs.size)).get? s.heap.objs.size = some (O1 t) := Heap.get?_push_of_some _ (Heap.get?_push_size _ rfl)
  exact ⟨⟨_, g1, rfl⟩, h _ g1 ⟨_, g0, rfl, rfl⟩ fun b o e => Heap.get?_push_of_some _ (Heap.get?_push_of_some _ e)⟩
end
/-- the tuple at a, each item in a new pair with its number -/
def IteT (K : PySem.W.Frag) (a : Addr) : It :=
  ⟨fun i H => ∃ (xs : List V) (x : V), SqT K H a xs ∧ xs[i]? = some x, fun i H v H' => ∃ T x, v = .ref T ∧ H T = none ∧ H' = upd H T (.tup [.int (i : Nat), x]) ∧ ∀ xs, SqT K H a xs → xs[i]? = some x, fun i H => ∃ xs : List V, SqT K H a xs ∧ xs.length = i⟩
def Es (a e it : Addr) (i : Nat) (h : Heap) : Prop := (∃ old, IsEnum h e it ((i : Nat) : Int) old) ∧ h.IsTupleIter it a i ∧ e ≠ it
theorem Es.two {a e it : Addr} {i : Nat} {h : Heap} (q : Es a e it i h) : ∀ b ∈ [e, it], ∃ o, h.get? b = some o ∧ ∀ v, o.data ≠ .cell v := by
  obtain ⟨⟨old, q1⟩, ⟨o, q2, _, q3⟩, _⟩ := q
  intro b hb
  simp only [List.mem_cons, List.not_mem_nil, or_false] at hb
  rcases hb with rfl | rfl
  · exact ⟨_, q1, fun v z => nomatch z⟩
  · exact ⟨o, q2, fun v z => by rw [q3] at z; cases z⟩
/-- a tuple is neither of them -/
theorem Es.apart {a e it : Addr} {i : Nat} {h : Heap} {xs : Array Value} (q : Es a e it i h) (hT : h.IsTuple a xs) : e ≠ a ∧ a ≠ it := by
  obtain ⟨⟨old, q1⟩, ⟨o, q2, _, q3⟩, _⟩ := q
  obtain ⟨ot, t1, _, n, t2⟩ := hT
  refine ⟨fun z => ?_, fun z => ?_⟩
  · have q1' : h.get? e = some _ := q1
    rw [z, t1] at q1'; cases q1'; cases t2
  · rw [← z, t1] at q2; cases q2; rw [t2] at q3; cases q3
theorem turn_tup {P : Program} {w : World} {K : PySem.W.Frag} {elts : List Expr} {kk : Nat} {tpos : Pos} (a e it : Addr) : Turn P w K (.Tuple elts kk tpos) (IteT K a) [e, it] e (Es a e it) where
  mem := List.mem_cons_self
  obj := fun i h st => st.two
  keep := fun i h h' st k => let ⟨⟨old, q1⟩, q2, q3⟩ := st; ⟨⟨old, k e (by simp) _ q1⟩, q2.at fun o q => k it (by simp) o q, q3⟩
  self := fun A i s Q E st h => let ⟨⟨_, q1⟩, _⟩ := st; wpAny_pyIter_enum q1 h
  item := by
    rintro X rfl rfl rfl hc i pins s σ H E I hf st ⟨xs, x, hq, hx⟩
    obtain ⟨vs, rv, p, _⟩ := I.tuple hq
    obtain ⟨u, hu, ru⟩ := rv.get hx
    obtain ⟨nea, nia⟩ := st.apart p
    obtain ⟨⟨old, he⟩, hit, hne⟩ := st
    have el : e < s.heap.objs.size := Heap.lt_size he
    have sz : i < vs.toArray.size := by have := rv.length; have := (List.getElem?_eq_some_iff.mp hx).1; simp; omega
    refine wpAny_pyNext_enum_itemC (Draws.tuple (A := X.A.in1) (I.ok.hd hc) it a nia _) he ⟨hit, p⟩ sz hne (by simp [hne, nea]) fun x2 h' tk hP2 ho hst' hT _ hk => ?_
    have e2 : u = x2 := by
      have z : vs[i]? = some x2 := by simpa using hP2
      rw [hu] at z; cases z; rfl
    subst e2
    refine ⟨_, rfl, wpAny_letOwnedTupleGo_enum (s := { s with heap := h', toks := tk + 1 }) ho fun h'' he' sb => ?_⟩
    have hT2 : h''.get? s.heap.objs.size = some { cls := .type "tuple", data := .seq #[.int ((i : Nat) : Int) tk, u] } := (sb.2 _ (Nat.ne_of_gt el)).trans hT
    have ok : ObjOk X.prog X.w (upd H s.heap.objs.size (.tup [.int ((i : Nat) : Int), x])) h'' s.heap.objs.size (.tup [.int ((i : Nat) : Int), x]) := ⟨by show 2 ≤ sizeLine; decide, [.int ((i : Nat) : Int) tk, u], .cons ⟨_, rfl⟩ (.cons ru .nil), ⟨_, hT2, rfl, _, rfl⟩⟩
    have J : Inv X pins σ (upd H s.heap.objs.size (.tup [.int ((i : Nat) : Int), x])) { s with heap := h'', toks := tk + 1 } := I.turnedNew (ch := [e, it]) (fun b ob hb q => by
      simp only [List.mem_cons, List.not_mem_nil, or_false, not_or] at hb
      exact (sb.2 b hb.1).trans (hk b ob hb.1 hb.2 q)) hf (Nat.le_refl _) ok
    refine ⟨.ref s.heap.objs.size, _, J, rfl, ⟨_, x, rfl, I.hok.fresh (Nat.le_refl _), rfl, fun ys hy => by rw [I.tuple_inj hy hq]; exact hx⟩, ⟨⟨u, ?_⟩, hst'.1.at fun o q => (sb.2 it (Ne.symm hne)).trans q, hne⟩, fun b hb => ?_⟩
    · have e1 : ((i + 1 : Nat) : Int) = (i : Int) + 1 := by omega
      rw [e1]; exact he'
    · obtain ⟨o, eo, _⟩ := Es.two (a := a) (i := i) ⟨⟨old, he⟩, hit, hne⟩ b hb
      rw [upd_ne (Nat.ne_of_lt (Heap.lt_size eo))]
      exact (hf b hb).1
  done := by
    rintro X rfl rfl rfl hc i pins s σ H E I hf st ⟨xs, hq, hx⟩
    obtain ⟨vs, rv, p, _⟩ := I.tuple hq
    obtain ⟨nea, nia⟩ := st.apart p
    obtain ⟨⟨old, he⟩, hit, hne⟩ := st
    obtain ⟨f0, f1, f2, f3, f4, f5⟩ := hf it (by simp)
    have hn : vs.toArray.size = i := by have := rv.length; simp; omega
    exact wpAny_pyNext_enum_endD (Draws.tuple (A := X.A.in1) (I.ok.hd hc) it a nia vs.toArray) he ⟨by rw [hn]; exact hit, p⟩ fun h' eb => ⟨rfl, I.turned (t' := s.toks) (fun b o hb q => eb b o hb q) f0 f1 f3 f4 f5⟩
/-- enumerate of a list or a tuple -/
def iEnmA (K : PySem.W.Frag) (ta : TA) : TI := fun σ H R => ta σ H fun vs H1 => ∃ a xs, vs = [.ref a] ∧ ((SqL K H1 a xs ∧ R (Ite K a) H1) ∨ (SqT K H1 a xs ∧ R (IteT K a) H1))
theorem pi_enmA {X : Cx} {e : Expr} {ta : TA} {p pos tpos : Pos} {elts : List Expr} {kk : Nat} (hg : Gl X "enumerate") (hm : X.mg "enumerate" = none) (ha : PA X [e] ta) (hs : starEach [e] X.env = [(false, eval e X.env)]) : PI X (.Tuple elts kk tpos) (.Call (.Name "enumerate" p) [e] [] pos) (iEnmA X.K ta) := by
  refine ⟨fun pins s σ H R I h => Call_ (ld_blt I hg hm boot_enumerate (PyProof.Rows.callWith_type1 (thn (ha.run pos pins s σ H _ I h) fun us s1 ⟨vs, H1, I1, r1, q1⟩ => ?_) hs rfl))⟩
  obtain ⟨a, xs, rfl, q1⟩ := q1
  have fr : ∀ b ∈ [s1.heap.objs.size + 1, s1.heap.objs.size], FpOk X pins H1 b := fun b hb => by
    have le : s1.heap.objs.size ≤ b := by
      simp only [List.mem_cons, List.not_mem_nil, or_false] at hb
      rcases hb with rfl | rfl
      · exact Nat.le_add_right _ _
      · exact Nat.le_refl _
    exact I1.fpOk le (I1.hok.fresh le)
  cases r1 with
  | cons r rr =>
    cases rr; cases r
    rcases q1 with ⟨hq, q⟩ | ⟨hq, q⟩
    · obtain ⟨vs, rv, p', _⟩ := I1.list hq
      exact call_enumerate_list p'.isList fun h' he hit _ hk => wpAny_pyIter_enum he ⟨s1.heap.objs.size + 1, [s1.heap.objs.size + 1, s1.heap.objs.size], _, _, H1, rfl, I1.kept (t' := s1.toks) hk, turn_enum a (s1.heap.objs.size + 1) s1.heap.objs.size, ⟨⟨.none, he⟩, hit, Nat.succ_ne_self _⟩, fr, q⟩
    · obtain ⟨vs, rv, p', _⟩ := I1.tuple hq
      exact call_tup p' fun h' he hit hk => wpAny_pyIter_enum he ⟨s1.heap.objs.size + 1, [s1.heap.objs.size + 1, s1.heap.objs.size], _, _, H1, rfl, I1.kept (t' := s1.toks) hk, turn_tup a (s1.heap.objs.size + 1) s1.heap.objs.size, ⟨⟨.none, he⟩, hit, Nat.succ_ne_self _⟩, fr, q⟩
end EvEnm
end
section
set_option maxRecDepth 100000
/-! EvM: iterators by reading; list comprehensions. -/
namespace Ev
open PySem PySem.Spec PyProof.Rows L2

/-- no exception is wanted -/
def F0 : XK := fun _ _ _ => False
section
variable (P : Program) (w : World) (K : PySem.W.Frag) (G : Ctx) (E : XK)
def PostI (Z : Addr → Prop) (H : Hp) (mm : List Addr) (R : It → Hp → Prop) : Ev.R Ev.Its → Prop
  | .ok its h => ∀ J H' mm', Ext H mm H' mm' → HRp P w K Z H' mm' h → Wlk P w K Z H' mm' h its J → R J H'
  | .exc c u h => ∀ x d H' mm', Ext H mm H' mm' → HRp P w K Z H' mm' h → H' d = some (.xd [(excF c, x)]) → Fz Z mm' d → Rp P w K Z H' mm' u x → E (.ref (He.ga K (excC c))) (some d) H'
  | .stk => False
def rdI (c : CI) : TI := fun σ H R => ∃ Z ρ ph mm, SRp P w K Z H mm ρ σ ∧ HRp P w K Z H mm ph ∧ PostI P w K E Z H mm R (evI G c ρ ph)
end
section
variable {P : Program} {w : World} {K : PySem.W.Frag} {E : XK} {Z : Addr → Prop} {H H1 : Hp} {mm m1 : List Addr} {R : It → Hp → Prop}
theorem PostI.ext {r : Ev.R Ev.Its} (h : PostI P w K E Z H mm R r) (e : Ext H mm H1 m1) : PostI P w K E Z H1 m1 R r := by
  cases r with
  | ok v ph => exact fun x H' mm' e' => h x H' mm' (e.trans e')
  | exc c u ph => exact fun x d H' mm' e' => h x d H' mm' (e.trans e')
  | stk => exact h
/-- an expression ahead of the iterator -/
theorem PostI.bindE {r : Ev.R PV} {f : PV → PH → Ev.R Ev.Its} (h : PostI P w K E Z H mm R (r.bind f)) :
    PostE P w K Z E H mm (fun x H' => ∃ v ph mm', r = .ok v ph ∧ Ext H mm H' mm' ∧ HRp P w K Z H' mm' ph ∧ Rp P w K Z H' mm' v x ∧ PostI P w K E Z H' mm' R (f v ph)) r := by
  cases r with
  | ok v ph => exact fun x H' mm' e h1 h2 => ⟨v, ph, mm', rfl, e, h1, h2, PostI.ext h e⟩
  | exc c u ph => exact h
  | stk => exact h
theorem PostI.bindL {r : Ev.R (List PV)} {f : List PV → PH → Ev.R Ev.Its} (h : PostI P w K E Z H mm R (r.bind f)) :
    PostL P w K Z E H mm (fun x H' => ∃ v ph mm', r = .ok v ph ∧ Ext H mm H' mm' ∧ HRp P w K Z H' mm' ph ∧ Rps P w K Z H' mm' v x ∧ PostI P w K E Z H' mm' R (f v ph)) r := by
  cases r with
  | ok v ph => exact fun x H' mm' e h1 h2 => ⟨v, ph, mm', rfl, e, h1, h2, PostI.ext h e⟩
  | exc c u ph => exact h
  | stk => exact h
/-- the iterator as it stands -/
theorem PostI.at_ {its : Ev.Its} {ph : PH} {J : It} (h : PostI P w K E Z H mm R (.ok its ph)) (hr : HRp P w K Z H mm ph) (k : Wlk P w K Z H mm ph its J) : R J H := h J H mm (Ext.refl _ _) hr k
end
abbrev RI (X : Cx) (G : Ctx) (E : XK) (c : CI) : TI := rdI X.prog X.w X.K G E c
section
variable {X : Cx} {G : Ctx} {E : XK} {e e2 tg : Expr} {c c2 : CE}
theorem ri_val (he : PE X e (RE X G E c)) : PI X tg e (RI X G E (.val c)) := by
  refine ⟨fun pins s σ H R I ⟨Z, ρ, ph, mm, hs, hr, q⟩ => ?_⟩
  unfold evI at q
  cases er : evE G c ρ ph with
  | stk => rw [er] at q; exact q.elim
  | exc k u h =>
    have q0 := q.bindE
    exact (pi_list he).run pins s σ H R I ⟨Z, ρ, ph, mm, hs, hr, by rw [er] at q0 ⊢; exact q0⟩
  | ok v h1 =>
    have q0 : PostE X.prog X.w X.K Z E H mm (fun x H' => ∃ mm', Ext H mm H' mm' ∧ HRp X.prog X.w X.K Z H' mm' h1 ∧ Rp X.prog X.w X.K Z H' mm' v x ∧ PostI X.prog X.w X.K E Z H' mm' R (match itemsOf h1 v with
        | some xs => .ok ⟨xs, lockOf v, newOf h1 v⟩ h1
        | none => .stk)) (evE G c ρ ph) := q.bindE.mono fun x H' ⟨v', p', m', e1, e2, h1', h2, q2⟩ => by
      rw [er] at e1
      cases e1
      exact ⟨m', e2, h1', h2, q2⟩
    cases es : see h1 v with
    | none => exact (he.run pins s σ H _ I ⟨Z, ρ, ph, mm, hs, hr, q0.mono fun x H' ⟨m', e1, h1', r1, q1⟩ => by
        unfold itemsOf at q1; rw [es] at q1; exact q1.elim⟩ : wpAny _ _ _ (EP X pins σ fun _ _ => False) _ _) |> fun h => thn h fun u s1 ⟨_, _, _, _, z⟩ => z.elim
    | some u =>
      have dead : (itemsOf h1 v = none) → wpAny (model X.prog X.w) X.A (eval e X.env) (fun v s1 => wpAny (model X.prog X.w) X.A (pyIter v) (PIE X pins σ tg R) X.xe s1) X.xe s := fun hn =>
        thn (he.run pins s σ H (fun _ _ => False) I ⟨Z, ρ, ph, mm, hs, hr, q0.mono fun x H' ⟨m', e1, h1', r1, q1⟩ => by rw [hn] at q1; exact q1.elim⟩) fun u s1 ⟨_, _, _, _, z⟩ => z.elim
      cases u with
      | lst xs =>
        refine (pi_list he).run pins s σ H R I ⟨Z, ρ, ph, mm, hs, hr, q0.mono fun x H' ⟨m', e1, h1', r1, q1⟩ => ?_⟩
        have ei : itemsOf h1 v = some xs := by unfold itemsOf; rw [es]
        have el : lstOf h1 v = some xs := by unfold lstOf; rw [es]
        rw [ei] at q1
        obtain ⟨a, ex, hq, st⟩ := stL_lst h1' r1 el (fun n hn => hn) (fun n hn => hn)
        exact ⟨a, ex, hq, q1.at_ h1' (wlk_lst st)⟩
      | fls xs =>
        refine (pi_list he).run pins s σ H R I ⟨Z, ρ, ph, mm, hs, hr, q0.mono fun x H' ⟨m', e1, h1', r1, q1⟩ => ?_⟩
        have ei : itemsOf h1 v = some xs := by unfold itemsOf; rw [es]
        have el : lstOf h1 v = some xs := by unfold lstOf; rw [es]
        rw [ei] at q1
        obtain ⟨a, ex, hq, st⟩ := stL_lst h1' r1 el (fun n hn => hn) (fun n hn => hn)
        exact ⟨a, ex, hq, q1.at_ h1' (wlk_lst st)⟩
      | tup xs =>
        refine (pi_tup he).run pins s σ H R I ⟨Z, ρ, ph, mm, hs, hr, q0.mono fun x H' ⟨m', e1, h1', r1, q1⟩ => ?_⟩
        have ei : itemsOf h1 v = some xs := by unfold itemsOf; rw [es]
        rw [ei] at q1
        have ev := see_tup h1' r1 es
        subst ev
        obtain ⟨a, ex, hq, st⟩ := stT_tup r1
        exact ⟨a, ex, hq, q1.at_ h1' (wlk_tup st)⟩
      | ftp xs =>
        refine (pi_tup he).run pins s σ H R I ⟨Z, ρ, ph, mm, hs, hr, q0.mono fun x H' ⟨m', e1, h1', r1, q1⟩ => ?_⟩
        have ei : itemsOf h1 v = some xs := by unfold itemsOf; rw [es]
        rw [ei] at q1
        have ev := see_ftp h1' r1 es
        subst ev
        obtain ⟨a, ex, hq, st⟩ := stT_ftp r1
        exact ⟨a, ex, hq, q1.at_ h1' (wlk_tup st)⟩
      | str z =>
        refine (pi_str he).run pins s σ H R I ⟨Z, ρ, ph, mm, hs, hr, q0.mono fun x H' ⟨m', e1, h1', r1, q1⟩ => ?_⟩
        have ei : itemsOf h1 v = some (z.map fun c => .str [c]) := by unfold itemsOf; rw [es]
        rw [ei] at q1
        have ev := see_str h1' r1 es
        subst ev
        exact ⟨sT z, r1.str_, q1.at_ h1' wlk_str⟩
      | _ => exact dead (by unfold itemsOf; rw [es])
def lenL : CEs → Nat
  | .nil => 0
  | .cons _ es => lenL es + 1
theorem evL_len : ∀ {cs : CEs} {ρ : Env} {ph h : PH} {vs : List PV}, evL G cs ρ ph = .ok vs h → vs.length = lenL cs
  | .nil, _, _, _, _, e => by unfold evL at e; cases e; rfl
  | .cons c cs, ρ, ph, h, vs, e => by
    unfold evL at e
    cases e1 : evE G c ρ ph with
    | ok v h1 =>
      rw [e1] at e
      have e' : (evL G cs ρ h1).bind (fun vs h2 => .ok (v :: vs) h2) = .ok vs h := e
      cases e2 : evL G cs ρ h1 with
      | ok us h2 =>
        rw [e2] at e'
        cases e'
        rw [List.length_cons, evL_len e2]; rfl
      | exc _ _ _ => rw [e2] at e'; cases e'
      | stk => rw [e2] at e'; cases e'
    | exc _ _ _ => rw [e1] at e; cases e
    | stk => rw [e1] at e; cases e
theorem ri_rng1 {p pos : Pos} (hs : nst e = true) (hg : Gl X "range") (hm : X.mg "range" = none) (he : PE X e (RE X G E c)) : PI X tg (.Call (.Name "range" p) [e] [] pos) (RI X G E (.rng (.cons c .nil))) := by
  have hA : PA X [e] (RL X G E (.cons c .nil)) := rl_cons (star_cons hs) he rl_nil
  refine ⟨fun pins s σ H R I ⟨Z, ρ, ph, mm, hρ, hr, q⟩ => (pi_range1 hg hm hA (star_cons hs)).run pins s σ H R I ⟨Z, ρ, ph, mm, hρ, hr, ?_⟩⟩
  unfold evI at q
  refine q.bindL.mono fun xs H' ⟨vs, p1, m1, e0, e1, h1, r1, q1⟩ => ?_
  have hl := evL_len e0
  unfold rngop at q1
  split at q1
  · rename_i j
    split at q1
    · rename_i hj
      obtain ⟨y, rfl, ry⟩ := Rps.one r1
      have hj' := of_decide_eq_true hj
      exact ⟨j, by rw [ry.int_], by omega, by omega, q1.at_ h1 wlk_rng⟩
    · exact q1.elim
  · cases hl
  · exact q1.elim
theorem ri_rng2 {p pos : Pos} (hs : nst e = true) (hs2 : nst e2 = true) (hg : Gl X "range") (hm : X.mg "range" = none) (he : PE X e (RE X G E c)) (he2 : PE X e2 (RE X G E c2)) : PI X tg (.Call (.Name "range" p) [e, e2] [] pos) (RI X G E (.rng (.cons c (.cons c2 .nil)))) := by
  have hA : PA X [e, e2] (RL X G E (.cons c (.cons c2 .nil))) := rl_cons (star_cons hs) he (rl_cons (star_cons hs2) he2 rl_nil)
  refine ⟨fun pins s σ H R I ⟨Z, ρ, ph, mm, hρ, hr, q⟩ => (pi_range2 hg hm hA (by rw [star_cons hs, star_cons hs2]; rfl) (by rw [star_cons hs2]; rfl)).run pins s σ H R I ⟨Z, ρ, ph, mm, hρ, hr, ?_⟩⟩
  unfold evI at q
  refine q.bindL.mono fun xs H' ⟨vs, p1, m1, e0, e1, h1, r1, q1⟩ => ?_
  have hl := evL_len e0
  unfold rngop at q1
  split at q1
  · cases hl
  · rename_i i j
    split at q1
    · rename_i hj
      obtain ⟨y, z, rfl, ry, rz⟩ := Rps.two r1
      simp only [Bool.and_eq_true, decide_eq_true_eq] at hj
      exact ⟨i, j, by rw [ry.int_, rz.int_], ⟨by omega, by omega, by omega, by omega⟩, q1.at_ h1 wlk_rng⟩
    · exact q1.elim
  · exact q1.elim
/-- enumerate of a list or a tuple, from 0 -/
theorem wlk_enumT {P : Program} {w : World} {K : PySem.W.Frag} {Z : Addr → Prop} {H1 : Hp} {m1 : List Addr} {h1 : PH} {lk nl : List Nat} {xs : List PV} {a : Addr} (h : StT P w K Z H1 m1 h1 lk nl xs a) : Wlk P w K Z H1 m1 h1 ⟨enmT 0 xs, lk, nl⟩ (EvEnm.IteT K a) := fun Z' H' m' ph' i l => by
  obtain ⟨vs, hq, r⟩ := h Z' H' m' ph' l
  refine ⟨fun hi => ⟨vs, hq, by rw [← r.len]; simpa [enm_len] using hi⟩, fun v e => ?_⟩
  obtain ⟨u, e1, rfl⟩ := enm_get e
  obtain ⟨x, ex, rx⟩ := r.get e1
  refine ⟨⟨vs, x, hq, ex⟩, fun y H'' hy => ?_⟩
  obtain ⟨T, z, rfl, hT, rfl, hz⟩ := hy
  have hzv := hz vs hq
  rw [ex] at hzv; cases hzv
  rw [Int.zero_add]
  exact pair_laid l.hr hT (.int _) rx
theorem stT_tupOf {P : Program} {w : World} {K : PySem.W.Frag} {Z : Addr → Prop} {H1 : Hp} {m1 : List Addr} {h1 : PH} {lk nl : List Nat} {v : PV} {x : V} {xs : List PV} (r : Rp P w K Z H1 m1 v x) (e : tupOf v = some xs) : ∃ a, x = .ref a ∧ (∃ vs, SqT K H1 a vs) ∧ StT P w K Z H1 m1 h1 lk nl xs a := by
  cases v with
  | tup ys => cases e; exact stT_tup r
  | ftp ys => cases e; exact stT_ftp r
  | _ => cases e
theorem ri_enm {p pos tpos : Pos} {elts : List Expr} {kk : Nat} (hs : nst e = true) (hg : Gl X "enumerate") (hm : X.mg "enumerate" = none) (he : PE X e (RE X G E c)) : PI X (.Tuple elts kk tpos) (.Call (.Name "enumerate" p) [e] [] pos) (RI X G E (.enm c 0)) := by
  have hA : PA X [e] (RL X G E (.cons c .nil)) := rl_cons (star_cons hs) he rl_nil
  refine ⟨fun pins s σ H R I ⟨Z, ρ, ph, mm, hρ, hr, q⟩ => (EvEnm.pi_enmA hg hm hA (star_cons hs)).run pins s σ H R I ⟨Z, ρ, ph, mm, hρ, hr, ?_⟩⟩
  unfold evI at q
  unfold evL evL
  have q0 := q.bindE
  cases er : evE G c ρ ph with
  | stk => rw [er] at q; exact q.elim
  | exc k u h => rw [er] at q0; exact q0
  | ok v h1 =>
    rw [er] at q0
    intro xs H' m' e1 hr' rr
    obtain ⟨x, rfl, rx⟩ := Rps.one rr
    obtain ⟨v', h', m2, ev, e2, hr2, rx2, q1⟩ := q0 x H' m' e1 hr' rx
    cases ev
    unfold enmOp at q1
    split at q1
    · rename_i ys es
      obtain ⟨a, rfl, ⟨vs, hq⟩, st⟩ := stL_lst (lk := lockOf v) (nl := newOf h1 v) hr2 rx2 es (fun n hn => hn) (fun n hn => hn)
      exact ⟨a, vs, rfl, .inl ⟨hq, q1.at_ hr2 (wlk_enum st)⟩⟩
    · split at q1
      · rename_i ys es
        obtain ⟨a, rfl, ⟨vs, hq⟩, st⟩ := stT_tupOf (h1 := h1) (lk := []) (nl := []) rx2 es
        rw [if_pos rfl] at q1
        exact ⟨a, vs, rfl, .inr ⟨hq, q1.at_ hr2 (wlk_enumT st)⟩⟩
      · exact q1.elim
/-- zip of two lists, of two tuples -/
theorem evI_zip {ρ : Env} {ph : PH} : evI G (.zip c c2) ρ ph = (evL G (.cons c (.cons c2 .nil)) ρ ph).bind fun vs h2 => match vs with
    | [v, u] => zipOp v u h2
    | _ => .stk := by
  unfold evI evL evL evL
  cases evE G c ρ ph with
  | ok v h1 =>
    show (evE G c2 ρ h1).bind _ = (((evE G c2 ρ h1).bind fun v h1 => (Ev.R.ok [] h1).bind fun vs h2 => Ev.R.ok (v :: vs) h2).bind fun vs h2 => Ev.R.ok (v :: vs) h2).bind _
    cases evE G c2 ρ h1 <;> rfl
  | exc _ _ _ => rfl
  | stk => rfl
theorem ri_zip {p pos tpos : Pos} {elts : List Expr} {kk : Nat} (hs : nst e = true) (hs2 : nst e2 = true) (hg : Gl X "zip") (hm : X.mg "zip" = none) (he : PE X e (RE X G E c)) (he2 : PE X e2 (RE X G E c2)) : PI X (.Tuple elts kk tpos) (.Call (.Name "zip" p) [e, e2] [] pos) (RI X G E (.zip c c2)) := by
  have hA : PA X [e, e2] (RL X G E (.cons c (.cons c2 .nil))) := rl_cons (star_cons hs) he (rl_cons (star_cons hs2) he2 rl_nil)
  refine ⟨fun pins s σ H R I ⟨Z, ρ, ph, mm, hρ, hr, q⟩ => (RZ.pi_zipA hg hm hA (star_cons hs) (back_any (by simp [hs2]))).run pins s σ H R I ⟨Z, ρ, ph, mm, hρ, hr, ?_⟩⟩
  rw [evI_zip] at q
  refine q.bindL.mono fun xs H' ⟨vs, p1, m1, e0, e1, h1, r1, q1⟩ => ?_
  split at q1
  · rename_i v u
    obtain ⟨y, z, rfl, ry, rz⟩ := Rps.two r1
    unfold zipOp at q1
    split at q1
    · rename_i xs ys ex ey
      obtain ⟨a, rfl, ⟨us, hq⟩, st⟩ := stL_lst (lk := lockOf v ++ lockOf u) (nl := newOf p1 v ++ newOf p1 u) h1 ry ex (fun n hn => List.mem_append_left _ hn) (fun n hn => List.mem_append_left _ hn)
      obtain ⟨b, rfl, ⟨ws, hq2⟩, st2⟩ := stL_lst (lk := lockOf v ++ lockOf u) (nl := newOf p1 v ++ newOf p1 u) h1 rz ey (fun n hn => List.mem_append_right _ hn) (fun n hn => List.mem_append_right _ hn)
      exact ⟨a, b, us, ws, rfl, .inl ⟨hq, hq2, q1.at_ h1 (wlk_zipL st st2)⟩⟩
    · split at q1
      · rename_i xs ys ex ey
        obtain ⟨a, rfl, ⟨us, hq⟩, st⟩ := stT_tupOf (h1 := p1) (lk := lockOf v ++ lockOf u) (nl := newOf p1 v ++ newOf p1 u) ry ex
        obtain ⟨b, rfl, ⟨ws, hq2⟩, st2⟩ := stT_tupOf (h1 := p1) (lk := lockOf v ++ lockOf u) (nl := newOf p1 v ++ newOf p1 u) rz ey
        exact ⟨a, b, us, ws, rfl, .inr ⟨hq, hq2, q1.at_ h1 (wlk_zipT st st2)⟩⟩
      · exact q1.elim
  · exact q1.elim
theorem evI_zipM {ρ : Env} {ph : PH} : evI G (.zipM c c2) ρ ph = (evL G (.cons c (.cons c2 .nil)) ρ ph).bind fun vs h2 => match vs with
    | [v, u] => zipMop v u h2
    | _ => .stk := by
  unfold evI evL evL evL
  cases evE G c ρ ph with
  | ok v h1 =>
    show (evE G c2 ρ h1).bind _ = (((evE G c2 ρ h1).bind fun v h1 => (Ev.R.ok [] h1).bind fun vs h2 => Ev.R.ok (v :: vs) h2).bind fun vs h2 => Ev.R.ok (v :: vs) h2).bind _
    cases evE G c2 ρ h1 <;> rfl
  | exc _ _ _ => rfl
  | stk => rfl
theorem wlk_mix {P : Program} {w : World} {K : PySem.W.Frag} {Z : Addr → Prop} {H1 : Hp} {m1 : List Addr} {h1 : PH} {lk nl : List Nat} {xs ys : List PV} {a b : Addr} (h : StT P w K Z H1 m1 h1 lk nl xs a) (h' : StL P w K Z H1 m1 h1 lk nl ys b) : Wlk P w K Z H1 m1 h1 ⟨zipT xs ys, lk, nl⟩ (EvZip.ItM K a b) := fun Z' H' m' ph' i l => by
  obtain ⟨vs, hq, r⟩ := h Z' H' m' ph' l
  obtain ⟨us, hq', r'⟩ := h' Z' H' m' ph' l
  refine ⟨fun hi0 => have hi := Nat.le_of_eq hi0; ⟨vs, us, hq, hq', by
    have hi' : min xs.length ys.length ≤ i := by simpa [zip_len] using hi
    rw [← r.len, ← r'.len]; omega⟩, fun v e => ?_⟩
  obtain ⟨u1, u2, e1, e2, rfl⟩ := zip_get e
  obtain ⟨x, ex, rx⟩ := r.get e1
  obtain ⟨y, ey, ry⟩ := r'.get e2
  refine ⟨⟨vs, us, x, y, hq, hq', ex, ey⟩, fun z H'' hy => ?_⟩
  obtain ⟨T, z1, z2, rfl, hT, rfl, hz1, hz2⟩ := hy
  have t1 := hz1 vs hq
  have t2 := hz2 us hq'
  rw [ex] at t1; cases t1
  rw [ey] at t2; cases t2
  exact pair_laid l.hr hT rx ry
theorem ri_zipM {p pos tpos : Pos} {elts : List Expr} {kk : Nat} (hs : nst e = true) (hs2 : nst e2 = true) (hg : Gl X "zip") (hm : X.mg "zip" = none) (he : PE X e (RE X G E c)) (he2 : PE X e2 (RE X G E c2)) : PI X (.Tuple elts kk tpos) (.Call (.Name "zip" p) [e, e2] [] pos) (RI X G E (.zipM c c2)) := by
  have hA : PA X [e, e2] (RL X G E (.cons c (.cons c2 .nil))) := rl_cons (star_cons hs) he (rl_cons (star_cons hs2) he2 rl_nil)
  refine ⟨fun pins s σ H R I ⟨Z, ρ, ph, mm, hρ, hr, q⟩ => (EvZip.pi_mix hg hm hA (star_cons hs) (back_any (by simp [hs2]))).run pins s σ H R I ⟨Z, ρ, ph, mm, hρ, hr, ?_⟩⟩
  rw [evI_zipM] at q
  refine q.bindL.mono fun xs H' ⟨vs, p1, m1, e0, e1, h1, r1, q1⟩ => ?_
  split at q1
  · rename_i v u
    obtain ⟨y, z, rfl, ry, rz⟩ := Rps.two r1
    unfold zipMop at q1
    split at q1
    · rename_i xs ys ex ey
      obtain ⟨a, rfl, ⟨us, hq⟩, st⟩ := stT_tupOf (h1 := p1) (lk := lockOf u) (nl := newOf p1 u) ry ex
      obtain ⟨b, rfl, ⟨ws, hq2⟩, st2⟩ := stL_lst (lk := lockOf u) (nl := newOf p1 u) h1 rz ey (fun n hn => hn) (fun n hn => hn)
      exact ⟨a, b, us, ws, rfl, hq, hq2, q1.at_ h1 (wlk_mix st st2)⟩
    · exact q1.elim
  · exact q1.elim
end
end Ev
end
section
set_option maxRecDepth 100000
/-! EvN: list comprehensions. -/
namespace Ev
open PySem PySem.Spec PyProof.Rows L2

section
variable {P : Program} {w : World} {K : PySem.W.Frag} {E : XK} {Z Z' : Addr → Prop} {H H1 H' : Hp} {mm m1 m' : List Addr}
theorem SRp.wipe {ρ : Env} {σ : L2.St} (h : SRp P w K Z H mm ρ σ) : ∀ vs : List Nat, SRp P w K Z H mm (Ev.wipe ρ vs) (L2.wipe σ vs)
  | [] => h
  | v :: vs => (SRp.wipe h vs).unset v none
/-- what is barred while a comprehension fills D -/
def bar (Z : Addr → Prop) (D : Addr) : Addr → Prop := fun a => Z a ∨ a = D
/-- a new thing is laid that stays barred -/
theorem HRp.hide {ph : PH} {D : Addr} {o : HO} (h : HRp P w K Z H mm ph) (hD : H D = none) : HRp P w K (bar Z D) (upd H D o) mm ph := by
  have hk : Wk Z (bar Z D) H mm H mm := Wk.more fun a z => by
    rcases z with z | z
    · exact .inl z
    · exact .inr (z ▸ hD)
  refine h.wk (hk.trans (Ext.laid hD).wk) (fun a ha => upd_ne fun z => h.notIn hD (z ▸ ha)) fun a z => ?_
  rcases z with z | z
  · exact h.zsE (Ext.laid hD) a z
  · subst z
    exact ⟨⟨_, upd_same⟩, h.notIn hD⟩
/-- the barred thing is written -/
theorem HRp.fill {ph : PH} {D : Addr} {o : HO} (h : HRp P w K (bar Z D) H mm ph) : HRp P w K (bar Z D) (upd H D o) mm ph := by
  have hn : D ∉ mm := (h.zs D (.inr rfl)).2
  refine h.wk (Wk.hid (.inr rfl)) (fun a ha => upd_ne fun z => hn (z ▸ ha)) fun a z => ?_
  obtain ⟨⟨u, e⟩, n⟩ := h.zs a z
  by_cases hd : a = D
  · subst hd; exact ⟨⟨_, upd_same⟩, n⟩
  · exact ⟨⟨u, by rw [upd_ne hd]; exact e⟩, n⟩
theorem Ext.fill {D : Addr} {o : HO} (e : Ext H1 m1 H mm) (hD : H1 D = none) : Ext H1 m1 (upd H D o) mm := by
  have ne : ∀ a u, H1 a = some u → a ≠ D := fun a u h z => by rw [z, hD] at h; cases h
  refine ⟨fun a u n h => by rw [upd_ne (ne a u h)]; exact e.keep a u n h, fun a u h => ?_, fun a o u h => by rw [upd_ne (ne a _ h)]; exact e.frz a o u h, e.pre⟩
  obtain ⟨u', h'⟩ := e.there a u h
  exact ⟨u', by rw [upd_ne (ne a u h)]; exact h'⟩
/-- the barred list is shown as a value that never changes -/
theorem HRp.show_ {ph : PH} {D : Addr} (h : HRp P w K (bar Z D) H mm ph) : HRp P w K Z H mm ph :=
  h.wk (Wk.less fun a z => .inl z) (fun _ _ => rfl) fun a z => h.zs a (.inl z)
/-- .. or as an object of the evaluator's -/
theorem HRp.adopt {ph : PH} {D : Addr} {o : PO} (h : HRp P w K (bar Z D) H mm ph) (nz : ¬ Z D) (ho : OR P w K Z H (mm ++ [D]) o D) : HRp P w K Z H (mm ++ [D]) (ph ++ [o]) := by
  have hn : D ∉ mm := (h.zs D (.inr rfl)).2
  have hk : Wk (bar Z D) Z H mm H (mm ++ [D]) := Wk.swap (fun a f => ⟨fun z => by
    rcases List.mem_append.mp z with z | z
    · exact f.1 z
    · exact f.2 (.inr (List.mem_singleton.mp z)), fun z => f.2 (.inl z)⟩) fun n a e => by
    rw [List.getElem?_append_left (List.getElem?_eq_some_iff.mp e).1]; exact e
  refine ⟨by simp [h.len], ?_, fun n x a h1 h2 => ?_, fun a z => ⟨(h.zs a (.inl z)).1, fun q => ?_⟩⟩
  · rw [List.nodup_append]
    exact ⟨h.nd, by simp, fun a ha b hb z => by rw [List.mem_singleton.mp hb] at z; exact hn (z ▸ ha)⟩
  · by_cases hm : n < ph.length
    · rw [List.getElem?_append_left hm] at h1
      rw [List.getElem?_append_left (by rw [h.len]; exact hm)] at h2
      exact (h.ob n x a h1 h2).wk hk rfl
    · have e1 : n = ph.length := by
        have := (List.getElem?_eq_some_iff.mp h1).1
        simp at this; omega
      subst e1
      rw [List.getElem?_append_right (Nat.le_refl _)] at h1
      rw [← h.len, List.getElem?_append_right (Nat.le_refl _)] at h2
      simp at h1 h2
      rw [← h1, ← h2]; exact ho
  · rcases List.mem_append.mp q with q | q
    · exact (h.zs a (.inl z)).2 q
    · rw [List.mem_singleton.mp q] at z; exact nz z
theorem Wk.adopt {D : Addr} : Wk (bar Z D) Z H mm H (mm ++ [D]) := Wk.swap (fun a f => ⟨fun z => by
    rcases List.mem_append.mp z with z | z
    · exact f.1 z
    · exact f.2 (.inr (List.mem_singleton.mp z)), fun z => f.2 (.inl z)⟩) fun n a e => by
    rw [List.getElem?_append_left (List.getElem?_eq_some_iff.mp e).1]; exact e
theorem Ext.adopt {D : Addr} (e : Ext H1 m1 H mm) (hD : H1 D = none) : Ext H1 m1 H (mm ++ [D]) := by
  obtain ⟨ex, rfl, hx⟩ := e.pre
  refine ⟨e.keep, e.there, e.frz, ex ++ [D], by rw [List.append_assoc], fun a ha => ?_⟩
  rcases List.mem_append.mp ha with ha | ha
  · exact hx a ha
  · rw [List.mem_singleton.mp ha]; exact hD
/-- the list is done -/
theorem lc_done {mu : Bool} {acc : List PV} {vs : List V} {ph : PH} {D : Addr} {Q : VK} {nl : List Nat} (hD1 : H1 D = none) (nz : ¬ Z D) (e : Ext H1 m1 H mm) (h : HRp P w K (bar Z D) H mm ph) (hD : H D = some (.lst vs)) (r : Rps P w K (bar Z D) H mm acc vs)
    (q : PostE P w K Z E H1 m1 Q (newLst mu acc (unlockH ph nl))) : Q (.ref D) H := by
  have hn : D ∉ mm := (h.zs D (.inr rfl)).2
  have hu : HRp P w K (bar Z D) H mm (unlockH ph nl) := h.unlock
  unfold newLst at q
  cases mu with
  | true =>
    rw [if_pos rfl] at q
    refine q _ _ _ (e.adopt hD1) (hu.adopt nz (.lst hD (r.wk Wk.adopt))) (.ref ?_)
    rw [← hu.len]; simp
  | false =>
    rw [if_neg Bool.false_ne_true] at q
    exact q _ _ _ e hu.show_ (.lst hD ⟨hn, nz⟩ (r.wk (Wk.less fun a z => .inl z)))
end

theorem wipe_agree {σ σ' : L2.St} {vs : List Nat} (hl : σ'.length = σ.length) (h : ∀ j, j ∉ vs → σ'[j]? = σ[j]?) : L2.wipe σ' vs = L2.wipe σ vs := by
  have hl' : (L2.wipe σ' vs).length = (L2.wipe σ vs).length := by rw [wipe_length, wipe_length, hl]
  refine List.ext_getElem? fun j => ?_
  by_cases hj : j < (L2.wipe σ vs).length
  · by_cases hm : j ∈ vs
    · cases e1 : (L2.wipe σ vs)[j]? with
      | none => rw [List.getElem?_eq_none_iff] at e1; omega
      | some u1 =>
        cases e2 : (L2.wipe σ' vs)[j]? with
        | none => rw [List.getElem?_eq_none_iff] at e2; omega
        | some u2 =>
          cases u1 with
          | some x => exact absurd e1 (wipe_in hm x)
          | none =>
            cases u2 with
            | some x => exact absurd e2 (wipe_in hm x)
            | none => rfl
    · rw [wipe_out hm, wipe_out hm, h j hm]
  · rw [List.getElem?_eq_none (by omega), List.getElem?_eq_none (by omega)]
theorem wipe_set_self {σ : L2.St} {vs : List Nat} : L2.wipe (L2.wipe σ vs) vs = L2.wipe σ vs := wipe_agree (wipe_length _ _) fun _ hj => wipe_out hj
section
variable {X : Cx} {G : Ctx} {E : XK}
/-- a turn's result, from the whole -/
theorem turn_post {Z : Addr → Prop} {H1 : Hp} {m1 : List Addr} {Q : VK} {α : Type} {r : Ev.R α} {f : α → PH → Ev.R PV} (q : PostE X.prog X.w X.K Z E H1 m1 Q (r.calm.bind f)) : ∃ o h, r = .ok o h ∧ PostE X.prog X.w X.K Z E H1 m1 Q (f o h) := by
  cases r with
  | ok o h => exact ⟨o, h, rfl, q⟩
  | exc c u h => exact q.elim
  | stk => exact q.elim
/-- the turn ends well: what its test and its item are -/
theorem turn_ok {t : Tg} {ρ : Env} {own : List Nat} {cc ce : CE} {x : PV} {h2 : PH} {o : Option PV} {h : PH} (e : lcTurn G t ρ own cc ce x h2 = .ok o h) :
    ∃ ρ1 b h3, asg t x h2 (Ev.wipe ρ own) = some ρ1 ∧ evE G cc ρ1 h2 = .ok (.bl b) h3 ∧ ((b = true ∧ ∃ v, evE G ce ρ1 h3 = .ok v h ∧ o = some v) ∨ (b = false ∧ o = none ∧ h = h3)) := by
  unfold lcTurn at e
  cases e1 : asg t x h2 (Ev.wipe ρ own) with
  | none => rw [e1] at e; cases e
  | some ρ1 =>
    rw [e1] at e
    dsimp only at e
    cases e2 : evE G cc ρ1 h2 with
    | stk => rw [e2] at e; cases e
    | exc _ _ _ => rw [e2] at e; cases e
    | ok v h3 =>
      rw [e2] at e
      cases v with
      | bl b =>
        refine ⟨ρ1, b, h3, rfl, e2, ?_⟩
        cases b with
        | false =>
          cases e
          exact .inr ⟨rfl, rfl, rfl⟩
        | true =>
          have e' : ((evE G ce ρ1 h3).bind fun v h4 => Ev.R.ok (some v) h4).calm = .ok o h := e
          cases e3 : evE G ce ρ1 h3 with
          | stk => rw [e3] at e'; cases e'
          | exc _ _ _ => rw [e3] at e'; cases e'
          | ok v h4 =>
            rw [e3] at e'
            cases e'
            exact .inl ⟨rfl, v, rfl, rfl⟩
      | _ => cases e
theorem lc_walk {Z : Addr → Prop} {H1 : Hp} {m1 : List Addr} {h1 : PH} {ρ : Env} {σ : L2.St} {Q : VK} {its : Ev.Its} {J : It} {mu : Bool} {own : List Nat} {t : Tg} {cc ce : CE} {D : Addr} (hρ : SRp X.prog X.w X.K Z H1 m1 ρ σ) (hr : HRp X.prog X.w X.K Z H1 m1 h1) (k : Wlk X.prog X.w X.K Z H1 m1 h1 its J)
    (hown : ∀ i ∈ tgIx t, i ∈ own) (hD : H1 D = none)
    (q : PostE X.prog X.w X.K Z E H1 m1 Q ((lcLoop (held (lockH h1 its.nl) its.lk) (lcTurn G t ρ own cc ce) its.xs [] (lockH h1 its.nl)).bind fun vs h5 => newLst mu vs (unlockH h5 its.nl))) :
    ∃ W : Nat → Nat → Hp → Prop, (∃ m, W 0 m (upd H1 D (.lst []))) ∧ ∀ i m H, W i m H →
      (J.stop i H ∧ Q (.ref D) H) ∨ (J.go i H ∧ ∃ Nx : Hp → Prop, (∀ H', Nx H' → ∃ m', m' < m ∧ W (i + 1) m' H') ∧ ∀ x H', J.yld i H x H' → rdG X.prog X.w X.K t x (L2.wipe σ own) H' fun σ2 H2 => L2.wipe σ2 own = L2.wipe σ own ∧ RT X G F0 cc σ2 H2 fun b H3 =>
        if b = true then RE X G F0 ce σ2 H3 fun y H4 => ∃ acc, H4 D = some (.lst acc) ∧ acc.length < sizeLine ∧ Nx (upd H4 D (.lst (acc ++ [y]))) else Nx H3) := by
  have nz : ¬ Z D := fun z => by
    obtain ⟨⟨o, e⟩, _⟩ := hr.zs D z
    rw [hD] at e; cases e
  refine ⟨fun i m H => m = its.xs.length - i ∧ i ≤ its.xs.length ∧ ∃ acc ph' mm vs, Ext H1 m1 H mm ∧ HRp X.prog X.w X.K (bar Z D) H mm ph' ∧ H D = some (.lst vs) ∧ Rps X.prog X.w X.K (bar Z D) H mm acc vs ∧
    PostE X.prog X.w X.K Z E H1 m1 Q ((lcLoop (held (lockH h1 its.nl) its.lk) (lcTurn G t ρ own cc ce) (its.xs.drop i) acc ph').bind fun vs h5 => newLst mu vs (unlockH h5 its.nl)), ⟨_, rfl, Nat.zero_le _, [], lockH h1 its.nl, m1, [], Ext.laid hD, (hr.lock).hide hD, upd_same, .nil, q⟩, ?_⟩
  rintro i m H ⟨rfl, hi, acc, ph', mm, vs, e, h, hDl, ra, q⟩
  have zl : ∀ b, bar Z D b → Z b ∨ H1 b = none := fun b z => by
    rcases z with z | z
    · exact .inl z
    · exact .inr (z ▸ hD)
  by_cases hlt : i < its.xs.length
  · refine .inr ?_
    have hx : its.xs.drop i = its.xs[i] :: its.xs.drop (i + 1) := by rw [List.drop_eq_getElem_cons hlt]
    rw [hx] at q
    unfold lcLoop at q
    split at q
    · rename_i hck
      have later : Later X.prog X.w X.K Z H1 m1 h1 its.lk its.nl (bar Z D) H mm ph' := ⟨zl, e, h, hck⟩
      obtain ⟨go, yl⟩ := (k _ _ _ _ i later).2 its.xs[i] (by simp [hlt])
      have q' : PostE X.prog X.w X.K Z E H1 m1 Q ((lcTurn G t ρ own cc ce its.xs[i] ph').bind fun o h2 => (match o with
        | some v => if acc.length < szLine then lcLoop (held (lockH h1 its.nl) its.lk) (lcTurn G t ρ own cc ce) (its.xs.drop (i + 1)) (acc ++ [v]) h2 else .stk
        | none => lcLoop (held (lockH h1 its.nl) its.lk) (lcTurn G t ρ own cc ce) (its.xs.drop (i + 1)) acc h2).bind fun vs h5 => newLst mu vs (unlockH h5 its.nl)) := by
        cases er : lcTurn G t ρ own cc ce its.xs[i] ph' with
        | ok o h2 => rw [er] at q; cases o <;> exact q
        | exc _ _ _ => rw [er] at q; exact q
        | stk => rw [er] at q; exact q
      cases er : lcTurn G t ρ own cc ce its.xs[i] ph' with
      | stk => rw [er] at q'; exact q'.elim
      | exc c u h2 =>
        exfalso
        unfold lcTurn at er
        split at er
        · rename_i ρ1 _
          cases e3 : (evE G cc ρ1 ph').test fun b h3 => if b then (evE G ce ρ1 h3).bind fun v h4 => Ev.R.ok (some v) h4 else .ok none h3 with
          | ok _ _ => rw [e3] at er; cases er
          | exc _ _ _ => rw [e3] at er; cases er
          | stk => rw [e3] at er; cases er
        · cases er
      | ok o h2 =>
        rw [er] at q'
        obtain ⟨ρ1, b, h3, ea, eb, ho⟩ := turn_ok er
        refine ⟨go, _, fun H' hW => ⟨its.xs.length - (i + 1), by omega, hW⟩, fun x H' hy => ?_⟩
        obtain ⟨ey, hry, rx⟩ := yl x H' hy
        have s1 : SRp X.prog X.w X.K (bar Z D) H' mm (Ev.wipe ρ own) (L2.wipe σ own) := (hρ.wk (later.wk.trans ey.wk)).wipe own
        have hDn : D ∉ mm := (h.zs D (.inr rfl)).2
        have hD' : H' D = some (.lst vs) := ey.keep D _ hDn hDl
        have ra' := ra.wk (ey.wk (Z := bar Z D))
        refine ⟨bar Z D, Ev.wipe ρ own, ph', mm, its.xs[i], ρ1, s1, hry, rx, ea, fun σ2 s2 w2 => ⟨by rw [w2 own hown, wipe_set_self], bar Z D, ρ1, ph', mm, s2, hry, ?_⟩⟩
        unfold PostB
        rw [eb]
        intro b' H3 m3 e3 hr3 hb
        cases hb
        have hD3 : H3 D = some (.lst vs) := e3.keep D _ hDn hD'
        have hDn3 : D ∉ m3 := (hr3.zs D (.inr rfl)).2
        have ra3 := ra'.wk (e3.wk (Z := bar Z D))
        have eAll : Ext H1 m1 H3 m3 := (e.trans ey).trans e3
        rcases ho with ⟨rfl, v, ev, rfl⟩ | ⟨rfl, rfl, rfl⟩
        · rw [if_pos rfl]
          refine ⟨bar Z D, ρ1, h3, m3, s2.wk e3.wk, hr3, ?_⟩
          rw [ev]
          intro y H4 m4 e4 hr4 ry
          have q2 : PostE X.prog X.w X.K Z E H1 m1 Q ((if acc.length < szLine then lcLoop (held (lockH h1 its.nl) its.lk) (lcTurn G t ρ own cc ce) (its.xs.drop (i + 1)) (acc ++ [v]) h2 else .stk).bind fun vs h5 => newLst mu vs (unlockH h5 its.nl)) := q'
          split at q2
          · rename_i hz
            refine ⟨vs, e4.keep D _ hDn3 hD3, by rw [← ra.len]; exact hz, rfl, hlt, acc ++ [v], h2, m4, vs ++ [y], (eAll.trans e4).fill hD, hr4.fill, upd_same, ?_, q2⟩
            exact ((ra3.wk (e4.wk (Z := bar Z D))).append (.cons ry .nil)).wk (Wk.hid (.inr rfl))
          · exact q2.elim
        · rw [if_neg Bool.false_ne_true]
          exact ⟨rfl, hlt, acc, _, m3, vs, eAll, hr3, hD3, ra3, q'⟩
    · exact q.elim
  · have he : i = its.xs.length := by omega
    subst he
    rw [List.drop_length] at q
    unfold lcLoop at q
    split at q
    · rename_i hck
      exact .inl ⟨(k _ _ _ _ _ ⟨zl, e, h, hck⟩).1 rfl, lc_done hD nz e h hDl ra q⟩
    · exact q.elim
theorem rd_lc (B : Bx X) {elt tg iter : Expr} {ifs : List Expr} {scope : Scope} {own : List (Str × Nat)} {pos : Pos} {ci : CI} {t : Tg} {cc ce : CE} {mu : Bool} (hi : PI X tg iter (RI X G E ci)) (ok : BlkOk X.N X.env.scope scope own)
    (hown : ∀ i ∈ tgIx t, i ∈ own.map (·.2))
    (hg : ∀ (s : Shared) (H : Hp) (C : Addr) (cl : List (Str × Addr)) (fp : List Addr), PG (X.blk s H scope (compEnvC scope cl C X.env) fp) tg (rdG X.prog X.w X.K t)) (ht : ∀ (s : Shared) (H : Hp) (C : Addr) (cl : List (Str × Addr)) (fp : List Addr), PTs (X.blk s H scope (compEnvC scope cl C X.env) fp) ifs (RT X G F0 cc))
    (he : ∀ (s : Shared) (H : Hp) (C : Addr) (cl : List (Str × Addr)) (fp : List Addr), PE (X.blk s H scope (compEnvC scope cl C X.env) fp) elt (RE X G F0 ce)) (hs : ∀ x, foldedSetIterable iter X.env x = pure x) :
    PE X (.ListComp elt [⟨tg, iter, ifs, 0⟩] scope pos) (RE X G E (.lc mu (own.map (·.2)) t ci cc ce)) := by
  refine PE.imp (pe_lc B.calm B.nd hi ok hg ht he hs) fun σ H Q ⟨Z, ρ, ph, mm, hρ, hr, q⟩ => ?_
  rw [lc_eq] at q
  refine ⟨Z, ρ, ph, mm, hρ, hr, ?_⟩
  cases er : evI G ci ρ ph with
  | stk => rw [er] at q; exact q.elim
  | exc c u h => rw [er] at q; exact q
  | ok its h1 =>
    rw [er] at q
    intro J H1 m1 e1 h1r k D hD
    exact lc_walk (hρ.wk e1.wk) h1r k hown hD (PostG.ext q e1)
end
end Ev
end
section
set_option maxRecDepth 100000
/-! EvO: statements. -/
namespace Ev
open PySem PySem.Spec PyProof.Rows L2

section
variable (P : Program) (w : World) (K : PySem.W.Frag) (E : XK)
def PostS (Z : Addr → Prop) (H : Hp) (mm : List Addr) (D : Ends) : RS → Prop
  | .nx ρ h => ∀ σ H' mm', Ext H mm H' mm' → HRp P w K Z H' mm' h → SRp P w K Z H' mm' ρ σ → D.nx σ H'
  | .brk ρ h => ∀ σ H' mm', Ext H mm H' mm' → HRp P w K Z H' mm' h → SRp P w K Z H' mm' ρ σ → D.bk σ H'
  | .cnt ρ h => ∀ σ H' mm', Ext H mm H' mm' → HRp P w K Z H' mm' h → SRp P w K Z H' mm' ρ σ → D.ct σ H'
  | .ret v h => ∀ x H' mm', Ext H mm H' mm' → HRp P w K Z H' mm' h → Rp P w K Z H' mm' v x → D.rt x H'
  | .exc c u h => ∀ x d H' mm', Ext H mm H' mm' → HRp P w K Z H' mm' h → H' d = some (.xd [(excF c, x)]) → Fz Z mm' d → Rp P w K Z H' mm' u x → E (.ref (He.ga K (excC c))) (some d) H'
  | .stk => False
variable (G : Ctx)
def rdSt (c : CS) : TS := fun D σ H => ∃ Z ρ ph mm, SRp P w K Z H mm ρ σ ∧ HRp P w K Z H mm ph ∧ PostS P w K E Z H mm D (evS G c ρ ph)
def rdSs (c : CSs) : TS := fun D σ H => ∃ Z ρ ph mm, SRp P w K Z H mm ρ σ ∧ HRp P w K Z H mm ph ∧ PostS P w K E Z H mm D (evSs G c ρ ph)
/-- a store's reading -/
def rdPl (t : Pl) : TG := fun v σ H Q => ∃ Z ρ ph mm u, SRp P w K Z H mm ρ σ ∧ HRp P w K Z H mm ph ∧ Rp P w K Z H mm u v ∧ PostS P w K E Z H mm ⟨Q, fun _ _ => False, fun _ _ => False, fun _ _ => False⟩ (stP G t u ρ ph)
def rdPls (t : List Pl) : TGs := fun vs σ H Q => ∃ Z ρ ph mm us, SRp P w K Z H mm ρ σ ∧ HRp P w K Z H mm ph ∧ Rps P w K Z H mm us vs ∧ PostS P w K E Z H mm ⟨Q, fun _ _ => False, fun _ _ => False, fun _ _ => False⟩ (stPs G t us ρ ph)
end
abbrev RS' (X : Cx) (G : Ctx) (E : XK) (c : CS) : TS := rdSt X.prog X.w X.K E G c
abbrev RSs (X : Cx) (G : Ctx) (E : XK) (c : CSs) : TS := rdSs X.prog X.w X.K E G c
section
variable {P : Program} {w : World} {K : PySem.W.Frag} {E : XK} {Z : Addr → Prop} {H H1 : Hp} {mm m1 : List Addr} {D D' : Ends}
theorem PostS.ext {r : RS} (h : PostS P w K E Z H mm D r) (e : Ext H mm H1 m1) : PostS P w K E Z H1 m1 D r := by
  cases r with
  | nx ρ ph => exact fun σ H' mm' e' => h σ H' mm' (e.trans e')
  | brk ρ ph => exact fun σ H' mm' e' => h σ H' mm' (e.trans e')
  | cnt ρ ph => exact fun σ H' mm' e' => h σ H' mm' (e.trans e')
  | ret v ph => exact fun x H' mm' e' => h x H' mm' (e.trans e')
  | exc c u ph => exact fun x d H' mm' e' => h x d H' mm' (e.trans e')
  | stk => exact h
theorem PostS.on {α β : Type} {Rel : Hp → List Addr → α → β → Prop} {r : Ev.R α} {f : α → PH → RS} (h : PostS P w K E Z H mm D (r.on f)) :
    PostG P w K Z Rel E H mm (fun x H' => ∃ v ph mm', Ext H mm H' mm' ∧ HRp P w K Z H' mm' ph ∧ Rel H' mm' v x ∧ PostS P w K E Z H' mm' D (f v ph)) r := by
  cases r with
  | ok v ph => exact fun x H' mm' e h1 h2 => ⟨v, ph, mm', e, h1, h2, PostS.ext h e⟩
  | exc c u ph => exact h
  | stk => exact h
theorem PostS.onT {r : Ev.R PV} {f : Bool → PH → RS} (h : PostS P w K E Z H mm D (r.onT f)) :
    PostB P w K Z E H mm (fun b H' => ∃ ph mm', Ext H mm H' mm' ∧ HRp P w K Z H' mm' ph ∧ PostS P w K E Z H' mm' D (f b ph)) r := by
  have h' : PostS P w K E Z H mm D (r.toB.on f) := h
  exact (PostS.on (Rel := fun _ _ v b => v = b) h').mono fun b H1 ⟨v, p1, m1, e1, h1, r1, q1⟩ => ⟨p1, m1, e1, h1, r1 ▸ q1⟩
/-- statements in a row -/
theorem PostS.seq {r : RS} {f : Env → PH → RS} (h : PostS P w K E Z H mm D (match r with | .nx ρ1 h1 => f ρ1 h1 | r => r)) :
    PostS P w K E Z H mm { D with nx := fun σ H' => ∃ ρ ph mm', SRp P w K Z H' mm' ρ σ ∧ HRp P w K Z H' mm' ph ∧ PostS P w K E Z H' mm' D (f ρ ph) } r := by
  cases r with
  | nx ρ ph => exact fun σ H' mm' e h1 h2 => ⟨ρ, ph, mm', h2, h1, PostS.ext h e⟩
  | brk ρ ph => exact h
  | cnt ρ ph => exact h
  | ret v ph => exact h
  | exc c u ph => exact h
  | stk => exact h
end
/-- not a comprehension -/
def ncomp : Expr → Bool
  | .ListComp _ _ _ _ => false
  | .SetComp _ _ _ _ => false
  | .DictComp _ _ _ _ _ => false
  | _ => true
theorem swaps_no {e : Expr} {t : Option Expr} {l : Nat} {env : PySem.Env} (h : ncomp e = true) : swapsWith e t l env = pure false := by
  cases e <;> first | rfl | cases h
section
variable {X : Cx} {G : Ctx} {E : XK} {e c o i : Expr} {ce cc co ci : CE} {pos : Pos} {st : Stmt} {sts sa sb : List Stmt} {cs : CS} {css ca cb : CSs}
theorem rs_expr (h : ncomp e = true) (he : PE X e (RE X G E ce)) : PS X (.Expr e pos) (RS' X G E (.expr ce)) :=
  PS.imp (ps_expr he (swaps_no h)) fun D σ H ⟨Z, ρ, ph, mm, s, hr, q⟩ => by
    unfold evS at q
    exact ⟨Z, ρ, ph, mm, s, hr, q.on.mono fun x H1 ⟨v, p1, m1, e1, h1, r1, q1⟩ => q1 σ H1 m1 (Ext.refl _ _) h1 (s.wk e1.wk)⟩
theorem rs_ret (he : PE X e (RE X G E ce)) : PS X (.Return (some e) pos) (RS' X G E (.ret ce)) :=
  PS.imp (ps_ret he) fun D σ H ⟨Z, ρ, ph, mm, s, hr, q⟩ => by
    unfold evS at q
    exact ⟨Z, ρ, ph, mm, s, hr, q.on.mono fun x H1 ⟨v, p1, m1, e1, h1, r1, q1⟩ => q1 x H1 m1 (Ext.refl _ _) h1 r1⟩
theorem rs_retN : PS X (.Return none pos) (RS' X G E (.ret (.cst .non))) :=
  PS.imp ps_retN fun D σ H ⟨Z, ρ, ph, mm, s, hr, q⟩ => by
    unfold evS evE at q
    exact q .non H mm (Ext.refl _ _) hr .non
theorem rs_pass : PS X (.Pass pos) (RS' X G E .pass) :=
  PS.imp ps_pass fun D σ H ⟨Z, ρ, ph, mm, s, hr, q⟩ => by
    unfold evS at q
    exact q σ H mm (Ext.refl _ _) hr s
theorem rs_brk : PS X (.Break pos) (RS' X G E .brk) :=
  PS.imp ps_break fun D σ H ⟨Z, ρ, ph, mm, s, hr, q⟩ => by
    unfold evS at q
    exact q σ H mm (Ext.refl _ _) hr s
theorem rs_cont : PS X (.Continue pos) (RS' X G E .cont) :=
  PS.imp ps_continue fun D σ H ⟨Z, ρ, ph, mm, s, hr, q⟩ => by
    unfold evS at q
    exact q σ H mm (Ext.refl _ _) hr s
theorem rs_if (hc : PT X c (RT X G E cc)) (ha : PSs X sa (RSs X G E ca)) (hb : PSs X sb (RSs X G E cb)) : PS X (.If c sa sb pos) (RS' X G E (.ife cc ca cb)) :=
  PS.imp (ps_if hc ha hb) fun D σ H ⟨Z, ρ, ph, mm, s, hr, q⟩ => by
    unfold evS at q
    refine ⟨Z, ρ, ph, mm, s, hr, q.onT.mono fun b H1 ⟨p1, m1, e1, h1, q1⟩ => ?_⟩
    cases b with
    | true => exact ⟨Z, ρ, p1, m1, s.wk e1.wk, h1, q1⟩
    | false => exact ⟨Z, ρ, p1, m1, s.wk e1.wk, h1, q1⟩
theorem rss_nil : PSs X [] (RSs X G E .nil) :=
  PSs.imp pss_nil fun D σ H ⟨Z, ρ, ph, mm, s, hr, q⟩ => by
    unfold evSs at q
    exact q σ H mm (Ext.refl _ _) hr s
theorem rss_cons (h1 : PS X st (RS' X G E cs)) (h2 : PSs X sts (RSs X G E css)) : PSs X (st :: sts) (RSs X G E (.cons cs css)) :=
  PSs.imp (pss_cons h1 h2) fun D σ H ⟨Z, ρ, ph, mm, s, hr, q⟩ => by
    unfold evSs at q
    have q' := PostS.seq (f := fun ρ1 h1 => evSs G css ρ1 h1) q
    exact ⟨Z, ρ, ph, mm, s, hr, by
      cases e : evS G cs ρ ph with
      | nx ρ1 p1 =>
        rw [e] at q'
        intro σ' H' m' e1 hr1 s1
        obtain ⟨ρ2, p2, m2, s2, h2, q2⟩ := q' σ' H' m' e1 hr1 s1
        exact ⟨Z, ρ2, p2, m2, s2, h2, q2⟩
      | brk ρ1 p1 => rw [e] at q'; exact q'
      | cnt ρ1 p1 => rw [e] at q'; exact q'
      | ret v p1 => rw [e] at q'; exact q'
      | exc c u p1 => rw [e] at q'; exact q'
      | stk => rw [e] at q'; exact q'⟩

/-! ### stores -/
def noFlow : RS → Bool
  | .ret _ _ => false
  | .brk _ _ => false
  | .cnt _ _ => false
  | _ => true
theorem noFlow_on {α : Type} {r : Ev.R α} {f : α → PH → RS} (h : ∀ a p, noFlow (f a p) = true) : noFlow (r.on f) = true := by
  cases r with
  | ok a p => exact h a p
  | exc _ _ _ => rfl
  | stk => rfl
mutual
theorem stP_flow : ∀ (t : Pl) (v : PV) (ρ : Env) (h : PH), noFlow (stP G t v ρ h) = true
  | .nm i, v, ρ, h => by
    unfold stP
    split <;> rfl
  | .tp ts, v, ρ, h => by
    unfold stP
    split
    · split
      · exact stPs_flow ts _ ρ h
      · rfl
    · split
      · exact stPs_flow ts _ ρ h
      · rfl
    · rfl
  | .sub o i, v, ρ, h => by
    unfold stP
    refine noFlow_on fun x p => noFlow_on fun y p2 => ?_
    split <;> rfl
  | .fld o f, v, ρ, h => by
    unfold stP
    refine noFlow_on fun x p => ?_
    split <;> rfl
theorem stPs_flow : ∀ (ts : List Pl) (vs : List PV) (ρ : Env) (h : PH), noFlow (stPs G ts vs ρ h) = true
  | [], [], _, _ => rfl
  | [], _ :: _, _, _ => rfl
  | _ :: _, [], _, _ => rfl
  | t :: ts, v :: vs, ρ, h => by
    have := stP_flow t v ρ h
    unfold stPs
    cases e : stP G t v ρ h with
    | nx ρ1 h1 => exact stPs_flow ts vs ρ1 h1
    | exc _ _ _ => rfl
    | stk => rfl
    | ret _ _ => rw [e] at this; cases this
    | brk _ _ => rw [e] at this; cases this
    | cnt _ _ => rw [e] at this; cases this
end
theorem PostS.only {P : Program} {w : World} {K : PySem.W.Frag} {E : XK} {Z : Addr → Prop} {H : Hp} {mm : List Addr} {D : Ends} {r : RS} (h : PostS P w K E Z H mm D r) (hf : noFlow r = true) : PostS P w K E Z H mm ⟨D.nx, fun _ _ => False, fun _ _ => False, fun _ _ => False⟩ r := by
  cases r with
  | nx _ _ => exact h
  | exc _ _ _ => exact h
  | stk => exact h
  | ret _ _ => cases hf
  | brk _ _ => cases hf
  | cnt _ _ => cases hf
theorem rp_nm {i : Nat} {x : Str} (B : Bx X) (hi : X.N[i]? = some x) (hx : Loc X.env.scope x) (hf : X.fn x = true ∨ X.env.scope.names.lookup x = some .local) : PG X (.Name x pos) (rdPl X.prog X.w X.K E G (.nm i)) :=
  PG.imp (pg_name B.nd hi hx hf) fun v σ H Q ⟨Z, ρ, ph, mm, u, s, h, r, q⟩ => by
    unfold stP at q
    split at q
    · exact q _ H mm (Ext.refl _ _) h (s.set r)
    · exact q.elim
theorem rps_nil : PGs X [] (rdPls X.prog X.w X.K E G []) := PGs.imp pgs_nil fun v σ H Q ⟨Z, ρ, ph, mm, us, s, h, r, q⟩ => by
  cases r with
  | nil => unfold stPs at q; exact ⟨rfl, q σ H mm (Ext.refl _ _) h s⟩
  | cons _ _ => exact q.elim
theorem rps_cons {e : Expr} {es : List Expr} {t : Pl} {ts : List Pl} (hs : nst e = true) (h1 : PG X e (rdPl X.prog X.w X.K E G t)) (h2 : PGs X es (rdPls X.prog X.w X.K E G ts)) : PGs X (e :: es) (rdPls X.prog X.w X.K E G (t :: ts)) :=
  PGs.imp (pgs_cons h1 h2 (asg_each hs)) fun v σ H Q ⟨Z, ρ, ph, mm, us, s, h, r, q⟩ => by
    cases r with
    | nil => exact q.elim
    | @cons u us v vs r1 r2 =>
      unfold stPs at q
      refine ⟨v, vs, rfl, Z, ρ, ph, mm, u, s, h, r1, ?_⟩
      cases er : stP G t u ρ ph with
      | nx ρ1 p1 =>
        rw [er] at q
        intro σ1 H1 m1 e1 hr1 s1
        exact ⟨Z, ρ1, p1, m1, us, s1, hr1, r2.wk e1.wk, PostS.ext q e1⟩
      | brk ρ1 p1 => rw [er] at q; exact q
      | cnt ρ1 p1 => rw [er] at q; exact q
      | ret v p1 => rw [er] at q; exact q
      | exc c u p1 => rw [er] at q; exact q
      | stk => rw [er] at q; exact q
theorem rs_asg (hn : ncomp e = true) {tg : Expr} {t : Pl} (hst : nst tg = true) (hw : swappedStores [tg] e X.env = pure none) (he : PE X e (RE X G E ce)) (hg : PG X tg (rdPl X.prog X.w X.K E G t)) : PS X (.Assign [tg] e pos) (RS' X G E (.asg t ce)) :=
  PS.imp (ps_asg he hg (swaps_no hn) hw (by rw [asg_each hst]; rfl)) fun D σ H ⟨Z, ρ, ph, mm, s, hr, q⟩ => by
    unfold evS at q
    refine ⟨Z, ρ, ph, mm, s, hr, q.on.mono fun x H1 ⟨v, p1, m1, e1, h1, r1, q1⟩ => ⟨Z, ρ, p1, m1, v, s.wk e1.wk, h1, r1, q1.only (stP_flow t v ρ p1)⟩⟩
theorem rp_tup {es : List Expr} {k : Nat} {ts : List Pl} (B : Bx X) (hs : (es.all nst) = true) (hl : es.length = ts.length) (h : PGs X es (rdPls X.prog X.w X.K E G ts)) : PG X (.Tuple es k pos) (rdPl X.prog X.w X.K E G (.tp ts)) :=
  PG.imp (pg_tup B.calm h (n := ts.length) (by rw [asg_len, hl]) (asg_nost hs)) fun v σ H Q ⟨Z, ρ, ph, mm, u, s, hr, r, q⟩ => by
    unfold stP at q
    split at q
    · rename_i us es
      split at q
      · rename_i hn
        have := see_tup hr r es
        subst this
        obtain ⟨a, vs, rfl, hp, rs⟩ := r.tup_
        exact ⟨a, vs, rfl, .inl (.inl hp), by rw [← rs.len]; exact hn, Z, ρ, ph, mm, us, s, hr, rs, q⟩
      · exact q.elim
    · rename_i us es
      split at q
      · rename_i hn
        have := see_ftp hr r es
        subst this
        obtain ⟨a, vs, rfl, hp, rs⟩ := r.ftp_
        exact ⟨a, vs, rfl, hp, by rw [← rs.len]; exact hn, Z, ρ, ph, mm, us, s, hr, rs, q⟩
      · exact q.elim
    · exact q.elim
/-- what o[i] = v does, by values -/
def rSet (X : Cx) : TSet := fun o i v H Q => ∃ Z mm ph a b u ph', HRp X.prog X.w X.K Z H mm ph ∧ Rp X.prog X.w X.K Z H mm a o ∧ Rp X.prog X.w X.K Z H mm b i ∧ Rp X.prog X.w X.K Z H mm u v ∧ setIx a b u ph = some ph' ∧ ∀ H', Ext H mm H' mm → HRp X.prog X.w X.K Z H' mm ph' → Q H'
theorem any_put {P : Program} {w : World} {K : PySem.W.Frag} {Z : Addr → Prop} {H : Hp} {mm : List Addr} {k : PV} {q : Key} (hq : kOf k = some q) : ∀ {es : List (PV × PV)} {kvs : List (Key × V)}, Rkv P w K Z H mm es kvs → (es.any fun p => keyEq p.1 k) = (kvs.any fun kv => decide (kv.1 = q))
  | _, _, .nil => rfl
  | _, _, .cons e r t => by rw [List.any_cons, List.any_cons, any_put hq t]; congr 1; exact kOf_eqv e hq
theorem map_put {P : Program} {w : World} {K : PySem.W.Frag} {Z : Addr → Prop} {H : Hp} {mm : List Addr} {k v : PV} {x : V} {q : Key} (hq : kOf k = some q) (rv : Rp P w K Z H mm v x) : ∀ {es : List (PV × PV)} {kvs : List (Key × V)}, Rkv P w K Z H mm es kvs →
    Rkv P w K Z H mm (es.map fun p => if keyEq p.1 k then (p.1, v) else p) (kvs.map fun kv => if kv.1 = q then (kv.1, x) else kv)
  | _, _, .nil => .nil
  | _, _, .cons (k := k') (q := q') e r t => by
    rw [List.map_cons, List.map_cons]
    have h := kOf_eqv e hq
    by_cases hk : q' = q
    · have h1 : keyEq k' k = true := by rw [show keyEq k' k = k'.eqv k from rfl, h]; exact decide_eq_true hk
      rw [if_pos h1, if_pos hk]
      exact .cons e rv (map_put hq rv t)
    · have h1 : ¬ keyEq k' k = true := by rw [show keyEq k' k = k'.eqv k from rfl, h]; simp [hk]
      rw [if_neg h1, if_neg hk]
      exact .cons e r (map_put hq rv t)
theorem rkv_snoc {P : Program} {w : World} {K : PySem.W.Frag} {Z : Addr → Prop} {H : Hp} {mm : List Addr} {k v : PV} {x : V} {q : Key} (hq : kOf k = some q) (rv : Rp P w K Z H mm v x) : ∀ {es : List (PV × PV)} {kvs : List (Key × V)}, Rkv P w K Z H mm es kvs → Rkv P w K Z H mm (es ++ [(k, v)]) (kvs ++ [(q, x)])
  | _, _, .nil => .cons hq rv .nil
  | _, _, .cons e r t => .cons e r (rkv_snoc hq rv t)
theorem Rkv.put {P : Program} {w : World} {K : PySem.W.Frag} {Z : Addr → Prop} {H : Hp} {mm : List Addr} {k v : PV} {x : V} {q : Key} (hq : kOf k = some q) (rv : Rp P w K Z H mm v x) {es : List (PV × PV)} {kvs : List (Key × V)} (r : Rkv P w K Z H mm es kvs) : Rkv P w K Z H mm (dput es k v) (putK kvs q x) := by
  unfold dput putK
  rw [any_put hq r]
  split
  · exact map_put hq rv r
  · exact rkv_snoc hq rv r
theorem any_putT {P : Program} {w : World} {K : PySem.W.Frag} {Z : Addr → Prop} {H : Hp} {mm : List Addr} {k : List PV} {q : List Key} (hq : kOfs k = some q) : ∀ {es : List (PV × PV)} {kvs : List (List Key × V)}, RkvT P w K Z H mm es kvs → (es.any fun p => keyEq p.1 (.tup k)) = (kvs.any fun kv => decide (kv.1 = q))
  | _, _, .nil => rfl
  | _, _, .cons e r t => by rw [List.any_cons, List.any_cons, any_putT hq t]; congr 1; exact kOfs_eqv e hq
theorem map_putT {P : Program} {w : World} {K : PySem.W.Frag} {Z : Addr → Prop} {H : Hp} {mm : List Addr} {k : List PV} {v : PV} {x : V} {q : List Key} (hq : kOfs k = some q) (rv : Rp P w K Z H mm v x) : ∀ {es : List (PV × PV)} {kvs : List (List Key × V)}, RkvT P w K Z H mm es kvs →
    RkvT P w K Z H mm (es.map fun p => if keyEq p.1 (.tup k) then (p.1, v) else p) (kvs.map fun kv => if kv.1 = q then (kv.1, x) else kv)
  | _, _, .nil => .nil
  | _, _, .cons (ks := k') (q := q') e r t => by
    rw [List.map_cons, List.map_cons]
    have h := kOfs_eqv e hq
    by_cases hk : q' = q
    · have h1 : keyEq (.tup k') (.tup k) = true := by rw [show keyEq (.tup k') (.tup k) = PV.eqvL k' k from rfl, h]; exact decide_eq_true hk
      rw [if_pos h1, if_pos hk]
      exact .cons e rv (map_putT hq rv t)
    · have h1 : ¬ keyEq (.tup k') (.tup k) = true := by rw [show keyEq (.tup k') (.tup k) = PV.eqvL k' k from rfl, h]; simp [hk]
      rw [if_neg h1, if_neg hk]
      exact .cons e r (map_putT hq rv t)
theorem rkvT_snoc {P : Program} {w : World} {K : PySem.W.Frag} {Z : Addr → Prop} {H : Hp} {mm : List Addr} {k : List PV} {v : PV} {x : V} {q : List Key} (hq : kOfs k = some q) (rv : Rp P w K Z H mm v x) : ∀ {es : List (PV × PV)} {kvs : List (List Key × V)}, RkvT P w K Z H mm es kvs → RkvT P w K Z H mm (es ++ [(.tup k, v)]) (kvs ++ [(q, x)])
  | _, _, .nil => .cons hq rv .nil
  | _, _, .cons e r t => .cons e r (rkvT_snoc hq rv t)
theorem RkvT.put {P : Program} {w : World} {K : PySem.W.Frag} {Z : Addr → Prop} {H : Hp} {mm : List Addr} {k : List PV} {v : PV} {x : V} {q : List Key} (hq : kOfs k = some q) (rv : Rp P w K Z H mm v x) {es : List (PV × PV)} {kvs : List (List Key × V)} (r : RkvT P w K Z H mm es kvs) : RkvT P w K Z H mm (dput es (.tup k) v) (putK kvs q x) := by
  unfold dput putK
  rw [any_putT hq r]
  split
  · exact map_putT hq rv r
  · exact rkvT_snoc hq rv r
theorem set_any (B : Bx X) : PSet X (rSet X) := by
  intro pins s σ H o i v ov iv u Q I ro ri rv ⟨Z, mm, ph, a, b, c, ph', hr, ra, rb, rc, e, q⟩
  unfold setIx at e
  split at e
  · rename_i n
    have hm : ∃ p, o = .ref p ∧ mm[n]? = some p := by cases ra with | ref h => exact ⟨_, rfl, h⟩
    obtain ⟨p, rfl, hm⟩ := hm
    split at e
    · rename_i xs en
      split at e
      · rename_i k
        split at e
        · rename_i j hj
          cases e
          obtain rfl := rb.int_
          cases hr.ob n _ p en hm with
          | lst h r =>
            have hfz : ∀ o u, H p ≠ some (.frz o u) := fun o u z => by rw [h] at z; cases z
            have hx := fun o' => Ext.wrote (H := H) (mm := mm) (p := p) (o := o') (List.mem_of_getElem? hm) hfz
            refine set_list pins s σ H _ _ v ov iv u Q I ro ri rv ⟨p, _, k, j, rfl, rfl, h, by rw [← r.len]; exact hj, q _ (hx _) ?_⟩
            exact hr.wrote hm (.lst upd_same ((r.set j rc).wk (hx _).wk))
        · cases e
      · cases e
    · rename_i tk es en
      split at e
      · rename_i hk
        simp only [Bool.and_eq_true, decide_eq_true_eq] at hk
        cases e
        cases hr.ob n _ p en hm with
        | dct h r =>
          have hf : flatK b = true := by
            have := hk.1
            cases b <;> first | rfl | cases this
          obtain ⟨kq, hkq⟩ := kOf_flat hf
          have hfz : ∀ o u, H p ≠ some (.frz o u) := fun o u z => by rw [h] at z; cases z
          have hx := fun o' => Ext.wrote (H := H) (mm := mm) (p := p) (o := o') (List.mem_of_getElem? hm) hfz
          refine set_dict (by have := B.un; omega) pins s σ H _ i v ov iv u Q I ro ri rv ⟨p, _, rfl, .inl ⟨_, kq, h, rb.key hkq, by rw [← r.len]; exact hk.2, rfl⟩, q _ (hx _) ?_⟩
          exact hr.wrote hm (.dct upd_same ((r.put hkq rc).wk (hx _).wk))
        | dctT h r =>
          cases b with
          | tup ks =>
            obtain ⟨kq, hkq⟩ := kOfs_all (xs := ks) (by simpa [keyOk] using hk.1)
            obtain ⟨pb, vs, rfl, hb, rs⟩ := rb.tup_
            rw [rs.keys hkq] at hb
            have hfz : ∀ o u, H p ≠ some (.frz o u) := fun o u z => by rw [h] at z; cases z
            have hx := fun o' => Ext.wrote (H := H) (mm := mm) (p := p) (o := o') (List.mem_of_getElem? hm) hfz
            refine set_dict (by have := B.un; omega) pins s σ H _ _ v ov iv u Q I ro ri rv ⟨p, _, rfl, .inr ⟨_, kq, pb, h, rfl, hb, by rw [← r.len]; exact hk.2, rfl⟩, q _ (hx _) ?_⟩
            exact hr.wrote hm (.dctT upd_same ((r.put hkq rc).wk (hx _).wk))
          | _ => cases hk.1
      · cases e
    · cases e
  · cases e
/-- not a slice -/
def nslc : Expr → Bool
  | .Slice _ _ _ _ => false
  | _ => true
theorem rp_sub (B : Bx X) (hni : nslc i = true) (ho : PE X o (RE X G E co)) (hi : PE X i (RE X G E ci)) : PG X (.Subscript o i pos) (rdPl X.prog X.w X.K E G (.sub co ci)) :=
  PG.imp (pg_sub ho hi (set_any B) (by intro _; cases i <;> first | rfl | cases hni)) fun v σ H Q ⟨Z, ρ, ph, mm, u, s, hr, r, q⟩ => by
    unfold stP at q
    refine ⟨Z, ρ, ph, mm, s, hr, q.on.mono fun x H1 ⟨a, p1, m1, e1, h1, r1, q1⟩ => ⟨Z, ρ, p1, m1, s.wk e1.wk, h1, q1.on.mono fun y H2 ⟨b, p2, m2, e2, h2, r2, q2⟩ => ?_⟩⟩
    split at q2
    · rename_i p3 e3
      exact ⟨Z, m2, p2, a, b, u, p3, h2, r1.wk e2.wk, r2, (r.wk e1.wk).wk e2.wk, e3, fun H' ex hr' => q2 σ H' m2 ex hr' (((s.wk e1.wk).wk e2.wk).wk ex.wk)⟩
    · exact q2.elim

/-! ### op= -/
theorem ip_aug (op : Op) : PIp X (opX op) (r2 X.prog X.w X.K E (augop op)) := by
  intro pins s σ H x y v u Q I rx ry ⟨Z, mm, ph, a, b, hr, ra, rb, q⟩
  unfold augop at q
  split at q
  · obtain rfl := ra.int_; obtain rfl := rb.int_
    exact iop_add pins s σ H _ _ v u Q I rx ry ⟨_, _, rfl, rfl, q.ok hr (.int _)⟩
  · obtain rfl := ra.int_; obtain rfl := rb.int_
    exact iop_sub pins s σ H _ _ v u Q I rx ry ⟨_, _, rfl, rfl, q.ok hr (.int _)⟩
  · split at q
    · rename_i i j h
      obtain rfl := ra.int_; obtain rfl := rb.int_
      refine iop_mul pins s σ H _ _ v u Q I rx ry ⟨_, _, rfl, rfl, ?_, q.ok hr (.int _)⟩
      unfold CMul
      rw [Bool.or_eq_true] at h
      rcases h with h | h
      · have := small_lt h; omega
      · have := small_lt h; omega
    · exact q.elim
  · split at q
    · rename_i i j h
      obtain rfl := ra.int_; obtain rfl := rb.int_
      have h' : (0 : Int) < j ∧ small j = true := by simpa using h
      exact iop_fdivW pins s σ H _ _ v u Q I rx ry ⟨_, _, rfl, rfl, ⟨h'.1, small_log h'.2⟩, q.ok hr (.int _)⟩
    · exact q.elim
  · split at q
    · rename_i i j h
      obtain rfl := ra.int_; obtain rfl := rb.int_
      exact iop_mod pins s σ H _ _ v u Q I rx ry ⟨_, _, rfl, rfl, h, q.ok hr (.int _)⟩
    · exact q.elim
  · split at q
    · rename_i i j h
      obtain rfl := ra.int_; obtain rfl := rb.int_
      have h' : ((0 : Int) ≤ j ∧ j ≤ 1000000) ∧ small i = true := by simpa using h
      exact iop_shl pins s σ H _ _ v u Q I rx ry ⟨_, _, rfl, rfl, ⟨h'.1.1, h'.1.2, small_lt h'.2⟩, q.ok hr (.int _)⟩
    · exact q.elim
  · split at q
    · rename_i i j h
      obtain rfl := ra.int_; obtain rfl := rb.int_
      exact iop_shr pins s σ H _ _ v u Q I rx ry ⟨_, _, rfl, rfl, h, q.ok hr (.int _)⟩
    · exact q.elim
  · split at q
    · rename_i i j h
      obtain rfl := ra.str_; obtain rfl := rb.str_
      exact iop_add_str pins s σ H _ _ v u Q I rx ry ⟨sT i, sT j, rfl, rfl, by rw [sT_len, sT_len]; exact h, by rw [sT_app]; exact q.ok hr (.str _)⟩
    · exact q.elim
  · exact q.elim
theorem get_dct (B : Bx X) : PGet X (r2 X.prog X.w X.K E ixopD) := by
  intro pins s σ H o i ov iv Q I ro ri ⟨Z, mm, ph, a, b, hr, ra, rb, q⟩
  unfold ixopD at q
  split at q
  · rename_i tk es0 es
    split at q
    · rename_i hk
      split at q
      · rename_i z ez
        obtain ⟨p, u, rfl, g, rO⟩ := dat_dct (s := s) hr ra es rb hk
        rw [ez] at rO
        obtain ⟨z', rfl, rz⟩ := rO.some_
        cases ro
        exact a_item (by have := B.un; omega) I g ri fun w' s' I' rw' => ⟨z', H, I', rw', q.ok hr rz⟩
      · exact q.elim
    · exact q.elim
  · exact q.elim
theorem rs_augN {k : Nat} {x : Str} {op : Op} {pos' : Pos} (B : Bx X) (hi : X.N[k]? = some x) (hx : Loc X.env.scope x) (hf : X.fn x = true ∨ X.env.scope.names.lookup x = some .local) (he : PE X e (RE X G E ce)) : PS X (.AugAssign (.Name x pos') (opX op) e pos) (RS' X G E (.aug (.nm k) op ce)) :=
  PS.imp (ps_aug B.nd hi hx he (ip_aug (E := E) op) hf) fun D σ H ⟨Z, ρ, ph, mm, s, hr, q⟩ => by
    unfold evS at q
    split at q
    · rename_i v ev
      obtain ⟨y, ey, ry⟩ := s.2 k v ev
      refine ⟨y, ey, Z, ρ, ph, mm, s, hr, q.on.mono fun z H1 ⟨u, p1, m1, e1, h1, r1, q1⟩ => ⟨Z, m1, p1, v, u, h1, ry.wk e1.wk, r1, q1.on.mono fun t H2 ⟨u2, p2, m2, e2, h2, r2, q2⟩ => ?_⟩⟩
      exact q2 _ H2 m2 (Ext.refl _ _) h2 (((s.wk e1.wk).wk e2.wk).set r2)
    · exact q.elim
theorem rs_augS {op : Op} {tpos : Pos} (B : Bx X) (hni : nslc i = true) (ho : PE X o (RE X G E co)) (hi : PE X i (RE X G E ci)) (he : PE X e (RE X G E ce)) : PS X (.AugAssign (.Subscript o i tpos) (opX op) e pos) (RS' X G E (.aug (.sub co ci) op ce)) :=
  PS.imp (ps_augS ho hi (get_dct (E := E) B) he (ip_aug (E := E) op) (set_any B) (by intros; cases i <;> first | rfl | cases hni)) fun D σ H ⟨Z, ρ, ph, mm, s, hr, q⟩ => by
    unfold evS at q
    refine ⟨Z, ρ, ph, mm, s, hr, q.on.mono fun x H1 ⟨a, p1, m1, e1, h1, r1, q1⟩ => ⟨Z, ρ, p1, m1, s.wk e1.wk, h1, q1.on.mono fun y H2 ⟨b, p2, m2, e2, h2, r2, q2⟩ => ⟨Z, m2, p2, a, b, h2, r1.wk e2.wk, r2, q2.on.mono fun u H3 ⟨c, p3, m3, e3, h3, r3, q3⟩ => ?_⟩⟩⟩
    have s3 := ((s.wk e1.wk).wk e2.wk).wk e3.wk
    refine ⟨Z, ρ, p3, m3, s3, h3, q3.on.mono fun t H4 ⟨d, p4, m4, e4, h4, r4, q4⟩ => ⟨Z, m4, p4, c, d, h4, r3.wk e4.wk, r4, q4.on.mono fun n H5 ⟨f, p5, m5, e5, h5, r5, q5⟩ => ?_⟩⟩
    have s5 := (s3.wk e4.wk).wk e5.wk
    split at q5
    · rename_i p6 e6
      exact ⟨Z, m5, p5, a, b, f, p6, h5, ((((r1.wk e2.wk).wk e3.wk).wk e4.wk).wk e5.wk), (((r2.wk e3.wk).wk e4.wk).wk e5.wk), r5, e6, fun H' ex hr' => q5 σ H' m5 ex hr' (s5.wk ex.wk)⟩
    · exact q5.elim

/-! ### loops -/
theorem PostS.fin {P : Program} {w : World} {K : PySem.W.Frag} {Z : Addr → Prop} {H : Hp} {mm : List Addr} {D : Ends} {r : RS} {nl : List Nat} (h : PostS P w K E Z H mm D (r.mapH fun h => unlockH h nl)) : PostS P w K E Z H mm D r := by
  cases r with
  | nx ρ ph => exact fun σ H' mm' e h1 h2 => h σ H' mm' e h1.unlock h2
  | brk ρ ph => exact fun σ H' mm' e h1 h2 => h σ H' mm' e h1.unlock h2
  | cnt ρ ph => exact fun σ H' mm' e h1 h2 => h σ H' mm' e h1.unlock h2
  | ret v ph => exact fun x H' mm' e h1 h2 => h x H' mm' e h1.unlock h2
  | exc c u ph => exact fun x d H' mm' e h1 h2 h3 h4 => h x d H' mm' e h1.unlock h2 h3 h4
  | stk => exact h
theorem for_walk {Z : Addr → Prop} {H1 : Hp} {m1 : List Addr} {h1 : PH} {ρ : Env} {σ : L2.St} {D : Ends} {its : Ev.Its} {J : It} {t : Tg} {b : CSs} (hρ : SRp X.prog X.w X.K Z H1 m1 ρ σ) (hr : HRp X.prog X.w X.K Z H1 m1 h1) (k : Wlk X.prog X.w X.K Z H1 m1 h1 its J)
    (q : PostS X.prog X.w X.K E Z H1 m1 D (forLoop (held (lockH h1 its.nl) its.lk) (fTurn G t b) its.xs ρ (lockH h1 its.nl))) :
    ∃ W : Nat → Nat → L2.St → Hp → Prop, (∃ m, W 0 m σ H1) ∧ ∀ i m σ H, W i m σ H →
      (J.stop i H ∧ D.nx σ H) ∨ (J.go i H ∧ ∃ N : L2.St → Hp → Prop, (∀ σ' H', N σ' H' → ∃ m', m' < m ∧ W (i + 1) m' σ' H') ∧ ∀ x H', J.yld i H x H' → rdG X.prog X.w X.K t x σ H' fun σ2 H2 => RSs X G E b { D with nx := N, ct := N, bk := D.nx } σ2 H2) := by
  refine ⟨fun i m σ H => m = its.xs.length - i ∧ i ≤ its.xs.length ∧ ∃ ρ ph mm, Ext H1 m1 H mm ∧ HRp X.prog X.w X.K Z H mm ph ∧ SRp X.prog X.w X.K Z H mm ρ σ ∧ PostS X.prog X.w X.K E Z H mm D (forLoop (held (lockH h1 its.nl) its.lk) (fTurn G t b) (its.xs.drop i) ρ ph),
    ⟨_, rfl, Nat.zero_le _, ρ, lockH h1 its.nl, m1, Ext.refl _ _, hr.lock, hρ, q⟩, ?_⟩
  rintro i m σ H ⟨rfl, hi, ρ, ph, mm, e, h, s, q⟩
  by_cases hlt : i < its.xs.length
  · refine .inr ?_
    have hx : its.xs.drop i = its.xs[i] :: its.xs.drop (i + 1) := by rw [List.drop_eq_getElem_cons hlt]
    rw [hx] at q
    unfold forLoop at q
    split at q
    · rename_i hck
      have later : Later X.prog X.w X.K Z H1 m1 h1 its.lk its.nl Z H mm ph := ⟨fun b z => .inl z, e, h, hck⟩
      obtain ⟨go, yl⟩ := (k _ _ _ _ i later).2 its.xs[i] (by simp [hlt])
      refine ⟨go, _, fun σ' H' hW => ⟨its.xs.length - (i + 1), by omega, hW⟩, fun x H' hy => ?_⟩
      obtain ⟨ey, hry, rx⟩ := yl x H' hy
      cases ea : asg t its.xs[i] ph ρ with
      | none =>
        have ef : fTurn G t b its.xs[i] ρ ph = .stk := by unfold fTurn; rw [ea]
        rw [ef] at q; exact q.elim
      | some ρ2 =>
        have ef : fTurn G t b its.xs[i] ρ ph = evSs G b ρ2 ph := by unfold fTurn; rw [ea]
        rw [ef] at q
        refine ⟨Z, ρ, ph, mm, its.xs[i], ρ2, s.wk ey.wk, hry, rx, ea, fun σ2 s2 _ => ⟨Z, ρ2, ph, mm, s2, hry, ?_⟩⟩
        have q1 := PostS.ext q ey
        clear q
        cases er : evSs G b ρ2 ph with
        | nx ρ3 h3 =>
          rw [er] at q1
          exact fun σ' H3 m3 e3 hr3 s3 => ⟨rfl, hlt, ρ3, h3, m3, (e.trans ey).trans e3, hr3, s3, PostS.ext q1 e3⟩
        | cnt ρ3 h3 =>
          rw [er] at q1
          exact fun σ' H3 m3 e3 hr3 s3 => ⟨rfl, hlt, ρ3, h3, m3, (e.trans ey).trans e3, hr3, s3, PostS.ext q1 e3⟩
        | brk ρ3 h3 =>
          rw [er] at q1
          dsimp only at q1
          split at q1
          · exact q1
          · exact q1.elim
        | ret v h3 =>
          rw [er] at q1
          dsimp only at q1
          split at q1
          · exact q1
          · exact q1.elim
        | exc c u h3 =>
          rw [er] at q1
          dsimp only at q1
          split at q1
          · exact q1
          · exact q1.elim
        | stk => rw [er] at q1; exact q1.elim
    · exact q.elim
  · have he : i = its.xs.length := by omega
    subst he
    rw [List.drop_length] at q
    unfold forLoop at q
    split at q
    · rename_i hck
      exact .inl ⟨(k _ _ _ _ _ ⟨fun b z => .inl z, e, h, hck⟩).1 rfl, q σ H mm (Ext.refl _ _) h s⟩
    · exact q.elim
/-- not a set display -/
def nset : Expr → Bool
  | .Set _ _ _ => false
  | _ => true
theorem fold_ok {e : Expr} {env : PySem.Env} (h : nset e = true) : ∀ x, foldedSetIterable e env x = pure x := by
  intro x
  cases e <;> first | rfl | cases h
theorem rs_for (B : Bx X) (hp : PassesOwn (model X.prog X.w) X.A X.env X.xe) {tg iter : Expr} {t : Tg} {it : CI} {body : List Stmt} {b : CSs} (hn : nset iter = true) (hi : PI X tg iter (RI X G E it)) (hg : PG X tg (rdG X.prog X.w X.K t)) (hb : PSs X body (RSs X G E b)) :
    PS X (.For tg iter body [] pos) (RS' X G E (.for_ t it b)) :=
  PS.imp (ps_for hp B.calm hi hg hb (fold_ok hn)) fun D σ H ⟨Z, ρ, ph, mm, s, hr, q⟩ => by
    rw [for_eq] at q
    refine ⟨Z, ρ, ph, mm, s, hr, ?_⟩
    cases er : evI G it ρ ph with
    | stk => rw [er] at q; exact q.elim
    | exc c u h => rw [er] at q; exact q
    | ok its h1 =>
      rw [er] at q
      intro J H1 m1 e1 h1r k
      exact for_walk (s.wk e1.wk) h1r k (PostS.fin (PostS.ext q e1))
theorem rs_while (B : Bx X) (hp : PassesOwn (model X.prog X.w) X.A X.env X.xe) {body : List Stmt} {b : CSs} (hc : PT X c (RT X G E cc)) (hb : PSs X body (RSs X G E b)) : PS X (.While c body [] pos) (RS' X G E (.whl cc b)) :=
  PS.imp (ps_while hp hc hb) fun D σ H ⟨Z, ρ, ph, mm, s, hr, q⟩ => by
    unfold evS at q
    refine ⟨fun m σ H => ∃ ρ ph mm, SRp X.prog X.w X.K Z H mm ρ σ ∧ HRp X.prog X.w X.K Z H mm ph ∧ PostS X.prog X.w X.K E Z H mm D (whlLoop (evE G cc) (evSs G b) m ρ ph), ⟨_, ρ, ph, mm, s, hr, q⟩, ?_⟩
    rintro m σ H ⟨ρ, ph, mm, s, hr, q⟩
    cases m with
    | zero => exact q.elim
    | succ m =>
      unfold whlLoop at q
      refine ⟨Z, ρ, ph, mm, s, hr, q.onT.mono fun t H1 ⟨p1, m1, e1, h1, q1⟩ => ?_⟩
      cases t with
      | false =>
        rw [if_neg Bool.false_ne_true]
        exact q1 σ H1 m1 (Ext.refl _ _) h1 (s.wk e1.wk)
      | true =>
        rw [if_pos rfl]
        have q2 : PostS X.prog X.w X.K E Z H1 m1 D (match evSs G b ρ p1 with
          | .nx ρ1 h2 => whlLoop (evE G cc) (evSs G b) m ρ1 h2
          | .cnt ρ1 h2 => whlLoop (evE G cc) (evSs G b) m ρ1 h2
          | .brk ρ1 h2 => .nx ρ1 h2
          | r => r) := q1
        refine ⟨_, fun σ' H' hW => ⟨m, Nat.lt_succ_self _, hW⟩, Z, ρ, p1, m1, s.wk e1.wk, h1, ?_⟩
        cases er : evSs G b ρ p1 with
        | nx ρ3 h3 => rw [er] at q2; exact fun σ' H3 m3 e3 hr3 s3 => ⟨ρ3, h3, m3, s3, hr3, PostS.ext q2 e3⟩
        | cnt ρ3 h3 => rw [er] at q2; exact fun σ' H3 m3 e3 hr3 s3 => ⟨ρ3, h3, m3, s3, hr3, PostS.ext q2 e3⟩
        | brk ρ3 h3 => rw [er] at q2; exact q2
        | ret v h3 => rw [er] at q2; exact q2
        | exc c u h3 => rw [er] at q2; exact q2
        | stk => rw [er] at q2; exact q2.elim
end
end Ev
end
section
set_option maxRecDepth 100000
/-! EvP: comprehensions that are assigned; names stored from the right. -/
namespace Ev
open PySem PySem.Spec PyProof.Rows L2

section
variable {X : Cx} {G : Ctx} {E : XK}
theorem lc_imp {own : List Nat} {ci : CI} {t : Tg} {cc ce : CE} {mu : Bool} (hown : ∀ i ∈ tgIx t, i ∈ own) : ∀ σ H Q, RE X G E (.lc mu own t ci cc ce) σ H Q → tLc (RI X G E ci) (rdG X.prog X.w X.K t) (RT X G F0 cc) (RE X G F0 ce) own σ H Q := fun σ H Q ⟨Z, ρ, ph, mm, hρ, hr, q⟩ => by
  rw [lc_eq] at q
  refine ⟨Z, ρ, ph, mm, hρ, hr, ?_⟩
  cases er : evI G ci ρ ph with
  | stk => rw [er] at q; exact q.elim
  | exc c u h => rw [er] at q; exact q
  | ok its h1 =>
    rw [er] at q
    intro J H1 m1 e1 h1r k D hD
    exact lc_walk (hρ.wk e1.wk) h1r k hown hD (PostG.ext q e1)
/-- name = [..], the name a local on the same line -/
theorem rs_setLc (B : Bx X) {i : Nat} {y : Str} {py : Pos} {elt tg iter : Expr} {ifs : List Expr} {scope : Scope} {own : List (Str × Nat)} {pos spos : Pos} {ci : CI} {t : Tg} {cc ce : CE} {mu : Bool} (hy : X.N[i]? = some y) (hyl : X.env.scope.names.lookup y = some .local)
    (hsw : swapsWith (.ListComp elt [⟨tg, iter, ifs, 0⟩] scope pos) (some (.Name y py)) spos.line X.env = pure true) (hi : PI X tg iter (RI X G E ci)) (ok : BlkOk X.N X.env.scope scope own) (hown : ∀ i ∈ tgIx t, i ∈ own.map (·.2))
    (hg : ∀ (s : Shared) (H : Hp) (C : Addr) (cl : List (Str × Addr)) (fp : List Addr), PG (X.blk s H scope (compEnvC scope cl C X.env) fp) tg (rdG X.prog X.w X.K t)) (ht : ∀ (s : Shared) (H : Hp) (C : Addr) (cl : List (Str × Addr)) (fp : List Addr), PTs (X.blk s H scope (compEnvC scope cl C X.env) fp) ifs (RT X G F0 cc))
    (he : ∀ (s : Shared) (H : Hp) (C : Addr) (cl : List (Str × Addr)) (fp : List Addr), PE (X.blk s H scope (compEnvC scope cl C X.env) fp) elt (RE X G F0 ce)) (hs : ∀ x, foldedSetIterable iter X.env x = pure x) :
    PS X (.Assign [.Name y py] (.ListComp elt [⟨tg, iter, ifs, 0⟩] scope pos) spos) (RS' X G E (.asg (.nm i) (.lc mu (own.map (·.2)) t ci cc ce))) :=
  PS.imp (ps_setLc B.calm B.nd hy hyl hsw hi ok hg ht he hs) fun D σ H ⟨Z, ρ, ph, mm, hρ, hr, q⟩ => by
    rw [evS] at q
    refine lc_imp hown σ H _ ⟨Z, ρ, ph, mm, hρ, hr, q.on.mono fun x H1 ⟨v, p1, m1, e1, h1, r1, q1⟩ => ?_⟩
    unfold stP at q1
    split at q1
    · exact q1 _ H1 m1 (Ext.refl _ _) h1 ((hρ.wk e1.wk).set r1)
    · exact q1.elim

/-! ### names stored from the right -/
def setAll (σ : L2.St) : List Nat → List V → L2.St
  | i :: is, v :: vs => setAll (σ.set i (some v)) is vs
  | _, _ => σ
/-- the stores of plain names -/
theorem names_ok {pins : List (Addr × Obj)} {E' : Value → Shared → Prop} {Q : Unit → Shared → Prop} (hN : X.N.Nodup) {H : Hp} {names : List Str} {is : List Nat} (hh : Paired (fun x i => X.N[i]? = some x ∧ X.env.scope.names.lookup x = some .local) names is) :
    ∀ {vs : List V} {us : List Value} {s : Shared} {σ : L2.St}, Inv X pins σ H s → Vals vs us → names.length = us.length → (∀ s', Inv X pins (setAll σ is vs) H s' → Q () s') → wpAny (model X.prog X.w) X.A (assignInOrder (names.map fun n => bindName X.env n) us) Q E' s := by
  induction hh with
  | nil =>
    intro vs us s σ I r hl q
    cases r with
    | nil => exact assignInOrder_nil (q s I)
    | cons _ _ => cases hl
  | cons h t ih =>
    intro vs us s σ I r hl q
    cases r with
    | nil => cases hl
    | cons r rr =>
      rw [List.map_cons]
      exact assignInOrder_cons (wpAny_bindName (store_ok I hN h.1 (.inl h.2) r (fun s' I' => ih I' rr (Nat.succ.inj hl) q) (.inr h.2)))
theorem setAll_in {i : Nat} {v : V} : ∀ {is : List Nat} {vs : List V} {σ : L2.St}, i ∉ is → setAll (σ.set i (some v)) is vs = (setAll σ is vs).set i (some v)
  | [], _, _, _ => rfl
  | _ :: _, [], _, _ => rfl
  | j :: is, u :: vs, σ, h => by
    have hj : j ≠ i := fun e => h (e ▸ List.mem_cons_self ..)
    show setAll ((σ.set i (some v)).set j (some u)) is vs = (setAll (σ.set j (some u)) is vs).set i (some v)
    rw [List.set_comm _ _ (Ne.symm hj), setAll_in fun z => h (List.mem_cons_of_mem _ z)]
theorem setAll_snoc {i : Nat} {v : V} : ∀ {is : List Nat} {vs : List V} {σ : L2.St}, is.length = vs.length → setAll σ (is ++ [i]) (vs ++ [v]) = (setAll σ is vs).set i (some v)
  | [], [], _, _ => rfl
  | [], _ :: _, _, h => by cases h
  | _ :: _, [], _, h => by cases h
  | j :: is, u :: vs, σ, h => setAll_snoc (is := is) (vs := vs) (σ := σ.set j (some u)) (Nat.succ.inj h)
theorem setAll_rev : ∀ {is : List Nat} {vs : List V} {σ : L2.St}, is.Nodup → is.length = vs.length → setAll σ is.reverse vs.reverse = setAll σ is vs
  | [], [], _, _, _ => rfl
  | [], _ :: _, _, _, h => by cases h
  | _ :: _, [], _, _, h => by cases h
  | i :: is, v :: vs, σ, hn, h => by
    have hn' := List.nodup_cons.mp hn
    rw [List.reverse_cons, List.reverse_cons, setAll_snoc (by simp; exact Nat.succ.inj h), setAll_rev hn'.2 (Nat.succ.inj h), ← setAll_in hn'.1]; rfl
theorem stPs_nms {Z : Addr → Prop} {D : Ends} : ∀ {is : List Nat} {us : List PV} {vs : List V} {ρ : Env} {σ : L2.St} {H : Hp} {mm : List Addr} {ph : PH}, SRp X.prog X.w X.K Z H mm ρ σ → HRp X.prog X.w X.K Z H mm ph → Rps X.prog X.w X.K Z H mm us vs →
    PostS X.prog X.w X.K E Z H mm D (stPs G (is.map Pl.nm) us ρ ph) → D.nx (setAll σ is vs) H
  | [], _, _, _, _, _, _, _, s, h, .nil, q => by
    rw [List.map_nil] at q
    unfold stPs at q
    exact q _ _ _ (Ext.refl _ _) h s
  | [], _, _, _, _, _, _, _, s, h, .cons _ _, q => q.elim
  | _ :: _, _, _, _, _, _, _, _, s, h, .nil, q => q.elim
  | i :: is, _, _, ρ, σ, H, mm, ph, s, h, .cons (x := u) (v := v) r rr, q => by
    rw [List.map_cons] at q
    unfold stPs stP at q
    by_cases hi : i < ρ.length
    · rw [if_pos hi] at q
      exact stPs_nms (is := is) (s.set r) h rr q
    · rw [if_neg hi] at q
      exact q.elim
theorem rs_swp (B : Bx X) {ts : List Expr} {kt : Nat} {pt pos : Pos} {e : Expr} {ce : CE} {names : List Str} {is : List Nat} (hn : ncomp e = true) (hw : swappedStores [.Tuple ts kt pt] e X.env = pure (some names)) (hd : is.Nodup) (hl : names.length = is.length)
    (hh : Paired (fun x i => X.N[i]? = some x ∧ X.env.scope.names.lookup x = some .local) names.reverse is.reverse) (he : PE X e (RE X G E ce)) : PS X (.Assign [.Tuple ts kt pt] e pos) (RS' X G E (.asg (.tp (is.map Pl.nm)) ce)) := by
  refine ⟨fun pins s σ H D I ⟨Z, ρ, ph, mm, hρ, hr, q⟩ => ?_⟩
  unfold evS at q
  have hsole : swapsWithSole [.Tuple ts kt pt] e pos.line X.env = pure false := swaps_no (t := some (.Tuple ts kt pt)) (l := pos.line) (env := X.env) hn
  rw [exec_Assign_arm]
  refine wpAny_bind (wpAny_standAt (wpAny_bind ?_))
  rw [hsole]
  refine wpAny_pure ?_
  rw [if_neg Bool.false_ne_true]
  refine wpAny_bind (thn (he.run pins s σ H _ I ⟨Z, ρ, ph, mm, hρ, hr, q.on⟩) fun v s1 ⟨x, H1, I1, r1, a, p1, m1, e1, h1, ra, q1⟩ => ?_)
  have s1' := hρ.wk e1.wk
  have tup : ∃ us t xs, x = .ref t ∧ SqT X.K H1 t xs ∧ Rps X.prog X.w X.K Z H1 m1 us xs ∧ us.length = is.length ∧ PostS X.prog X.w X.K E Z H1 m1 D (stPs G (is.map Pl.nm) us ρ p1) := by
    unfold stP at q1
    split at q1
    · rename_i us es
      split at q1
      · rename_i hlen
        have := see_tup h1 ra es
        subst this
        obtain ⟨t, xs, rfl, hp, rs⟩ := ra.tup_
        exact ⟨us, t, xs, rfl, .inl (.inl hp), rs, by rw [hlen, List.length_map], q1⟩
      · exact q1.elim
    · rename_i us es
      split at q1
      · rename_i hlen
        have := see_ftp h1 ra es
        subst this
        obtain ⟨t, xs, rfl, hp, rs⟩ := ra.ftp_
        exact ⟨us, t, xs, rfl, hp, rs, by rw [hlen, List.length_map], q1⟩
      · exact q1.elim
    · exact q1.elim
  obtain ⟨us, t, xs, rfl, hq, rs, hlen, q2⟩ := tup
  cases r1
  obtain ⟨its, rv, ht, hz⟩ := I1.tuple hq
  have hlv := rv.length
  have hlr := rs.len
  rw [hw]
  refine wpAny_bind (wpAny_pure ?_)
  show wpAny (model X.prog X.w) X.A (do rule "assign.swapped-stores"; let items ← unpackItems (.ref t) names.length none; assignInOrder (names.reverse.map fun n => bindName X.env n) items.reverse; pure Flow.next) _ _ _
  have hsz : its.toArray.size = names.length := by rw [List.size_toArray]; omega
  rw [← hsz]
  refine wpAny_bind (wpAny_rule (wpAny_bind (unpackItems_tuple (items := its.toArray) (I1.ok.hd B.calm) ht fun h' hx => ?_)))
  have I2 := I1.kept (h' := h') (t' := s1.toks) fun b o eo => hx b o (Nat.ne_of_lt (Heap.lt_size eo)) eo
  refine wpAny_bind (names_ok B.nd hh I2 (vs := xs.reverse) (us := its.reverse) (L2.Vals.reverse rv) (by rw [List.length_reverse, List.length_reverse]; rw [List.size_toArray] at hsz; omega) fun s3 I3 => wpAny_pure ⟨_, H1, I3, ?_⟩)
  rw [setAll_rev hd (by omega)]
  exact stPs_nms s1' h1 rs q2
end
end Ev
end
section
set_option maxRecDepth 100000
/-! EvQ: what leaves a def: the objects made in it go, as trees. -/
namespace Ev
open PySem PySem.Spec PyProof.Rows L2

section
variable {P : Program} {w : World} {K : PySem.W.Frag} {Z : Addr → Prop} {H : Hp} {mm : List Addr} {n : Nat}
theorem Fz.low {a : Addr} (h : Fz Z mm a) (n : Nat) : Fz Z (mm.take n) a := ⟨fun z => h.1 (List.mem_of_mem_take z), h.2⟩
mutual
theorem Rp.low : ∀ {v : PV} {x : V}, Rp P w K Z H mm v x → v.closed n = true → Rp P w K Z H (mm.take n) v x
  | _, _, .non, _ => .non
  | _, _, .bl b, _ => .bl b
  | _, _, .int i, _ => .int i
  | _, _, .str x, _ => .str x
  | _, _, .tup h f r, c => .tup h (f.low n) (Rps.low r (by unfold PV.closed at c; exact c))
  | _, _, .tupK h r, c => .tupK h (Rps.low r (by unfold PV.closed at c; exact c))
  | _, _, .lst h f r, c => .lst h (f.low n) (Rps.low r (by unfold PV.closed at c; exact c))
  | _, _, .fls h f r, c => .fls h (f.low n) (Rps.low r (by unfold PV.closed at c; exact c))
  | _, _, .flsK h r, c => .flsK h (Rps.low r (by unfold PV.closed at c; exact c))
  | _, _, .dct h f r, c => .dct h (f.low n) (Rkv.low r (by unfold PV.closed at c; exact c))
  | _, _, .dctK h r, c => .dctK h (Rkv.low r (by unfold PV.closed at c; exact c))
  | _, _, .dctT h f r, c => .dctT h (f.low n) (RkvT.low r (by unfold PV.closed at c; exact c))
  | _, _, .ref (n := m) h, c => .ref (by unfold PV.closed at c; rw [List.getElem?_take, if_pos (of_decide_eq_true c)]; exact h)
  | _, _, .exc h1 h2 f1 f2 r, c => .exc h1 h2 (f1.low n) (f2.low n) (Rp.low r (by unfold PV.closed at c; exact c))
theorem Rps.low : ∀ {v : List PV} {x : List V}, Rps P w K Z H mm v x → PV.closedL n v = true → Rps P w K Z H (mm.take n) v x
  | _, _, .nil, _ => .nil
  | _, _, .cons h r, c => by
    unfold PV.closedL at c
    have c := Bool.and_eq_true_iff.mp c
    exact .cons (Rp.low h c.1) (Rps.low r c.2)
theorem Rkv.low : ∀ {v : List (PV × PV)} {x : List (Key × V)}, Rkv P w K Z H mm v x → PV.closedD n v = true → Rkv P w K Z H (mm.take n) v x
  | _, _, .nil, _ => .nil
  | _, _, .cons e h r, c => by
    unfold PV.closedD PV.closedP at c
    have c := Bool.and_eq_true_iff.mp c
    exact .cons e (Rp.low h (Bool.and_eq_true_iff.mp c.1).2) (Rkv.low r c.2)
theorem RkvT.low : ∀ {v : List (PV × PV)} {x : List (List Key × V)}, RkvT P w K Z H mm v x → PV.closedD n v = true → RkvT P w K Z H (mm.take n) v x
  | _, _, .nil, _ => .nil
  | _, _, .cons e h r, c => by
    unfold PV.closedD PV.closedP at c
    have c := Bool.and_eq_true_iff.mp c
    exact .cons e (Rp.low h (Bool.and_eq_true_iff.mp c.1).2) (RkvT.low r c.2)
end
theorem Rfs.low : ∀ {v : List (Tx × PV)} {x : List (Str × V)}, Rfs P w K Z H mm v x → (v.all fun p => p.2.closed n) = true → Rfs P w K Z H (mm.take n) v x
  | _, _, .nil, _ => .nil
  | _, _, .cons h r, c => by
    have c := Bool.and_eq_true_iff.mp (by rw [List.all_cons] at c; exact c)
    exact .cons (h.low c.1) (Rfs.low r c.2)
theorem OR.low {o : PO} {a : Addr} (h : OR P w K Z H mm o a) (c : o.closed n = true) : OR P w K Z H (mm.take n) o a := by
  cases h with
  | lst h r => exact .lst h (r.low c)
  | dct h r => exact .dct h (r.low c)
  | dctT h r => exact .dctT h (r.low c)
  | ins h r => exact .ins h (r.low c)
  | lckL h r => exact .lckL h (r.low c)
  | lckD h r => exact .lckD h (r.low c)
  | lckT h r => exact .lckT h (r.low c)
  | tbl h r =>
    obtain ⟨ps, h1, h2, h3⟩ := r
    exact .tbl h ⟨ps, h1, h2, fun pos cv hc => let ⟨c1, e1, e2, e3⟩ := h3 pos cv hc; ⟨c1, e1, e2, e3.low n⟩⟩
theorem HRp.low {ph : PH} (h : HRp P w K Z H mm ph) (c : (ph.take n).all (PO.closed n) = true) : HRp P w K Z H (mm.take n) (ph.take n) := by
  refine ⟨by simp [h.len], h.nd.sublist (List.take_sublist _ _), fun i o a h1 h2 => ?_, fun a z => ⟨(h.zs a z).1, fun m => (h.zs a z).2 (List.mem_of_mem_take m)⟩⟩
  have hc := List.all_eq_true.mp c o (List.mem_of_getElem? h1)
  rw [List.getElem?_take] at h1 h2
  split at h1
  · rename_i hi
    rw [if_pos hi] at h2
    exact (h.ob i o a h1 h2).low hc
  · cases h1

theorem mapM_cons_some {α β : Type} {f : α → Option β} {x : α} {xs : List α} {ys : List β} (h : (x :: xs).mapM f = some ys) : ∃ y r, ys = y :: r ∧ f x = some y ∧ xs.mapM f = some r := by
  rw [List.mapM_cons] at h
  cases e : f x with
  | none => rw [e] at h; cases h
  | some y =>
    rw [e] at h
    cases e2 : xs.mapM f with
    | none => rw [e2] at h; cases h
    | some r => rw [e2] at h; cases h; exact ⟨y, r, rfl, rfl, rfl⟩
theorem frzL {Z' : Addr → Prop} {m2 : List Addr} {f : PV → Option PV} (hf : ∀ v w' x, f v = some w' → Rp P w K Z H mm v x → Rp P w K Z' H m2 w' x) : ∀ {xs ws : List PV} {vs : List V}, xs.mapM f = some ws → Rps P w K Z H mm xs vs → Rps P w K Z' H m2 ws vs
  | [], ws, _, e, .nil => by
    have : ws = [] := by simpa using e.symm
    subst this; exact .nil
  | _ :: _, ws, _, e, .cons h r => by
    obtain ⟨y, r', rfl, e1, e2⟩ := mapM_cons_some e
    exact .cons (hf _ _ _ e1 h) (frzL hf e2 r)
theorem frzD {Z' : Addr → Prop} {m2 : List Addr} {f : PV → Option PV} (hf : ∀ v w' x, f v = some w' → Rp P w K Z H mm v x → Rp P w K Z' H m2 w' x) :
    ∀ {xs ws : List (PV × PV)} {vs : List (Key × V)}, (xs.mapM fun p => (f p.2).map fun w => (p.1, w)) = some ws → Rkv P w K Z H mm xs vs → Rkv P w K Z' H m2 ws vs
  | [], ws, _, e, .nil => by
    have : ws = [] := by simpa using e.symm
    subst this; exact .nil
  | (k, x) :: _, ws, _, e, .cons q h r => by
    obtain ⟨y, r', rfl, e1, e2⟩ := mapM_cons_some e
    cases e3 : f x with
    | none => rw [show f (k, x).2 = f x from rfl, e3] at e1; cases e1
    | some z => rw [show f (k, x).2 = f x from rfl, e3] at e1; cases e1; exact .cons q (hf _ _ _ e3 h) (frzD hf e2 r)
theorem frzT {Z' : Addr → Prop} {m2 : List Addr} {f : PV → Option PV} (hf : ∀ v w' x, f v = some w' → Rp P w K Z H mm v x → Rp P w K Z' H m2 w' x) :
    ∀ {xs ws : List (PV × PV)} {vs : List (List Key × V)}, (xs.mapM fun p => (f p.2).map fun w => (p.1, w)) = some ws → RkvT P w K Z H mm xs vs → RkvT P w K Z' H m2 ws vs
  | [], ws, _, e, .nil => by
    have : ws = [] := by simpa using e.symm
    subst this; exact .nil
  | (.tup ks, x) :: _, ws, _, e, .cons q h r => by
    obtain ⟨y, r', rfl, e1, e2⟩ := mapM_cons_some e
    cases e3 : f x with
    | none => rw [show f (PV.tup ks, x).2 = f x from rfl, e3] at e1; cases e1
    | some z => rw [show f (PV.tup ks, x).2 = f x from rfl, e3] at e1; cases e1; exact .cons q (hf _ _ _ e3 h) (frzT hf e2 r)
theorem map_some' {α β : Type} {f : α → β} {o : Option α} {b : β} (h : o.map f = some b) : ∃ a, o = some a ∧ f a = b := by
  cases o with
  | none => cases h
  | some a => cases h; exact ⟨a, rfl, rfl⟩
theorem frz_ok {h : PH} (hr : HRp P w K Z H mm h) : ∀ (k : Nat) (v w' : PV) (x : V), frz n h k v = some w' → Rp P w K Z H mm v x → Rp P w K Z H (mm.take n) w' x
  | 0, v, w', x, e, r => by
    unfold frz at e
    split at e
    · rename_i c
      cases e; exact r.low c
    · cases e
  | k + 1, v, w', x, e, r => by
    have ih := frz_ok hr k
    unfold frz at e
    split at e
    · rename_i c
      cases e; exact r.low c
    · rename_i nc
      split at e
      · rename_i m
        cases r with
        | ref q =>
        rename_i a
        have fz : Fz Z (mm.take n) a := by
          refine ⟨fun z => nc ?_, fun z => (hr.zs a z).2 (List.mem_of_getElem? q)⟩
          obtain ⟨j, hj, ej⟩ := List.getElem_of_mem z
          rw [List.getElem_take] at ej
          have hj' : j < n := by rw [List.length_take] at hj; omega
          have hjm : j < mm.length := by rw [List.length_take] at hj; omega
          have hm : m < mm.length := (List.getElem?_eq_some_iff.mp q).1
          have em : mm[m] = a := (List.getElem?_eq_some_iff.mp q).2
          have : j = m := (List.getElem_inj hr.nd).mp (ej.trans em.symm)
          unfold PV.closed
          exact decide_eq_true (this ▸ hj')
        cases em : h[m]? with
        | none => rw [em] at e; cases e
        | some o =>
          rw [em] at e
          have ho := hr.ob m o a em q
          cases ho with
          | lst hl rl => obtain ⟨ws, e1, rfl⟩ := map_some' e; exact .lst hl fz (frzL ih e1 rl)
          | dct hl rl => obtain ⟨ws, e1, rfl⟩ := map_some' e; exact .dct (.inl hl) fz (frzD ih e1 rl)
          | dctT hl rl => obtain ⟨ws, e1, rfl⟩ := map_some' e; exact .dctT (.inl hl) fz (frzT ih e1 rl)
          | ins hl rl => cases e
          | lckL hl rl => cases e
          | lckD hl rl => cases e
          | lckT hl rl => cases e
          | tbl _ _ => cases e
      · obtain ⟨ws, e1, rfl⟩ := map_some' e
        cases r with
        | tup h f r => exact .tup h (f.low n) (frzL ih e1 r)
      · obtain ⟨ws, e1, rfl⟩ := map_some' e
        cases r with
        | lst h f r => exact .lst h (f.low n) (frzL ih e1 r)
      · obtain ⟨ws, e1, rfl⟩ := map_some' e
        cases r with
        | dct h f r => exact .dct h (f.low n) (frzD ih e1 r)
        | dctT h f r => exact .dctT h (f.low n) (frzT ih e1 r)
      · cases e
theorem Ext.low {H' : Hp} {m1 : List Addr} (e : Ext H mm H' m1) : m1.take mm.length = mm ∧ Ext H mm H' mm := by
  obtain ⟨ex, rfl, hx⟩ := e.pre
  exact ⟨by simp, e.keep, e.there, e.frz, [], by simp, fun _ z => nomatch z⟩
/-- what leaves, seen from ahead of the run -/
theorem leave_ok {E : XK} {Q : VK} {r : R PV} (q : PostE P w K Z E H mm Q (leave mm.length r)) : PostE P w K Z E H mm Q r := by
  cases r with
  | ok v h =>
    intro x H' m1 e hr rp
    obtain ⟨em, e2⟩ := e.low
    unfold leave at q
    dsimp only at q
    split at q
    · rename_i w' ew
      split at q
      · rename_i hc
        have a := hr.low hc
        have b := frz_ok hr 6 v w' x ew rp
        rw [em] at a b
        exact q x H' mm e2 a b
      · exact False.elim q
    · exact False.elim q
  | exc c u h =>
    intro x d H' m1 e hr hd fz rp
    obtain ⟨em, e2⟩ := e.low
    unfold leave at q
    dsimp only at q
    split at q
    · rename_i hc
      obtain ⟨hc1, hc2⟩ := Bool.and_eq_true_iff.mp hc
      have a := hr.low hc2
      have b := rp.low hc1
      have f := fz.low mm.length
      rw [em] at a b f
      exact q x d H' mm e2 a hd f b
    · exact False.elim q
  | stk => exact q

/-- the caller's objects are barred -/
abbrev ZU (Z : Addr → Prop) (mm : List Addr) : Addr → Prop := fun a => Z a ∨ a ∈ mm
theorem ZU.fz {a : Addr} (h : Fz Z mm a) : Fz (ZU Z mm) [] a := ⟨(fun z => nomatch z), fun z => Or.elim z h.2 h.1⟩
theorem ZU.of {a : Addr} (h : Fz (ZU Z mm) [] a) : Fz Z mm a := ⟨fun z => h.2 (.inr z), fun z => h.2 (.inl z)⟩
mutual
theorem Rp.inZ : ∀ {v : PV} {x : V}, Rp P w K Z H mm v x → v.closed 0 = true → Rp P w K (ZU Z mm) H [] v x
  | _, _, .non, _ => .non
  | _, _, .bl b, _ => .bl b
  | _, _, .int i, _ => .int i
  | _, _, .str x, _ => .str x
  | _, _, .tup h f r, c => .tup h (ZU.fz f) (Rps.inZ r (by unfold PV.closed at c; exact c))
  | _, _, .tupK h r, c => .tupK h (Rps.inZ r (by unfold PV.closed at c; exact c))
  | _, _, .lst h f r, c => .lst h (ZU.fz f) (Rps.inZ r (by unfold PV.closed at c; exact c))
  | _, _, .fls h f r, c => .fls h (ZU.fz f) (Rps.inZ r (by unfold PV.closed at c; exact c))
  | _, _, .flsK h r, c => .flsK h (Rps.inZ r (by unfold PV.closed at c; exact c))
  | _, _, .dct h f r, c => .dct h (ZU.fz f) (Rkv.inZ r (by unfold PV.closed at c; exact c))
  | _, _, .dctK h r, c => .dctK h (Rkv.inZ r (by unfold PV.closed at c; exact c))
  | _, _, .dctT h f r, c => .dctT h (ZU.fz f) (RkvT.inZ r (by unfold PV.closed at c; exact c))
  | _, _, .ref (n := m) h, c => by unfold PV.closed at c; exact absurd (of_decide_eq_true c) (Nat.not_lt_zero _)
  | _, _, .exc h1 h2 f1 f2 r, c => .exc h1 h2 (ZU.fz f1) (ZU.fz f2) (Rp.inZ r (by unfold PV.closed at c; exact c))
theorem Rps.inZ : ∀ {v : List PV} {x : List V}, Rps P w K Z H mm v x → PV.closedL 0 v = true → Rps P w K (ZU Z mm) H [] v x
  | _, _, .nil, _ => .nil
  | _, _, .cons h r, c => by
    unfold PV.closedL at c
    have c := Bool.and_eq_true_iff.mp c
    exact .cons (Rp.inZ h c.1) (Rps.inZ r c.2)
theorem Rkv.inZ : ∀ {v : List (PV × PV)} {x : List (Key × V)}, Rkv P w K Z H mm v x → PV.closedD 0 v = true → Rkv P w K (ZU Z mm) H [] v x
  | _, _, .nil, _ => .nil
  | _, _, .cons e h r, c => by
    unfold PV.closedD PV.closedP at c
    have c := Bool.and_eq_true_iff.mp c
    exact .cons e (Rp.inZ h (Bool.and_eq_true_iff.mp c.1).2) (Rkv.inZ r c.2)
theorem RkvT.inZ : ∀ {v : List (PV × PV)} {x : List (List Key × V)}, RkvT P w K Z H mm v x → PV.closedD 0 v = true → RkvT P w K (ZU Z mm) H [] v x
  | _, _, .nil, _ => .nil
  | _, _, .cons e h r, c => by
    unfold PV.closedD PV.closedP at c
    have c := Bool.and_eq_true_iff.mp c
    exact .cons e (Rp.inZ h (Bool.and_eq_true_iff.mp c.1).2) (RkvT.inZ r c.2)
end
theorem ZU.out : Wk (ZU Z mm) Z H [] H mm := Wk.swap (fun _ h => ZU.of h) (fun _ _ h => by simp at h)
theorem pure_ok {E : XK} {Q : VK} {r : R PV} {ph : PH} (hr : HRp P w K Z H mm ph) (q : PostE P w K Z E H mm Q (back ph (leave 0 r))) : PostE P w K (ZU Z mm) E H [] Q r := by
  have key : ∀ H' m1, Ext H [] H' m1 → HRp P w K Z H' mm ph ∧ Ext H mm H' mm := fun H' m1 e => by
    have ee : Ext H mm H' mm := ⟨fun a o _ h => e.keep a o (fun z => nomatch z) h, e.there, e.frz, [], by simp, fun _ z => nomatch z⟩
    refine ⟨hr.wk ee.wk (fun a ha => ?_) (hr.zsE ee), ee⟩
    obtain ⟨u, hu⟩ := hr.there ha
    rw [hu]; exact e.keep a u (fun z => nomatch z) hu
  cases r with
  | ok v h =>
    intro x H' m1 e hr1 rp
    obtain ⟨k1, k2⟩ := key H' m1 e
    unfold leave at q
    dsimp only at q
    split at q
    · rename_i w' ew
      split at q
      · have b := frz_ok hr1 6 v w' x ew rp
        exact q x H' mm k2 k1 (b.wk ZU.out)
      · exact False.elim q
    · exact False.elim q
  | exc c u h =>
    intro x d H' m1 e hr1 hd fz rp
    obtain ⟨k1, k2⟩ := key H' m1 e
    unfold leave at q
    dsimp only at q
    split at q
    · rename_i hc
      obtain ⟨hc1, hc2⟩ := Bool.and_eq_true_iff.mp hc
      have b := rp.low hc1
      exact q x d H' mm k2 k1 hd (ZU.of (fz.low 0)) (b.wk ZU.out)
    · exact False.elim q
  | stk => exact q
end
end Ev
end
section
set_option maxRecDepth 100000
/-! EvR: what a def promises: its evaluator's run; calls. -/
namespace Ev
open PySem PySem.Spec PyProof.Rows L2

/-- a def's promise, by the evaluator's function g -/
def spG (P : Program) (w : World) (K : PySem.W.Frag) (np : Nat) (g : F1) : Sp := fun vs H Q E => vs.length = np ∧ ∃ Z ph mm us, HRp P w K Z H mm ph ∧ Rps P w K Z H mm us vs ∧ PostE P w K Z E H mm Q (g us ph)
/-- as the kit's FnOk, for callers that show nothing at the moment -/
structure FnG (P : Program) (w : World) (K : PySem.W.Frag) (mg0 : Str → Option Value) (bs0 : Heap) (k : Nat) (f : Addr) (fd : FuncData) (ps : List Str) (g : F1) : Prop where
  run : ∀ (A : Around) (outer : List PySem.Env) (s : Shared) (H : Hp) (args : Args) (us : List Value) (vs : List V) (Q : VK) (E : XK), Room k A → A.guards = some [] → Env0 P w K mg0 bs0 A outer s H → BindsTo s fd args (ps.zip us) → Vals vs us → spG P w K ps.length g vs H Q E →
    codeAny (model P w) A (.call (.ref f) args) (CR (L2.CX P w) outer P w H s Q E) s
theorem FnG.mono {P : Program} {w : World} {K : PySem.W.Frag} {mg0 : Str → Option Value} {bs0 : Heap} {j k : Nat} {f : Addr} {fd : FuncData} {ps : List Str} {g : F1} (F : FnG P w K mg0 bs0 j f fd ps g) (h : j ≤ k) :
    FnG P w K mg0 bs0 k f fd ps g := ⟨fun A outer s H args us vs Q E hr => F.run A outer s H args us vs Q E (hr.mono h)⟩

section
variable {P : Program} {w : World} {K : PySem.W.Frag} {E : XK} {Z : Addr → Prop} {H : Hp} {mm : List Addr} {Q : VK}
/-- a body's end -/
theorem PostS.of_run {G : Ctx} {c : CSs} {ρ : Env} {ph : PH}
    (q : PostE P w K Z E H mm Q (match evSs G c ρ ph with
      | .ret v h1 => .ok v h1
      | .nx _ h1 => .ok .non h1
      | .exc c a h1 => .exc c a h1
      | _ => .stk)) : PostS P w K E Z H mm { nx := fun _ H' => Q .non H', rt := Q } (evSs G c ρ ph) := by
  cases e : evSs G c ρ ph with
  | ret v h => rw [e] at q; exact q
  | nx ρ1 h => rw [e] at q; exact fun σ H' mm' ee h1 _ => q .non H' mm' ee h1 .non
  | exc c u h => rw [e] at q; exact q
  | brk ρ1 h => rw [e] at q; exact False.elim q
  | cnt ρ1 h => rw [e] at q; exact False.elim q
  | stk => rw [e] at q; exact False.elim q
theorem Rps.look : ∀ {us : List PV} {vs : List V}, Rps P w K Z H mm us vs → ∀ (n : Nat) (i : Nat) (v : PV), (us.map some ++ List.replicate n (none : Option PV))[i]? = some (some v) → ∃ x, (vs.map some ++ List.replicate n (none : Option V))[i]? = some (some x) ∧ Rp P w K Z H mm v x
  | _, _, .nil, n, i, v, h => by
    have h' : (List.replicate n (none : Option PV))[i]? = some (some v) := h
    rw [List.getElem?_replicate] at h'
    split at h' <;> cases h'
  | _, _, .cons r rs, n, 0, v, h => by
    have e : some _ = some v := Option.some.inj h
    cases e
    exact ⟨_, rfl, r⟩
  | _, _, .cons r rs, n, i + 1, v, h => Rps.look rs n i v h
theorem SRp.start {us : List PV} {vs : List V} {N : List Str} {nl : Nat} (r : Rps P w K Z H mm us vs) (h : nl = N.length) : SRp P w K Z H mm (us.map some ++ List.replicate (nl - us.length) none) (L2.start N vs) := by
  subst h
  have hlen := r.len
  refine ⟨?_, fun i v e => ?_⟩
  · unfold L2.start
    simp [hlen]
  · unfold L2.start
    rw [hlen] at e
    exact r.look _ i v e
end

/-- a def of the text, by its body -/
theorem fn_ofG {P : Program} {w : World} {K : PySem.W.Frag} {mg0 : Str → Option Value} {bs0 : Heap} {k : Nat} {f : Addr} {name ql : Str} {params : Arguments} {body : List Stmt} {sco : Scope} {dV kV doc pm cdv ct oc : Value} {an od : Option Addr}
    {osl : Array (Option Value)} {N ps : List Str} {G : Ctx} {c : Fn} (lk : K.lookup f = some ⟨oc, od, .func (PySem.W.fnOf name ql params body sco dV kV doc pm an cdv ct), osl⟩) (hcd : PySem.W.codeIn K cdv ql = true) (S : FnScope N ps sco)
    (hnp : c.np = ps.length) (hnl : c.nl = N.length)
    (hbody : ∀ (A : Around) (outer : List PySem.Env) (s : Shared) (H : Hp) (E : XK), Room k (A.deeper (envOfC ql sco s.heap.objs.size f cdv)) → A.guards = some [] →
      PSs (cxOf (L2.CX P w) P w K mg0 bs0 N ql sco f cdv A outer s H E) body (rdSs P w K E G c.body)) :
    FnG P w K mg0 bs0 (k + 1) f (PySem.W.fnOf name ql params body sco dV kV doc pm an cdv ct) ps (runF G c) := by
  refine ⟨fun A outer s H args us vs Q E hr hgd e0 hb r hsp => ?_⟩
  obtain ⟨hlen, Z, ph, mm, xs, hrp, rxs, q⟩ := hsp
  have KX : K.In s.heap := e0.mod.kin.keeps fun b o e => (e0.bs b o e).1
  have nol : s.heap.NoLimit := e0.mod.nolimit.keeps fun b o e => (e0.bs b o e).1
  have knd : ∀ y ∈ ps.zip us, sco.names.lookup y.1 = some .local ∨ (sco.names.lookup y.1 = some .cell ∧ ((cellsFrom (s.heap.objs.size + 1) sco.names []).lookup y.1).isSome = true) := fun ⟨n, v⟩ hy => by
    rcases S.par n (List.of_mem_zip hy).1 with q | q
    · exact .inl q
    · exact .inr ⟨q, PySem.W.cellsFrom_some _ _ _ (.inl q)⟩
  refine codeAny_call_function hr.depth (KX _ _ lk) rfl S.co S.gen rfl (PySem.W.codeRec_of KX hcd) (hb _ _ _ _ ?_)
  refine wpAny_newFunctionEnv_cells S.kind knd fun env he s1 x => ?_
  subst he
  refine ⟨nol.keeps x.toInCall.keep, codeAny_func ?_⟩
  have hbd := hbody A outer s H E (hr.deeper _) hgd
  have I : Inv (cxOf (L2.CX P w) P w K mg0 bs0 N ql sco f cdv A outer s H E) [] (L2.start N vs) H s1 := inv_start S hr.hd e0 hlen r x
  have hx : xs.length = c.np := by rw [rxs.len, hlen, hnp]
  have hq : rdSs P w K E G c.body { nx := fun _ H' => Q .non H', rt := Q } (L2.start N vs) H := by
    unfold runF at q
    rw [if_pos hx] at q
    cases hm : c.mode with
    | opn =>
      rw [hm] at q
      have q1 : PostE P w K Z E H mm Q (runB G c xs ph) := q
      unfold runB at q1
      rw [← hx] at q1
      exact ⟨Z, _, ph, mm, SRp.start rxs hnl, hrp, PostS.of_run q1⟩
    | trim =>
      rw [hm] at q
      have q1 : PostE P w K Z E H mm Q (leave ph.length (runB G c xs ph)) := q
      rw [← hrp.len] at q1
      have q2 := leave_ok q1
      unfold runB at q2
      rw [← hx] at q2
      exact ⟨Z, _, ph, mm, SRp.start rxs hnl, hrp, PostS.of_run q2⟩
    | pure =>
      rw [hm] at q
      have q1 : PostE P w K Z E H mm Q (if PV.closedL 0 xs then back ph (leave 0 (runB G c xs [])) else .stk) := q
      split at q1
      · rename_i hc
        have q2 := pure_ok hrp q1
        unfold runB at q2
        rw [← hx] at q2
        refine ⟨ZU Z mm, _, [], [], SRp.start (rxs.inZ hc) hnl, HRp.nil fun a z => ?_, PostS.of_run q2⟩
        rcases z with z | z
        · exact (hrp.zs a z).1
        · exact hrp.there z
      · exact False.elim q1
  refine wpAny_mono (hbd.run [] s1 (L2.start N vs) H _ I hq) (fun fl s' hs => ?_) fun e s' hs => hs
  have done_ : ∀ {σ' : L2.St} {H' : Hp} {v : V} {u : Value}, Inv (cxOf (L2.CX P w) P w K mg0 bs0 N ql sco f cdv A outer s H E) [] σ' H' s' → RelV v u → Q v H' → L2.CE outer P w H s Q u s' :=
    fun {σ' H' v u} J rv q => ⟨v, H', J.os, J.bare, J.base, J.hok, rv, q⟩
  cases fl with
  | ret u =>
    obtain ⟨v, σ', H', J, rv, q⟩ := hs
    exact done_ J rv q
  | next =>
    obtain ⟨σ', H', J, q⟩ := hs
    exact done_ (v := V.non) (u := Value.none) J rfl q
  | brk =>
    obtain ⟨_, _, _, q⟩ := hs
    exact False.elim q
  | cont =>
    obtain ⟨_, _, _, q⟩ := hs
    exact False.elim q

section
variable {X : Cx} {k : Nat} {f C : Addr} {fd : FuncData} {ps : List Str} {g : F1} {E : L2.St → XK} {x m : Str} {p ps1 apos : Pos} {e o : Expr} {ess : List Expr} {ta : TE} {t : TA}
theorem run_fnG {pn0 : List (Addr × Obj)} {σ : L2.St} {H : Hp} {s : Shared} {Q : VK} {us : List Value} {vs : List V} (F : FnG X.prog X.w X.K X.mg X.base k f fd ps g) (hr : Room k X.A) (hgd : X.A.guards = some []) (hb : Binds X.K fd ps [])
    (hx : PassesAt (L2.CX X.prog X.w) X σ (E σ))
    (I : Inv X pn0 σ H s) (r : Vals vs us) (h : spG X.prog X.w X.K ps.length g vs H Q (E σ)) : wpAny (model X.prog X.w) X.A (call (.ref f) us) (EP X pn0 σ Q) X.xe s := by
  have hlen : us.length = ps.length := by rw [← r.length]; exact h.1
  have b := hb s us I.kIn (by rw [List.append_nil]; exact hlen)
  rw [List.append_nil] at b
  refine wpAny_call (codeAny_mono (F.run X.A X.stack s H ⟨us, []⟩ us vs Q (E σ) hr hgd I.env0 b r h) fun r s' hq => ?_)
  cases r with
  | error e => exact hx pn0 H s e s' I hq
  | ok fl =>
    cases fl with
    | ret u => exact I.after hq
    | next => exact False.elim hq
    | brk => exact False.elim hq
    | cont => exact False.elim hq
theorem pe_callG (F : FnG X.prog X.w X.K X.mg X.base k f fd ps g) (hr : Room k X.A) (hgd : X.A.guards = some []) (hg : Gl X x) (hm : X.mg x = some (.ref f)) (hk : PySem.W.keepIn X.K (.ref f) = true) (hb : Binds X.K fd ps [])
    (hx : ∀ σ, PassesAt (L2.CX X.prog X.w) X σ (E σ))
    (ha : PA X (e :: ess) t) (hdb : (x == ("__debug__" : Str)) = false := by decide) (he : starEach (e :: ess) X.env = (false, eval e X.env) :: starEach ess X.env := by rfl) (hpl : (backTo ps1 (starEach ess X.env)).any (·.1) = false := by rfl) :
    PE X (.Call (.Name x p) (e :: ess) [] ps1) (tCallS (spG X.prog X.w X.K ps.length g) E t) := by
  refine ⟨fun pn0 s σ H Q I h => ?_⟩
  refine wpAny_Call_Name_kw (ld_glob I hg hm ?_ hdb)
  refine PySem.W.callWith_K (h₀ := X.base) I.ok.mod.kin hk (thn (ha.run ps1 pn0 s σ H _ I h) fun us s1 ⟨vs, H1, I1, r, q⟩ => ⟨I1.kIn, ?_⟩) he hpl
  exact run_fnG F hr hgd hb (hx σ) I1 r q
theorem pe_callG0 (F : FnG X.prog X.w X.K X.mg X.base k f fd ps g) (hr : Room k X.A) (hgd : X.A.guards = some []) (hg : Gl X x) (hm : X.mg x = some (.ref f)) (hk : PySem.W.keepIn X.K (.ref f) = true) (hb : Binds X.K fd ps [])
    (hx : ∀ σ, PassesAt (L2.CX X.prog X.w) X σ (E σ))
    (hdb : (x == ("__debug__" : Str)) = false := by decide) : PE X (.Call (.Name x p) [] [] ps1) (tCallS (spG X.prog X.w X.K ps.length g) E tNil) := by
  refine ⟨fun pn0 s σ H Q I h => ?_⟩
  refine wpAny_Call_Name_kw (ld_glob I hg hm ?_ hdb)
  exact PySem.W.callWith_K0 I.kIn hk (run_fnG (us := []) F hr hgd hb (hx σ) I .nil h)
end
end Ev
end
section
set_option maxRecDepth 100000
set_option maxHeartbeats 2000000
/-! EvS: own errors with one field (after the worked proof 42). -/
namespace PySem
namespace OwX
open PySem.W PySem.Calls PyProof.Rows PySem.HandSPX
/-! ### the text of __init__ -/
def iA (fl : Str) (p1 p2 : Pos) : Arguments := { posonlyargs := [], args := [{ arg := "self", annotation := none, pos := p1 }, { arg := fl, annotation := none, pos := p2 }], vararg := none, kwonlyargs := [], kw_defaults := [], kwarg := none, defaults := [] }
def iB (fl : Str) (q1 q2 q3 q4 : Pos) : List Stmt := [.Assign [.Attribute (.Name "self" q1) fl q2] (.Name fl q3) q4]
def iS (fl : Str) : Scope := { kind := .function, names := [(PySem.Str.ofString "self", .local), (fl, .local)], isGenerator := false, isCoroutine := false, more := [] }
/-- what the written part says of Ow, at C, and of its __init__, at fI -/
structure OwTxt (K : Frag) (mg : Str → Option Value) (nm fl ql : Str) (C fI : Addr) : Prop where
  gC : mg nm = some (.ref C)
  f1 : (fl == ("__debug__" : Str)) = false
  f2 : (nm == ("__debug__" : Str)) = false
  f3 : fl = ("reason" : Str) ∨ fl = ("index" : Str) ∨ fl = ("line" : Str)
  cls : ∃ nm q N bs bm sn sub ab col dd k0 k1 k2 k3 k5, K.lookup C = some (excClassObj nm q C N bs bm true sn sub ab col dd k0 k1 k2 k3 k5 "ValueError.__new__") ∧ refsVE bm = true
  sa : findIn K (.ref C) "__setattr__" = some (some (.builtin "object.__setattr__"))
  ga : findIn K (.ref C) "__getattribute__" = some (some (.builtin "BaseException.__getattribute__"))
  gg : findIn K (.ref C) "__getattr__" = some none
  noN : findIn K (.ref C) fl = some none
  iC : findIn K (.ref C) "__init__" = some (some (.ref fI))
  tC : typeIn K (.ref fI) = some (.type "function")
  kC : keepIn K (.ref C) = true
  exC : subIn K (.ref C) (.type "BaseException") = some true
  tyC : typeIn K (.ref C) = some (.type "type")
  hdC : hasDictIn K C = true
  te : exmOne K (.ref C) (.ref C) = some true
  fn : ∃ (oc : Value) (od : Option Addr) (doc pm : Value) (an : Option Addr) (cdv ct : Value) (osl : Array (Option Value)) (p1 p2 q1 q2 q3 q4 : Pos),
    K.lookup fI = some ⟨oc, od, .func (fnOf "__init__" ql (iA fl p1 p2) (iB fl q1 q2 q3 q4) (iS fl) .none .none doc pm an cdv ct), osl⟩ ∧ codeIn K cdv ql = true
theorem one_size (v : Value) : [v].length ≤ sizeLine := by
  rw [sizeLine_eq]
  exact (by decide : 1 ≤ 16777216)
theorem kept_but {K : Frag} {h h' : Heap} {x : Addr} (X : K.In h) (hx : K.lookup x = none) (k : ∀ b o, b ≠ x → h.get? b = some o → h'.get? b = some o) : K.In h' := fun a o e =>
  k a o (fun z => by rw [z, hx] at e; cases e) (X a o e)
theorem ldC {M : Model} {s : Shared} {name : Str} {scope : Scope} {L a : Addr} {cd : Value} {m : Str → Option Value} {x : Str} {pos : Pos} {v : Value} {Q : Value → Shared → Prop} {A : Around} {E : Value → Shared → Prop} (hn : s.heap.Ns L m) (hv : m x = some v) (h : Q v s)
    (hk : scope.kind = .function := by rfl) (hl : (envOfC name scope L a cd).kindOf x = some .local := by rfl) (hd : (x == ("__debug__" : Str)) = false := by decide) :
    wpAny M A (eval (.Name x pos) (envOfC name scope L a cd)) Q E s := wpAny_Name (wpAny_loadName_local hk hl hn hv h) hd
/-- what __init__ leaves of a fresh exception at x -/
structure InitEnd (fl : Str) (h h' : Heap) (x C dx t1 : Addr) (v : Value) : Prop where
  keep : ∀ b o, b ≠ x → h.get? b = some o → h'.get? b = some o
  obj : h'.get? x = some { cls := .ref C, dict := some dx, data := .fields #[.ref t1, .none, .none, .none, .bool false, .none] }
  dbig : h.objs.size ≤ dx
  dne : dx ≠ x
  ns : h'.Ns1 dx (fun y => if y = fl then some v else none)
/-- a made Ow -/
structure OwnMade (fl : Str) (h h' : Heap) (e C d : Addr) (v : Value) : Prop where
  keep : ∀ b o, h.get? b = some o → h'.get? b = some o
  new : h.objs.size ≤ e
  obj : ∃ oe vs, h'.get? e = some oe ∧ oe.cls = .ref C ∧ oe.dict = some d ∧ oe.data = .fields vs ∧ vs[1]? = some .none
  dbig : h.objs.size ≤ d
  dne : d ≠ e
  ns : h'.Ns1 d (fun y => if y = fl then some v else none)
section
variable {prog : Program} {w : World} {A : Around} {E : Value → Shared → Prop} {R : Result → Shared → Prop} {s : Shared} {K : Frag} {mg : Str → Option Value} {C fI : Addr} {nmE fl ql : Str}
theorem ow_init (T : OwTxt K mg nmE fl ql C fI) {x t0 : Addr} {v : Value} (X : K.In s.heap) (hlim : s.heap.NoLimit) (hx : s.heap.get? x = some (excO C t0)) (hnx : K.lookup x = none) (hroom : A.depth < recursionLimit)
    (hq : ∀ h' tk dx, InitEnd fl s.heap h' x C dx t0 v → R (.ok (.ret .none)) { s with heap := h', toks := tk }) :
    codeAny (model prog w) A (.call (.ref fI) ⟨[.ref x, v], []⟩) R s := by
  obtain hf3 := T.f3
  rcases hf3 with rfl | rfl | rfl
  all_goals
      obtain ⟨oc, od, doc, pm, an, cdv, ct, osl, p1, p2, q1, q2, q3, q4, ho, hcd⟩ := T.fn
      obtain ⟨nm, q, N, bs, bm, sn, sub, ab, col, dd, k0, k1, k2, k3, k5, hC, hbm⟩ := T.cls
      have hcl : clsIn K C = some { name := nm, bases := bs, mro := .ref C :: bm, ns := N, qualname := q, hasDict := true, slotNames := sn, subclasses := sub, abstract := ab, collection := col, hasDel := false } := by unfold clsIn; rw [hC] <;> rfl
      refine Att.call_fn (binds := [("self", .ref x), (_, v)]) X hlim ho hcd hroom (BindsTo.of_eq (by first | rfl | with_unfolding_all rfl)) (by first | rfl | decide | with_unfolding_all rfl) (fun s₁ IC => ?_) rfl rfl rfl
      obtain ⟨h₁, tk₁, rfl⟩ := IC.toInCall.same
      have k : ∀ b o, s.heap.get? b = some o → h₁.get? b = some o := IC.toInCall.keep
      have hn := IC.toInCall.ns
      have hxL : s.heap.objs.size ≠ x := Nat.ne_of_gt (Heap.lt_size hx)
      have X₁ : K.In h₁ := X.keeps k
      have hx₁ := k _ _ hx
      -- self.by = by
      show wpAny _ _ (execs _ _) _ _ _
      refine wpAny_execs_cons (plainObj_wpAny_Assign_Attribute ?_)
      refine ldC (v := v) hn (by first | rfl | with_unfolding_all rfl | kernel_rfl) (ldC (v := .ref x) hn (by first | rfl | with_unfolding_all rfl | kernel_rfl) ?_)
      refine set_plain X₁ (ox := excO C t0) (od := none) ⟨hx₁, rfl, rfl, trivial⟩ T.sa ?_
      refine exc_osa X₁ hx₁ hcl (show refsVE (.ref C :: bm) = true from hbm) rfl T.noN (fun h₃ tk₃ dx k₃ dn dne hx₃ hn₃ => ?_)
      show wpAny _ _ (execs _ _) _ _ _
      have z : s.heap.objs.size < h₁.objs.size := hn.lt
      exact wpAny_execs_nil (hq h₃ tk₃ dx ⟨fun b o hb e => k₃ b o hb (k b o e), hx₃, Nat.le_of_lt (Nat.lt_of_lt_of_le z dn), dne, hn₃⟩)
theorem ow_made (T : OwTxt K mg nmE fl ql C fI) {v : Value} (X : K.In s.heap) (hlim : s.heap.NoLimit) (hroom : A.depth + 1 < recursionLimit)
    (hq : ∀ h' tk e d, OwnMade fl s.heap h' e C d v → R (.ok (.ret (.ref e))) { s with heap := h', toks := tk }) :
    codeAny (model prog w) A (.call (.ref C) ⟨[v], []⟩) R s := by
  obtain ⟨nm, q, N, bs, bm, sn, sub, ab, col, dd, k0, k1, k2, k3, k5, hC, hbm⟩ := T.cls
  obtain ⟨hp, g, dr, tk, os⟩ := s
  have k : ∀ b o, hp.get? b = some o → ((hp.push (kdv_tup [v])).push (excO C hp.objs.size)).get? b = some o := fun b o e => Heap.get?_push_of_some _ (Heap.get?_push_of_some _ e)
  have hget : ((hp.push (kdv_tup [v])).push (excO C hp.objs.size)).get? (hp.objs.size + 1) = some (excO C hp.objs.size) := by heap_get
  have hnx : K.lookup (hp.objs.size + 1) = none := by
    cases e : K.lookup (hp.objs.size + 1) with
    | none => rfl
    | some o =>
      have z : hp.get? (hp.objs.size + 1) = some o := X _ _ e
      exact absurd (Nat.lt_of_succ_lt (Heap.lt_size z)) (Nat.lt_irrefl _)
  refine call_own F.excBase_ValueError (fun X => refsVE_contains X bm hbm) (X _ _ hC) (looks_findIn X T.iC) (fun self => bind_fn X self T.tC) (one_size v) ?_
  refine ow_init (s := ⟨(hp.push (kdv_tup [v])).push (excO C hp.objs.size), g, dr, tk, os⟩) T (X.keeps k) (hlim.keeps k) hget hnx ?_ fun h' tk' dx ⟨k', hx, dn, dne, hns⟩ => ?_
  · show A.depth + 1 < recursionLimit
    exact hroom
  · have old : ∀ b o, hp.get? b = some o → h'.get? b = some o := fun b o e => k' b o (Nat.ne_of_lt (Nat.lt_succ_of_lt (Heap.lt_size e))) (k b o e)
    have z : hp.objs.size + 1 + 1 ≤ dx := by
      first
        | (simpa only [Heap.size_push] using dn)
        | exact dn
        | (have q := dn; rw [Heap.size_push, Heap.size_push] at q; exact q)
    exact ⟨rfl, hq h' tk' (hp.objs.size + 1) dx ⟨old, Nat.le_succ _, ⟨_, _, hx, rfl, rfl, rfl, rfl⟩, Nat.le_trans (Nat.le_trans (Nat.le_succ _) (Nat.le_succ _)) z, dne, hns⟩⟩
end
end OwX
end PySem
namespace L2
open PySem PySem.Spec PyProof.Rows
theorem relO_ow {fl : Str} {v : V} {v' : Value} (r : RelV v v') (f : Str) : RelO (List.lookup f [(fl, v)]) (if f = fl then some v' else none) := by
  by_cases hw : f = fl
  · subst hw
    rw [if_pos rfl]
    have q : List.lookup f [(f, v)] = some v := by simp [List.lookup]
    rw [q]
    exact r
  · rw [if_neg hw]
    have qw : (f == fl) = false := by simpa using hw
    have q2 : List.lookup f [(fl, v)] = none := by simp [List.lookup, qw]
    rw [q2]
    trivial
section
variable {X : Cx} {C fI : Addr} {nmE fl ql : Str}
/-- Ow(e) -/
def tMkOw (fl : Str) (C : Addr) (ta : TA) : St → Hp → XK → Prop := fun σ H Q => ta σ H fun vs H1 => ∃ v, vs = [v] ∧ ∀ d, H1 d = none → Q (.ref C) (some d) (upd H1 d (.xd [(fl, v)]))
theorem pmk_ow {a : Expr} {ta : TA} {p pos : Pos} {k : Nat} (T : PySem.OwX.OwTxt X.K X.mg nmE fl ql C fI) (hr : Room k X.A) (ha : PA X [a] ta) (hg : Gl X nmE)
    (he : starEach (a :: []) X.env = (false, eval a X.env) :: starEach [] X.env := by rfl) (hpl : (backTo pos (starEach [] X.env)).any (·.1) = false := by rfl) :
    PMk X (.Call (.Name nmE p) [a] [] pos) (tMkOw fl C ta) := by
  intro pins s σ H Q I h
  refine wpAny_Call_Name_kw (ld_glob I hg T.gC ?_ T.f2)
  refine PySem.W.callWith_K (h₀ := X.base) I.ok.mod.kin T.kC (thn (ha.run pos pins s σ H _ I h) fun us s1 hh => ?_) he hpl
  obtain ⟨vs, H1, I1, r1, v, ev, q1⟩ := hh
  subst ev
  refine ⟨I1.kIn, ?_⟩
  cases r1 with
  | cons rv rn =>
    rename_i v' us'
    cases rn
    show wpAny _ _ (call (.ref C) [v']) _ _ _
    have hlim := I1.nolimit
    obtain ⟨hp, g, dr, tk, os⟩ := s1
    refine wpAny_call (PySem.OwX.ow_made T I1.kIn hlim (by have := hr.dp; omega) fun h' tk' e d M => ?_)
    show MkP X pins σ Q (.ref e) ⟨h', g, dr, tk', os⟩
    obtain ⟨oe, fv, hoe, hc, hd, hdat, h1⟩ := M.obj
    have hns := M.ns
    obtain ⟨G', g1, g2⟩ := restrict h' fun b => decide (b ≠ e)
    have gk : ∀ b, b ≠ e → G'.get? b = h'.get? b := fun b hb => g1 b (decide_eq_true hb)
    have ge : G'.get? e = none := g2 e (by simp)
    have old : ∀ b o, hp.get? b = some o → G'.get? b = some o := fun b o q => (gk b (Nat.ne_of_lt (Nat.lt_of_lt_of_le (Heap.lt_size q) M.new))).trans (M.keep b o q)
    have ob : ObjOk X.prog X.w (upd H1 d (.xd [(fl, v)])) G' d (.xd [(fl, v)]) :=
      ⟨_, hns.at (fun o q => (gk d M.dne).trans q), fun f => relO_ow rv f⟩
    have J : Inv X pins σ (upd H1 d (.xd [(fl, v)])) ⟨G', g, dr, tk', os⟩ := I1.laid (t' := tk') old M.dbig ob
    refine ⟨e, oe, fv, ⟨G', g, dr, tk', os⟩, _, .ref C, some d, rfl, J, fun b o q => ?_, ge, hoe, ⟨hc, hd⟩, hdat, h1, ?_, rfl, I1.bare, raises_own T.exC T.tyC, q1 d (I1.hok.fresh M.dbig)⟩
    · by_cases hb : b = e
      · have q' : G'.get? b = some o := q
        rw [hb, ge] at q'; cases q'
      · exact (gk b hb).symm.trans q
    · rw [upd_ne (Ne.symm M.dne)]
      exact I1.hok.fresh M.new
end
end L2
end
section
set_option maxRecDepth 100000
/-! EvT: calls, raise: readings by the evaluator. -/
namespace Ev
open PySem PySem.Spec PyProof.Rows L2

section
variable {X : Cx} {G : Ctx} {E : XK} {k i : Nat} {f : Addr} {fd : FuncData} {ps : List Str} {g : F1} {x : Str} {p pos pos2 : Pos} {e : Expr} {es : List Expr} {ce : CE} {ces : CEs}
/-- what a callee lets out is what this body lets out -/
def Lets (X : Cx) (E : XK) : Prop := ∀ σ, PassesAt (L2.CX X.prog X.w) X σ E
theorem spG_of {P : Program} {w : World} {K : PySem.W.Frag} {Z : Addr → Prop} {H : Hp} {mm : List Addr} {ph : PH} {us : List PV} {vs : List V} {Q : VK} {np : Nat} {h : F1} (hh : ∀ us ph, us.length ≠ np → h us ph = .stk)
    (hr : HRp P w K Z H mm ph) (r : Rps P w K Z H mm us vs) (q : PostE P w K Z E H mm Q (h us ph)) : spG P w K np h vs H Q E := by
  by_cases hn : us.length = np
  · exact ⟨by rw [← r.len]; exact hn, Z, ph, mm, us, hr, r, q⟩
  · rw [hh us ph hn] at q
    exact False.elim q
theorem rd_call {h : F1} (F : FnG X.prog X.w X.K X.mg X.base k f fd ps h) (hh : ∀ us ph, us.length ≠ ps.length → h us ph = .stk) (hi : G.fns[i]? = some h) (hr : Room k X.A) (hgd : X.A.guards = some []) (hg : Gl X x) (hm : X.mg x = some (.ref f))
    (hk : PySem.W.keepIn X.K (.ref f) = true) (hb : Binds X.K fd ps []) (hx : Lets X E) (ha : PA X (e :: es) (RL X G E ces)) (hdb : (x == ("__debug__" : Str)) = false)
    (he : starEach (e :: es) X.env = (false, eval e X.env) :: starEach es X.env) (hpl : (backTo pos (starEach es X.env)).any (·.1) = false) :
    PE X (.Call (.Name x p) (e :: es) [] pos) (RE X G E (.call i ces)) :=
  PE.imp (pe_callG (E := fun _ => E) F hr hgd hg hm hk hb hx ha hdb he hpl) fun σ H Q ⟨Z, ρ, ph, mm, s, hr, q⟩ => by
    unfold evE at q
    exact ⟨Z, ρ, ph, mm, s, hr, q.bind.mono fun xs H1 ⟨vs, p1, m1, e1, h1, r1, q1⟩ => by
      rw [hi] at q1
      exact spG_of hh h1 r1 q1⟩
theorem rd_call0 {h : F1} (F : FnG X.prog X.w X.K X.mg X.base k f fd ps h) (hh : ∀ us ph, us.length ≠ ps.length → h us ph = .stk) (hi : G.fns[i]? = some h) (hr : Room k X.A) (hgd : X.A.guards = some []) (hg : Gl X x) (hm : X.mg x = some (.ref f))
    (hk : PySem.W.keepIn X.K (.ref f) = true) (hb : Binds X.K fd ps []) (hx : Lets X E) (hdb : (x == ("__debug__" : Str)) = false) :
    PE X (.Call (.Name x p) [] [] pos) (RE X G E (.call i .nil)) :=
  PE.imp (pe_callG0 (E := fun _ => E) F hr hgd hg hm hk hb hx hdb) fun σ H Q ⟨Z, ρ, ph, mm, s, hr, q⟩ => by
    unfold evE evL at q
    have q' : PostE X.prog X.w X.K Z E H mm Q (match G.fns[i]? with
      | some g => g [] ph
      | none => .stk) := q
    rw [hi] at q'
    exact spG_of hh hr .nil q'
theorem runF_len {c : Fn} {us : List PV} {ph : PH} (h : us.length ≠ c.np) : runF G c us ph = .stk := by
  unfold runF
  exact if_neg h

/-- raise C(e) -/
theorem rs_raise {c : Nat} {nm fl ql : Str} {fI : Addr} (hc : X.calm = true) (T : PySem.OwX.OwTxt X.K X.mg nm fl ql (He.ga X.K (excC c)) fI) (hfl : fl = excF c) (hr : Room k X.A) (tk : Takes X fun cls d _ H => E cls d H) (he : PE X e (RE X G E ce)) (hg : Gl X nm)
    (hst : starEach (e :: []) X.env = (false, eval e X.env) :: starEach [] X.env) (hpl : (backTo pos (starEach [] X.env)).any (·.1) = false) :
    PS X (.Raise (some (.Call (.Name nm p) [e] [] pos)) none pos2) (RS' X G E (.raise c ce)) :=
  PS.imp (ps_raise hc tk (pmk_ow T hr (pa_cons he pa_nil (hs := hst)) hg hst hpl)) fun D σ H ⟨Z, ρ, ph, mm, s, hr, q⟩ => by
    unfold evS at q
    subst hfl
    refine ⟨Z, ρ, ph, mm, s, hr, q.on.mono fun v H1 ⟨u, p1, m1, e1, h1, r1, q1⟩ => ?_⟩
    refine ⟨v, rfl, fun d hd => ?_⟩
    exact q1 v d _ m1 (Ext.laid hd) (h1.laid hd) upd_same (h1.fz hd (h1.notIn hd)) (r1.wk (Ext.laid hd).wk)
end
end Ev
end
section
set_option maxRecDepth 100000
set_option maxHeartbeats 2000000
/-! EvU: try: body, except (A, B, C) as n: suite. The caught object is tracked. -/
namespace Ev
open PySem PySem.Spec PyProof.Rows L2

/-- a caught error's object, of the class at C, its dict at d -/
def ExcAt (C e d : Addr) : HO := .ext fun h => ∃ (o : Obj) (vs : Array Value), h.get? e = some o ∧ o.cls = .ref C ∧ o.dict = some d ∧ o.data = .fields vs
theorem excAt_ok {P : Program} {w : World} {H : Hp} {h : Heap} {C e d : Addr} {o : Obj} {vs : Array Value} (h1 : h.get? e = some o) (h2 : Zc (.ref C) (some d) o) (h3 : o.data = .fields vs) : ObjOk P w H h e (ExcAt C e d) :=
  ⟨⟨o, vs, h1, h2.1, h2.2, h3⟩, ⟨o, h1⟩, fun k1 k2 ⟨o', vs', e1, r⟩ k => ⟨o', vs', k o' e1, r⟩⟩
theorem flying_kept {B h h' : Heap} {l : List PySem.Env} {a : Addr} {Z : Obj → Prop} (k : ∀ b o, h.get? b = some o → h'.get? b = some o) (f : HandSPX.FlyingZ B l a Z h) : HandSPX.FlyingZ B l a Z h' := by
  obtain ⟨f1, f2, f3, oe, vs, T, oT, ts, t1, t2, t3, t4, t5, t6, t7, t8⟩ := f
  exact ⟨fun b o e => k b o (f1 b o e), f2, f3.of_keeps (fun b o e _ => ⟨o, k b o e, rfl⟩), oe, vs, T, oT, ts, k _ _ t1, t2, t3, t4, t5, t6, k _ _ t7, t8⟩
section
variable {X : Cx}
theorem pe_cls {x : Str} {C : Addr} {p : Pos} (hg : Gl X x) (hm : X.mg x = some (.ref C)) (hd : (x == ("__debug__" : Str)) = false) : PE X (.Name x p) (fun _ H Q => Q (.ref C) H) :=
  ⟨fun _ _ _ H _ I h => ld_glob I hg hm ⟨.ref C, H, I, rfl, h⟩ hd⟩
/-- landed, the exception's object tracked -/
theorem landedE {pins : List (Addr × Obj)} {σ : L2.St} {H : Hp} {sI s' : Shared} {B : Heap} {a : Addr} {o : HO} (I : Inv X pins σ H sI) (nb : ∀ b o, sI.heap.get? b = some o → b ∉ frs X.stack → B.get? b = some o) (st : B.StaysIn s'.heap) (up : sI.heap.UpToSlots s'.heap)
    (eo : s'.os = sI.os) (ag : AllBare s'.gens) (na : sI.heap.get? a = none) (nH : H a = none) (ob : ∀ H' : Hp, ObjOk X.prog X.w H' s'.heap a o) : Inv X pins σ (upd H a o) s' := by
  have nf : ∀ b ∈ frs X.stack, ∀ o, sI.heap.get? b = some o → ∃ sl, s'.heap.get? b = some { o with slots := sl } := fun b hb u e => by
    obtain ⟨_, o', e', hd⟩ := I.stack.mem hb
    rw [e] at e'; cases e'
    exact up b u e hd
  have ne : ∀ {b : Addr} {u : HO}, H b = some u → b ≠ a := fun {b u} q z => by rw [z, nH] at q; cases q
  have hok1 := (I.inGround nb).kept st
  refine I.call' (ch := []) eo ⟨fun b u e _ hb _ => st b u (nb b u e hb), fun b u e _ hb _ => nf b hb u e, fun b u e n _ => ?_, fun b u e _ => ?_, fun b xs e => by rw [upd_ne (ne e)]; exact e, fun b u v e => by rw [upd_ne (ne e)]; exact e, fun b ps e => ⟨#[], by rw [upd_ne (ne e), e]; simp⟩⟩ (fun b u e => ?_) ag (fun _ z => nomatch z)
  · by_cases hb : b = a
    · rw [hb, na] at e; cases e
    · rw [upd_ne hb]; exact n
  · by_cases hb : b ∈ frs X.stack
    · obtain ⟨sl, q⟩ := nf b hb u e
      exact ⟨_, q⟩
    · exact ⟨u, st b u (nb b u e hb)⟩
  · by_cases hb : b = a
    · subst hb
      rw [upd_same] at e; cases e
      exact ob _
    · rw [upd_ne hb] at e
      exact (hok1 b u e).stay (fun _ _ _ r => r) (fun c q => by rw [upd_ne (ne q)]; exact q) fun c xs q => by rw [upd_ne (ne q)]; exact q
/-- what the clause wishes of an exception of the body: slot i is n's -/
def wCatch (K : PySem.W.Frag) (cs : List Value) (i : Nat) (ts : Addr → TS) (D : Ends) : WX := fun cls d σ H =>
  ∃ C dd, cls = .ref C ∧ d = some dd ∧ PySem.W.exmAny K cls cs = some true ∧ ∀ a, H a = none → ts a { nx := fun σ' H' => D.nx (σ'.set i none) H', rt := D.rt, bk := fun σ' H' => D.bk (σ'.set i none) H', ct := fun σ' H' => D.ct (σ'.set i none) H' } (σ.set i (some (.ref a))) (upd H a (ExcAt C a dd))
abbrev CxSu (X : Cx) (a : Addr) (pn : List (Addr × Obj)) : Cx := { X with A := X.A.mark (some (.ref a)), calm := false, pn := pn, xe := fun _ _ => False }
theorem suIn {pins : List (Addr × Obj)} {σ : L2.St} {H : Hp} {s : Shared} (I : Inv X pins σ H s) (a : Addr) : Inv (CxSu X a (X.pn ++ pins)) [] σ H s :=
  ⟨I.ok.suite _ _, I.os, I.bare, I.base, I.loc, I.cell, I.free, I.freeC, fun p hp => I.pin p (by rw [List.append_nil] at hp; exact hp), I.hok, I.len⟩
theorem suOut {pins : List (Addr × Obj)} {σ : L2.St} {H : Hp} {s : Shared} {a : Addr} {pn' : List (Addr × Obj)} (I : Inv (CxSu X a (X.pn ++ pins)) pn' σ H s) (ok : X.Ok) : Inv X pins σ H s :=
  ⟨ok, I.os, I.bare, I.base, I.loc, I.cell, I.free, I.freeC, fun p hp => I.pin p (List.mem_append_left _ hp), I.hok, I.len⟩
variable {x1 x2 x3 n : Str} {c1 c2 c3 : Addr} {i k : Nat} {body suite : List Stmt} {b₀ : Stmt} {p1 p2 p3 tp pos pos' : Pos} {tb : WX → TS} {ts : Addr → TS}
theorem ps_catch3 (hs : X.stack = X.env :: X.outer) (hf : X.env.frame = some X.env.locals) (hN : X.N.Nodup) (hi : X.N[i]? = some n) (hln : X.env.kindOf n = some .local)
    (g1 : Gl X x1) (m1 : X.mg x1 = some (.ref c1)) (d1 : (x1 == ("__debug__" : Str)) = false) (g2 : Gl X x2) (m2 : X.mg x2 = some (.ref c2)) (d2 : (x2 == ("__debug__" : Str)) = false) (g3 : Gl X x3) (m3 : X.mg x3 = some (.ref c3)) (d3 : (x3 == ("__debug__" : Str)) = false)
    (hb : ∀ (W : WX) (pn : List (Addr × Obj)) (xe : Value → Shared → Prop), Takes (X.tr pn xe) W → PassesOwn (model X.prog X.w) X.A X.env xe → PSs (X.tr pn xe) body (tb W))
    (hsu : ∀ (a : Addr) (pn : List (Addr × Obj)), PSs (CxSu X a pn) (b₀ :: suite) (ts a)) :
    PS X (.Try body [.ExceptHandler (some (.Tuple [.Name x1 p1, .Name x2 p2, .Name x3 p3] k tp)) (some n) (b₀ :: suite) pos'] [] [] pos) (fun D σ H => tb (wCatch X.K [.ref c1, .ref c2, .ref c3] i ts D) D σ H) := by
  refine ⟨fun pins s σ H D I h => ?_⟩
  have okX := I.ok
  have hfr : X.A.frames = some (X.env :: X.outer) := by rw [okX.frames, hs]
  have hloc : Loc X.env.scope n := .inl hln
  refine wpAny_Try_except ?_
  refine wpAny_mono ((hb (wCatch X.K [.ref c1, .ref c2, .ref c3] i ts D) (X.pn ++ pins) (fun e s₁ => wpAny (model X.prog X.w) X.A (noteFrame e X.env) (fun _ s₂ => wpAny (model X.prog X.w) X.A (setFlight e none) (fun _ s₃ =>
    wpAny (model X.prog X.w) X.A (handleBy e X.env [.ExceptHandler (some (.Tuple [.Name x1 p1, .Name x2 p2, .Name x3 p3] k tp)) (some n) (b₀ :: suite) pos']) (SP X pins D) X.xe s₃) X.xe s₂) X.xe s₁) (fun u s' xx => ?_) PassesOwn.looking).run [] s σ H D (I.toTry _) h) (fun f s1 hsp => ?_) (fun e s1 he => he)
  · obtain ⟨a, B, sI, pins', σ', H', cls, d, rfl, J', nb, up, sky, na, eo, ag, C, dd, rfl, rfl, hm, hw⟩ := xx
    have J : Inv X pins σ' H' sI := J'.ofTry okX
    have sky' : Sky B (X.env :: X.outer) a (Zc (.ref C) (some dd)) X.env.locals s'.heap := by rw [← hs]; exact sky
    show wpAny (model X.prog X.w) X.A (noteFrame (.ref a) X.env) _ _ _
    refine Sky.land Zc.steady hfr hf sky' fun h3 fl3 up3 => ?_
    obtain ⟨oe3, vs3, he3, hz3, hd3⟩ := fl3.there
    have nfr : a ∉ frs (X.env :: X.outer) := fun hm => by
      obtain ⟨_, o', e', hnf⟩ := fl3.2.2.1.mem hm
      rw [he3] at e'; cases e'
      exact hnf _ hd3
    have nst : a ∉ frs X.stack := by rw [hs]; exact nfr
    have nI : sI.heap.get? a = none := by
      cases q : sI.heap.get? a with
      | none => rfl
      | some o =>
        have z := nb a o q nst
        rw [fl3.2.1] at z; cases z
    have J3 : Inv X pins σ' (upd H' a (ExcAt C a dd)) { s' with heap := h3 } := landedE J nb fl3.1 (up.trans up3) eo ag nI na fun _ => excAt_ok he3 hz3 hd3
    have S3 := suIn J3 a
    refine wpAny_handleBy_cons (codeAny_handlers_test ?_) (by intro q; cases q)
    have X3 : Inv (CxSu X a (X.pn ++ pins)) [] σ' (upd H' a (ExcAt C a dd)) { s' with heap := h3 } := S3
    refine wpAny_Tuple_spliced ?_
    show wpAny _ _ (spliced [(false, eval (.Name x1 p1) X.env), (false, eval (.Name x2 p2) X.env), (false, eval (.Name x3 p3) X.env)]) _ _ _
    refine Calls.spliced_cons (ld_glob (X := CxSu X a (X.pn ++ pins)) X3 g1 m1 (Calls.spliced_cons (ld_glob (X := CxSu X a (X.pn ++ pins)) X3 g2 m2 (Calls.spliced_cons (ld_glob (X := CxSu X a (X.pn ++ pins)) X3 g3 m3 (Calls.spliced_nil ?_) d3)) d2)) d1)
    refine ⟨by show 3 ≤ sizeLine; rw [sizeLine_eq]; omega, ?_⟩
    have kp : ∀ b o, h3.get? b = some o → (h3.push { cls := .type "tuple", data := .seq [Value.ref c1, Value.ref c2, Value.ref c3].toArray }).get? b = some o := fun b o e => Heap.get?_push_of_some _ e
    have fl5 := flying_kept kp fl3
    generalize ht : h3.push { cls := .type "tuple", data := .seq [Value.ref c1, Value.ref c2, Value.ref c3].toArray } = h5 at kp fl5
    have K5 : X.K.In h5 := J3.kIn.keeps kp
    have LT : PySem.W.Looks (model X.prog X.w) h5 (typeOf (.ref a)) (.ref C) := fun A Q E s k q => wpAny_typeOf_ref (k _ _ (kp _ _ he3)) (by rw [hz3.1]; exact q)
    have tp5 : h5.get? h3.objs.size = some { cls := .type "tuple", data := .seq [Value.ref c1, Value.ref c2, Value.ref c3].toArray } := by rw [← ht]; exact Heap.get?_push_size _ rfl
    have LM := PySem.W.exm_tup3 (M := model X.prog X.w) K5 LT tp5 hm
    refine LM.here ?_
    have up5 : s'.heap.UpToSlots h5 := up3.trans (Heap.UpToSlots.of_keeps kp)
    refine codeAny_handlers_suite_as ?_
    refine HandSPX.lands_againZ fl5 fun h4 fl4 up4 => ?_
    obtain ⟨oe4, vs4, he4, hz4, hd4⟩ := fl4.there
    have J4 : Inv X pins σ' (upd H' a (ExcAt C a dd)) { s' with heap := h4 } := landedE J nb fl4.1 ((up.trans up5).trans up4) eo ag nI na fun _ => excAt_ok he4 hz4 hd4
    have S4 := suIn J4 a
    refine store_ok (X := CxSu X a (X.pn ++ pins)) (v := .ref a) S4 hN hi hloc rfl (fun s5 S5 => ?_) (.inr hln)
    refine wpAny_mono ((hsu a (X.pn ++ pins)).run [] s5 _ _ _ S5 (hw a na)) (fun f s6 hsp => ?_) (fun _ _ z => False.elim z)
    have end_ : ∀ {σ6 : L2.St} {H6 : Hp} {Q : Shared → Prop}, Inv (CxSu X a (X.pn ++ pins)) [] σ6 H6 s6 → (∀ s7, Inv X pins (σ6.set i none) H6 s7 → Q s7) →
        wpAny (model X.prog X.w) X.A (do bindName X.env n .none; unbindBehindTheSuite X.env n pos') (fun _ s7 => Q s7) X.xe s6 := fun {σ6 H6 Q} S6 hq => gone_ok (suOut S6 okX) hN hi hln hq
    cases f with
    | next =>
      obtain ⟨σ6, H6, S6, q6⟩ := hsp
      exact end_ S6 fun s7 J7 => ⟨_, _, J7, q6⟩
    | brk =>
      obtain ⟨σ6, H6, S6, q6⟩ := hsp
      exact end_ S6 fun s7 J7 => ⟨_, _, J7, q6⟩
    | cont =>
      obtain ⟨σ6, H6, S6, q6⟩ := hsp
      exact end_ S6 fun s7 J7 => ⟨_, _, J7, q6⟩
    | ret u =>
      obtain ⟨v6, σ6, H6, S6, r6, q6⟩ := hsp
      exact end_ S6 fun s7 J7 => ⟨_, _, _, J7, r6, q6⟩
  · cases f with
    | next =>
      obtain ⟨σ', H', J', q⟩ := hsp
      exact wpAny_execs_nil ⟨σ', H', J'.ofTry okX, q⟩
    | brk =>
      obtain ⟨σ', H', J', q⟩ := hsp
      exact ⟨σ', H', J'.ofTry okX, q⟩
    | cont =>
      obtain ⟨σ', H', J', q⟩ := hsp
      exact ⟨σ', H', J'.ofTry okX, q⟩
    | ret u =>
      obtain ⟨v, σ', H', J', r, q⟩ := hsp
      exact ⟨v, σ', H', J'.ofTry okX, r, q⟩
end
end Ev
end
section
set_option maxRecDepth 100000
/-! EvV: try around one call. -/
namespace Ev
open PySem PySem.Spec PyProof.Rows L2

/-- what raises nothing -/
def mild : CE → Bool
  | .var _ => true
  | .cst _ => true
  | _ => false
def mildL : CEs → Bool
  | .nil => true
  | .cons e es => mild e && mildL es
theorem mild_no {G : Ctx} {e : CE} (h : mild e = true) (ρ : Env) (ph : PH) (c : Nat) (a : PV) (h1 : PH) : evE G e ρ ph ≠ .exc c a h1 := by
  intro z
  cases e <;> first | cases h | skip
  · unfold evE at z
    split at z <;> cases z
  · unfold evE at z
    cases z
theorem mildL_no {G : Ctx} : ∀ {es : CEs}, mildL es = true → ∀ (ρ : Env) (ph : PH) (c : Nat) (a : PV) (h1 : PH), evL G es ρ ph ≠ .exc c a h1
  | .nil, _, ρ, ph, c, a, h1, z => by unfold evL at z; cases z
  | .cons e es, h, ρ, ph, c, a, h1, z => by
    unfold mildL at h
    obtain ⟨h1', h2'⟩ := Bool.and_eq_true_iff.mp h
    unfold evL at z
    cases q : evE G e ρ ph with
    | ok v p1 =>
      rw [q] at z
      cases q2 : evL G es ρ p1 with
      | ok vs p2 => rw [show (R.ok v p1).bind (fun v h1 => (evL G es ρ h1).bind fun vs h2 => R.ok (v :: vs) h2) = (evL G es ρ p1).bind fun vs h2 => R.ok (v :: vs) h2 from rfl, q2] at z; cases z
      | exc c2 a2 p2 => exact mildL_no h2' ρ p1 c2 a2 p2 q2
      | stk => rw [show (R.ok v p1).bind (fun v h1 => (evL G es ρ h1).bind fun vs h2 => R.ok (v :: vs) h2) = (evL G es ρ p1).bind fun vs h2 => R.ok (v :: vs) h2 from rfl, q2] at z; cases z
    | exc c2 a2 p1 => exact mild_no h1' ρ ph c2 a2 p1 q
    | stk => rw [q] at z; cases z
theorem PostG.calmTo {P : Program} {w : World} {K : PySem.W.Frag} {Z : Addr → Prop} {E E' : XK} {H : Hp} {mm : List Addr} {α β : Type} {Rel : Hp → List Addr → α → β → Prop} {Q : β → Hp → Prop} {r : R α} (h : PostG P w K Z Rel E H mm Q r)
    (n : ∀ c a p, r ≠ .exc c a p) : PostG P w K Z Rel E' H mm Q r := by
  cases r with
  | ok v ph => exact h
  | exc c u ph => exact absurd rfl (n c u ph)
  | stk => exact h

section
variable {X : Cx} {G : Ctx} {E : XK} {W : WX} {E0 : XK} {k i : Nat} {f : Addr} {fd : FuncData} {ps : List Str} {x : Str} {p pos : Pos} {e : Expr} {es : List Expr} {ces : CEs}
/-- a call, its exceptions to the wish W -/
def rdEs (P : Program) (w : World) (K : PySem.W.Frag) (G : Ctx) (E : L2.St → XK) (c : CE) : TE := fun σ H Q => rdE P w K G (E σ) c σ H Q
theorem rd_callS {h : F1} (F : FnG X.prog X.w X.K X.mg X.base k f fd ps h) (hh : ∀ us ph, us.length ≠ ps.length → h us ph = .stk) (hi : G.fns[i]? = some h) (hr : Room k X.A) (hgd : X.A.guards = some []) (hg : Gl X x) (hm : X.mg x = some (.ref f))
    (hk : PySem.W.keepIn X.K (.ref f) = true) (hb : Binds X.K fd ps []) (tk : Takes X W) (ha : PA X (e :: es) (RL X G E0 ces)) (hml : mildL ces = true) (hdb : (x == ("__debug__" : Str)) = false)
    (he : starEach (e :: es) X.env = (false, eval e X.env) :: starEach es X.env) (hpl : (backTo pos (starEach es X.env)).any (·.1) = false) :
    PE X (.Call (.Name x p) (e :: es) [] pos) (rdEs X.prog X.w X.K G (WE W) (.call i ces)) :=
  PE.imp (pe_callG (E := WE W) F hr hgd hg hm hk hb (passAt tk) ha hdb he hpl) fun σ H Q ⟨Z, ρ, ph, mm, s, hr, q⟩ => by
    unfold evE at q
    exact ⟨Z, ρ, ph, mm, s, hr, (q.bind.calmTo (mildL_no hml ρ ph)).mono fun xs H1 ⟨vs, p1, m1, e1, h1, r1, q1⟩ => by
      rw [hi] at q1
      exact spG_of hh h1 r1 q1⟩
theorem rd_callS0 {h : F1} (F : FnG X.prog X.w X.K X.mg X.base k f fd ps h) (hh : ∀ us ph, us.length ≠ ps.length → h us ph = .stk) (hi : G.fns[i]? = some h) (hr : Room k X.A) (hgd : X.A.guards = some []) (hg : Gl X x) (hm : X.mg x = some (.ref f))
    (hk : PySem.W.keepIn X.K (.ref f) = true) (hb : Binds X.K fd ps []) (tk : Takes X W) (hdb : (x == ("__debug__" : Str)) = false) :
    PE X (.Call (.Name x p) [] [] pos) (rdEs X.prog X.w X.K G (WE W) (.call i .nil)) :=
  PE.imp (pe_callG0 (E := WE W) F hr hgd hg hm hk hb (passAt tk) hdb) fun σ H Q ⟨Z, ρ, ph, mm, s, hr, q⟩ => by
    unfold evE evL at q
    have q' : PostE X.prog X.w X.K Z (WE W σ) H mm Q (match G.fns[i]? with
      | some g => g [] ph
      | none => .stk) := q
    rw [hi] at q'
    exact spG_of hh hr .nil q'
/-- a statement's reading, exceptions to the wish W -/
def rdSsW (P : Program) (w : World) (K : PySem.W.Frag) (G : Ctx) (W : WX) (c : CSs) : TS := fun D σ H => rdSs P w K (WE W σ) G c D σ H
theorem PostS.seqN {P : Program} {w : World} {K : PySem.W.Frag} {E : XK} {Z : Addr → Prop} {H : Hp} {mm : List Addr} {D : Ends} {cs : CS} {ρ : Env} {ph : PH} {G : Ctx} (q : PostS P w K E Z H mm D (evSs G (.cons cs .nil) ρ ph)) : PostS P w K E Z H mm D (evS G cs ρ ph) := by
  unfold evSs at q
  cases e : evS G cs ρ ph with
  | nx ρ1 h1 => rw [e] at q; dsimp only at q; unfold evSs at q; exact q
  | ret v h1 => rw [e] at q; exact q
  | brk v h1 => rw [e] at q; exact q
  | cnt v h1 => rw [e] at q; exact q
  | exc c v h1 => rw [e] at q; exact q
  | stk => rw [e] at q; exact q
theorem rsW_asg {n : Str} {j : Nat} {q1 q2 : Pos} {c : CE} (B : X.N.Nodup) (hn : ncomp e = true) (hw : swappedStores [.Name n q1] e X.env = pure none) (he : PE X e (rdEs X.prog X.w X.K G (WE W) c)) (hi : X.N[j]? = some n) (hx : Loc X.env.scope n) (hf : X.fn n = true ∨ X.env.scope.names.lookup n = some .local) :
    PSs X [.Assign [.Name n q1] e q2] (rdSsW X.prog X.w X.K G W (.cons (.asg (.nm j) c) .nil)) :=
  PSs.imp (pss_cons (ps_asg he (pg_name B hi hx hf) (by cases e <;> first | rfl | cases hn) hw (by rw [asg_each (by rfl)]; rfl)) pss_nil) fun D σ H ⟨Z, ρ, ph, mm, s, hr, q⟩ => by
    have q0 := q.seqN
    unfold evS at q0
    refine ⟨Z, ρ, ph, mm, s, hr, q0.on.mono fun x H1 ⟨v, p1, m1, e1, h1, r1, q1⟩ => ?_⟩
    unfold stP at q1
    split at q1
    · exact q1 _ H1 m1 (Ext.refl _ _) h1 ((s.wk e1.wk).set r1)
    · exact q1.elim
theorem rsW_expr {q2 : Pos} {c : CE} (hn : ncomp e = true) (he : PE X e (rdEs X.prog X.w X.K G (WE W) c)) : PSs X [.Expr e q2] (rdSsW X.prog X.w X.K G W (.cons (.expr c) .nil)) :=
  PSs.imp (pss_cons (ps_expr he (swaps_no hn)) pss_nil) fun D σ H ⟨Z, ρ, ph, mm, s, hr, q⟩ => by
    have q0 := q.seqN
    unfold evS at q0
    exact ⟨Z, ρ, ph, mm, s, hr, q0.on.mono fun x H1 ⟨v, p1, m1, e1, h1, r1, q1⟩ => q1 σ H1 m1 (Ext.refl _ _) h1 (s.wk e1.wk)⟩

variable {x1 x2 x3 n : Str} {c1 c2 c3 : Addr} {body suite : List Stmt} {b₀ : Stmt} {p1 p2 p3 tp pos' : Pos} {cb ch : CSs} {cs : List Nat}
theorem rs_try {kk : Nat} (hs : X.stack = X.env :: X.outer) (hf : X.env.frame = some X.env.locals) (hN : X.N.Nodup) (hi : X.N[i]? = some n) (hln : X.env.kindOf n = some .local)
    (g1 : Gl X x1) (m1 : X.mg x1 = some (.ref c1)) (d1 : (x1 == ("__debug__" : Str)) = false) (g2 : Gl X x2) (m2 : X.mg x2 = some (.ref c2)) (d2 : (x2 == ("__debug__" : Str)) = false) (g3 : Gl X x3) (m3 : X.mg x3 = some (.ref c3)) (d3 : (x3 == ("__debug__" : Str)) = false)
    (hc : ∀ c, cs.contains c = true → PySem.W.exmAny X.K (.ref (He.ga X.K (excC c))) [.ref c1, .ref c2, .ref c3] = some true)
    (hb : ∀ (W : WX) (pn : List (Addr × Obj)) (xe : Value → Shared → Prop), Takes (X.tr pn xe) W → PSs (X.tr pn xe) body (rdSsW X.prog X.w X.K G W cb))
    (hsu : ∀ (a : Addr) (pn : List (Addr × Obj)), PSs (CxSu X a pn) (b₀ :: suite) (rdSs X.prog X.w X.K E G ch)) :
    PS X (.Try body [.ExceptHandler (some (.Tuple [.Name x1 p1, .Name x2 p2, .Name x3 p3] k tp)) (some n) (b₀ :: suite) pos'] [] [] pos) (RS' X G E (.tryc i cs kk cb ch)) :=
  PS.imp (ps_catch3 (ts := fun _ => rdSs X.prog X.w X.K E G ch) hs hf hN hi hln g1 m1 d1 g2 m2 d2 g3 m3 d3 (fun W pn xe tk _ => hb W pn xe tk) hsu) fun D σ H ⟨Z, ρ, ph, mm, s, hr, q⟩ => by
    refine ⟨Z, ρ, ph, mm, s, hr, ?_⟩
    unfold evS at q
    cases e : evSs G cb ρ ph with
    | nx ρ1 h1 => rw [e] at q; exact q
    | ret v h1 => rw [e] at q; exact q
    | brk v h1 => rw [e] at q; exact q
    | cnt v h1 => rw [e] at q; exact q
    | stk => rw [e] at q; exact q
    | exc c u h1 =>
      rw [e] at q
      dsimp only at q
      intro x d H' mm' ee h2 hd fz r
      split at q
      · rename_i hcc
        obtain ⟨hc1, hc2⟩ := Bool.and_eq_true_iff.mp hcc
        refine ⟨_, _, rfl, rfl, hc c hc1, fun a ha => ?_⟩
        have la : Ext H' mm' (upd H' a (ExcAt (He.ga X.K (excC c)) a d)) mm' := Ext.laid ha
        have hda : d ≠ a := ne_of_none hd ha
        refine ⟨Z, ρ.set i (some (.exc c u)), h1, mm', ((s.wk ee.wk).wk la.wk).set (.exc (d := d) (upd_same) (by rw [upd_ne hda]; exact hd) (h2.fz ha (h2.notIn ha)) fz (r.wk la.wk)), h2.laid ha, ?_⟩
        have q2 := PostS.ext q (ee.trans la)
        cases e2 : evSs G ch (ρ.set i (some (.exc c u))) h1 with
        | nx ρ2 h3 =>
          rw [e2] at q2
          exact fun σ2 H2 m2 e3 h4 s4 => q2 _ H2 m2 e3 h4 (s4.unset i none)
        | ret v h3 => rw [e2] at q2; exact False.elim q2
        | brk v h3 => rw [e2] at q2; exact False.elim q2
        | cnt v h3 => rw [e2] at q2; exact False.elim q2
        | exc c v h3 => rw [e2] at q2; exact False.elim q2
        | stk => rw [e2] at q2; exact False.elim q2
      · exact q.elim
end
end Ev
end
section
set_option maxRecDepth 100000
/-! EvW: what is asked of a caught error: its class, its field. -/
namespace Ev
open PySem PySem.Spec PyProof.Rows L2

theorem exFld_eq : ∀ c, sT (exFld c) = excF c
  | 0 => by decide +kernel | 1 => by decide +kernel | 2 => by decide +kernel | 3 => by decide +kernel | 4 => by decide +kernel | 5 => by decide +kernel | 6 => by decide +kernel
  | 7 => by decide +kernel | 8 => by decide +kernel | 9 => by decide +kernel | 10 => by decide +kernel | 11 => by decide +kernel | 12 => by decide +kernel | 13 => by decide +kernel
  | 14 => by decide +kernel | 15 => by decide +kernel | 16 => by decide +kernel | 17 => by decide +kernel | 18 => by decide +kernel
  | n + 19 => by
    show sT [114,101,97,115,111,110] = ("reason" : Str)
    decide +kernel
/-- what a class of errors must say -/
def exrB (K : PySem.W.Frag) (C : Addr) (fl : Str) : Bool :=
  (PySem.W.clsIn K C).isSome && decide (PySem.W.findIn K (.ref C) "__getattribute__" = some (some (.builtin "BaseException.__getattribute__"))) && decide (PySem.W.findIn K (.ref C) "__getattr__" = some none) && decide (PySem.W.subIn K (.ref C) (.type "BaseException") = some true) &&
  decide (PySem.W.findIn K (.ref C) "__class__" = some (some (.builtin "object.__class__"))) && decide (PySem.W.specialIn K (.builtin "object.__class__") "__get__" = some (some (.builtin "getset_descriptor.__get__"))) && decide (PySem.W.takesIn K (.builtin "object.__class__") = some true) &&
  decide (PySem.W.mroIn K C (.type "object") = some true) && PySem.W.hasDictIn K C && decide (PySem.W.findIn K (.ref C) fl = some none)
structure ExR (K : PySem.W.Frag) (C : Addr) (fl : Str) : Prop where
  cl : (PySem.W.clsIn K C).isSome = true
  ga : PySem.W.findIn K (.ref C) "__getattribute__" = some (some (.builtin "BaseException.__getattribute__"))
  gg : PySem.W.findIn K (.ref C) "__getattr__" = some none
  sb : PySem.W.subIn K (.ref C) (.type "BaseException") = some true
  ca : PySem.W.findIn K (.ref C) "__class__" = some (some (.builtin "object.__class__"))
  sp : PySem.W.specialIn K (.builtin "object.__class__") "__get__" = some (some (.builtin "getset_descriptor.__get__"))
  tk : PySem.W.takesIn K (.builtin "object.__class__") = some true
  mr : PySem.W.mroIn K C (.type "object") = some true
  hd : PySem.W.hasDictIn K C = true
  no : PySem.W.findIn K (.ref C) fl = some none
theorem exrB_ok {K : PySem.W.Frag} {C : Addr} {fl : Str} (h : exrB K C fl = true) : ExR K C fl := by
  unfold exrB at h
  simp only [Bool.and_eq_true, decide_eq_true_eq] at h
  obtain ⟨⟨⟨⟨⟨⟨⟨⟨⟨h1, h2⟩, h3⟩, h4⟩, h5⟩, h6⟩, h7⟩, h8⟩, h9⟩, h10⟩ := h
  exact ⟨h1, h2, h3, h4, h5, h6, h7, h8, h9, h10⟩
/-- the caught error in the heap -/
theorem excAt_inst {P : Program} {w : World} {H : Hp} {h : Heap} {C e d : Addr} {fs : List (Str × V)} (hok : HOk P w H h) (h1 : H e = some (ExcAt C e d)) (h2 : H d = some (.xd fs)) :
    ∃ oe od, PySem.W.InstAt h e oe C (some od) ∧ h.get? d = some od := by
  obtain ⟨⟨oe, vs, he, hc, hdd, hdat⟩, _⟩ := hok e _ h1
  obtain ⟨mA, hns, hr⟩ := hok d _ h2
  obtain ⟨od, ho, hl⟩ := lookIn_ns hns
  exact ⟨oe, od, ⟨he, hc, by unfold PySem.W.notCls; rw [hdat] <;> rfl, by rw [hdd]; exact ho⟩, ho⟩
section
variable {X : Cx} {G : Ctx} {E : XK} {e : Expr} {ce : CE} {p p2 pos : Pos} {y : Str}
def rIsx (K : PySem.W.Frag) : List V → Hp → VK → Prop := fun xs H Q => ∃ (a C dd D : Addr) (fs : List (Str × V)) (fl : Str) (b : Bool), xs = [.ref a, .ref D] ∧ H a = some (ExcAt C a dd) ∧ H dd = some (.xd fs) ∧ ExR K C fl ∧ PySem.W.kitOne K (.ref C) (.ref D) = some b ∧ Q (.bl b) H
theorem call_isx : CallR X (.builtin "isinstance") (rIsx X.K) := by
  intro pins s σ H xs us Q I r h
  obtain ⟨a, C, dd, D, fs, fl, b, rfl, h1, h2, R, e, q⟩ := h
  cases r with
  | cons rx rr =>
    cases rr with
    | cons rt rr =>
      cases rr
      cases rx
      cases rt
      obtain ⟨oe, od, J, _⟩ := excAt_inst I.hok h1 h2
      exact PySem.W.kia_one (PySem.W.kitx_exc (od := some od) R.cl R.ga R.gg R.sb R.ca R.sp R.tk R.mr) I.kIn J e (fun z => nomatch z) fun tk => ⟨.bl b, H, I.kept (t' := tk) fun _ _ z => z, rfl, q⟩
/-- isinstance(e, D), e a caught error -/
theorem rd_isx {D : Nat} (hs : nst e = true) (hg : Gl X "isinstance") (hm : X.mg "isinstance" = none) (hg2 : Gl X y) (hm2 : X.mg y = some (.ref (He.ga X.K (excC D)))) (hd : (y == ("__debug__" : Str)) = false)
    (hk : ∀ c, G.exs.contains c = true → ExR X.K (He.ga X.K (excC c)) (excF c) ∧ PySem.W.kitOne X.K (.ref (He.ga X.K (excC c))) (.ref (He.ga X.K (excC D))) = some (decide (c = D))) (he : PE X e (RE X G E ce)) :
    PE X (.Call (.Name "isinstance" p) [e, .Name y p2] [] pos) (RE X G E (.isx ce [D])) := by
  have hA : PA X [e, .Name y p2] (tCons (RE X G E ce) (tCons (fun _ H Q => Q (.ref (He.ga X.K (excC D))) H) tNil)) := pa_cons he (pa_cons (pe_cls hg2 hm2 hd) pa_nil (star_cons rfl)) (star_cons hs)
  refine PE.imp (pe_callB call_isx hg hm (by first | rfl | decide +kernel | kernel_rfl) hA (by decide +kernel) (by decide +kernel) (star_cons hs) (back_any rfl)) fun σ H Q ⟨Z, ρ, ph, mm, s, h, q⟩ => ?_
  unfold evE at q
  refine ⟨Z, ρ, ph, mm, s, h, (PostG.bind q).mono fun x1 H1 ⟨v, p1, m1, e1, h1, r1, q1⟩ => ?_⟩
  split at q1
  · rename_i c u
    split at q1
    · rename_i hc
      obtain ⟨kR, kO⟩ := hk c hc
      cases r1 with
      | exc a1 a2 f1 f2 r2 =>
        rename_i ea da hz
        refine ⟨ea, _, da, _, _, _, decide (c = D), rfl, a1, a2, kR, kO, ?_⟩
        have hcd : [D].contains c = decide (c = D) := by simp
        rw [hcd] at q1
        exact q1.ok h1 (.bl _)
    · exact q1.elim
  · exact q1.elim
/-- e.f, e a caught error -/
theorem rd_xfld {f : Tx} (hb : attributeBase e (sT f) X.env (eval e X.env) = eval e X.env) (hk : ∀ c, G.exs.contains c = true → ExR X.K (He.ga X.K (excC c)) (excF c)) (he : PE X e (RE X G E ce)) :
    PE X (.Attribute e (sT f) pos) (RE X G E (.xfld ce f)) := by
  refine ⟨fun pins s σ H Q I ⟨Z, ρ, ph, mm, sr, hr, q⟩ => ?_⟩
  unfold evE at q
  have hq := (PostG.bind (RelA := fun H' mm' v x => Rp X.prog X.w X.K Z H' mm' v x) q)
  refine attr_of hb (thn (he.run pins s σ H _ I ⟨Z, ρ, ph, mm, sr, hr, hq⟩) fun u s1 hh => ?_)
  obtain ⟨x, H1, I1, rx, v, p1, m1, e1, h1, r1, q1⟩ := hh
  cases v with
  | exc c uu =>
    dsimp only at q1
    split at q1
    · rename_i hc
      obtain ⟨hc1, hc2⟩ := Bool.and_eq_true_iff.mp hc
      have hf : sT f = excF c := by rw [← of_decide_eq_true hc2]; exact exFld_eq c
      have kR := hk c hc1
      generalize hx : x = xx at r1
      cases r1 with
      | @exc _ _ xv ea da a1 a2 f1 f2 r2 =>
        subst hx
        obtain ⟨oe, od, J, ho⟩ := excAt_inst I1.hok a1 a2
        obtain ⟨mA, hns, hr⟩ := I1.hok _ _ a2
        obtain ⟨od', ho', hl⟩ := lookIn_ns hns
        rw [ho] at ho'; cases ho'
        have l : List.lookup (excF c) [(excF c, xv)] = some xv := by simp [List.lookup]
        obtain ⟨u2, hu, ru⟩ := RelO.some_of (v := xv) (o := mA (excF c)) (by rw [← l]; exact hr (excF c))
        cases rx
        rw [hf]
        exact HandSPX.exc_get I1.kIn J kR.ga kR.gg kR.sb (PySem.W.findObj_own kR.hd kR.no rfl (by rw [hl, hu])) (handed_of ru) ⟨_, H1, I1.tok _, ru, q1.ok h1 r2⟩
    · exact q1.elim
  | _ => exact q1.elim
end
end Ev
end
section
set_option maxRecDepth 100000
/-! EvX: chains of two comparisons. -/
namespace Ev
open PySem PySem.Spec PyProof.Rows L2
section
variable {X : Cx} {G : Ctx} {E : XK} {a b c : Expr} {ca cb cc : CE} {pos : Pos}
theorem chn_post {Z : Addr → Prop} {H : Hp} {mm : List Addr} {ρ : Env} {ph : PH} {σ : L2.St} {Q : VK} {op op' : Cm} (s : SRp X.prog X.w X.K Z H mm ρ σ) (h : HRp X.prog X.w X.K Z H mm ph) (q : PostE X.prog X.w X.K Z E H mm Q (evE G (.chn op op' ca cb cc) ρ ph)) :
    tChain (r2 X.prog X.w X.K E fun x y h => ofB (cmpop op x y h) h) (r2 X.prog X.w X.K E fun x y h => ofB (cmpop op' x y h) h) (RE X G E ca) (RE X G E cb) (RE X G E cc) σ H Q := by
  unfold evE at q
  refine ⟨Z, ρ, ph, mm, s, h, (PostG.bind q).mono fun x H1 ⟨v, p1, m1, e1, h1, r1, q1⟩ => ⟨Z, ρ, p1, m1, s.wk e1.wk, h1, (PostG.bind q1).mono fun y H2 ⟨u, p2, m2, e2, h2, r2, q2⟩ => ⟨Z, m2, p2, v, u, h2, r1.wk e2.wk, r2, ?_⟩⟩⟩
  cases eo : cmpop op v u p2 with
  | none => rw [eo] at q2; exact q2.elim
  | some k =>
    rw [eo] at q2
    have goalEq : ofB (cmpop op v u p2) p2 = .ok (.bl k) p2 := by rw [eo]; rfl
    show PostE _ _ _ _ _ _ _ _ (ofB (cmpop op v u p2) p2)
    rw [goalEq]
    intro z H3 m3 e3 h3 rz
    refine ⟨k, rz.bl_, ?_⟩
    cases k with
    | false =>
      rw [if_neg Bool.false_ne_true]
      exact q2 (.bl false) H3 m3 e3 h3 (.bl _)
    | true =>
      rw [if_pos rfl]
      have q3 := PostG.ext q2 e3
      refine ⟨Z, ρ, p2, m3, ((s.wk e1.wk).wk e2.wk).wk e3.wk, h3, (PostG.bind q3).mono fun y2 H4 ⟨u2, p4, m4, e4, h4, r4, q4⟩ => ⟨Z, m4, p4, u, u2, h4, (r2.wk e3.wk).wk e4.wk, r4, q4⟩⟩
theorem rd_chn (B : Bx X) {op op' : Cm} (hm : lastMarks [cmpX op, cmpX op'] [b, c] = false) (ha : PE X a (RE X G E ca)) (hb : PE X b (RE X G E cb)) (hc : PE X c (RE X G E cc)) : PE X (.Compare a [cmpX op, cmpX op'] [b, c] pos) (RE X G E (.chn op op' ca cb cc)) :=
  PE.imp (pe_chain (op_cmp B.hu op) (op_cmp B.hu op') ha hb hc hm) fun σ H Q ⟨Z, ρ, ph, mm, s, h, q⟩ => chn_post s h q
theorem rt_chn (B : Bx X) {op op' : Cm} (hm : lastMarks [cmpX op, cmpX op'] [b, c] = false) (ha : PE X a (RE X G E ca)) (hb : PE X b (RE X G E cb)) (hc : PE X c (RE X G E cc)) : PT X (.Compare a [cmpX op, cmpX op'] [b, c] pos) (RT X G E (.chn op op' ca cb cc)) :=
  PT.imp (pt_chain (op_cmp B.hu op) (op_cmp B.hu op') ha hb hc hm) fun σ H Q ⟨Z, ρ, ph, mm, s, h, q⟩ => chn_post s h (postB_val q)
end
end Ev
end
section
set_option maxRecDepth 100000
/-! EvY: dict displays. -/
namespace Ev
open PySem PySem.Spec PyProof.Rows L2
theorem R.bind_assoc {α β γ : Type} (r : R α) (f : α → PH → R β) (g : β → PH → R γ) : (r.bind f).bind g = r.bind fun a h => (f a h).bind g := by
  cases r <;> rfl
theorem evL_cons {G : Ctx} (e : CE) (es : CEs) (ρ : Env) (h : PH) : evL G (.cons e es) ρ h = (evE G e ρ h).bind fun v h1 => (evL G es ρ h1).bind fun vs h2 => .ok (v :: vs) h2 := by rw [evL]
def flatC : List (CE × CE) → CEs
  | [] => .nil
  | (a, b) :: r => .cons a (.cons b (flatC r))
def flatV : List (V × V) → List V
  | [] => []
  | (a, b) :: r => a :: b :: flatV r
section
variable {P : Program} {w : World} {K : PySem.W.Frag} {E : XK} {Z : Addr → Prop} {H : Hp} {mm : List Addr} {ph : PH} {Q : VK} {G : Ctx}
theorem new_dct {mu : Bool} {es : List (PV × PV)} {kvs : List (Key × V)} (q : PostE P w K Z E H mm Q (newDct mu false es ph)) (h : HRp P w K Z H mm ph) (r : Rkv P w K Z H mm es kvs) {p : Addr} (hp : H p = none) : Q (.ref p) (upd H p (.dK kvs)) := by
  unfold newDct at q
  cases mu with
  | true =>
    rw [if_pos rfl] at q
    refine q _ _ _ (Ext.made hp) (h.made hp (.dct upd_same (r.wk (Ext.made hp).wk))) (.ref ?_)
    rw [← h.len]; simp
  | false =>
    rw [if_neg Bool.false_ne_true] at q
    exact q _ _ _ (Ext.laid hp) (h.laid hp) (.dct (.inl upd_same) (h.fz hp (h.notIn hp)) (r.wk (Ext.laid hp).wk))
/-- the barred dict is shown -/
theorem dc_done {mu : Bool} {H1 : Hp} {m1 : List Addr} {acc : List (PV × PV)} {kvs : List (Key × V)} {D : Addr} (hD1 : H1 D = none) (nz : ¬ Z D) (e : Ext H1 m1 H mm) (h : HRp P w K (bar Z D) H mm ph) (hD : H D = some (.dK kvs)) (r : Rkv P w K (bar Z D) H mm acc kvs)
    (q : PostE P w K Z E H1 m1 Q (newDct mu false acc ph)) : Q (.ref D) H := by
  have hn : D ∉ mm := (h.zs D (.inr rfl)).2
  unfold newDct at q
  cases mu with
  | true =>
    rw [if_pos rfl] at q
    refine q _ _ _ (e.adopt hD1) (h.adopt nz (.dct hD (r.wk Wk.adopt))) (.ref ?_)
    rw [← h.len]; simp
  | false =>
    rw [if_neg Bool.false_ne_true] at q
    exact q _ _ _ e h.show_ (.dct (.inl hD) ⟨hn, nz⟩ (r.wk (Wk.less fun a z => .inl z)))
theorem tPairs_mono : ∀ {ps : List (CE × CE)} {σ : L2.St} {H : Hp} {Q Q' : List (V × V) → Hp → Prop}, (∀ xs H, Q xs H → Q' xs H) → tPairs (ps.map fun p => (rdE P w K G E p.1, rdE P w K G E p.2)) σ H Q → tPairs (ps.map fun p => (rdE P w K G E p.1, rdE P w K G E p.2)) σ H Q'
  | [], σ, H, Q, Q', k, h => k _ _ h
  | (a, b) :: r, σ, H, Q, Q', k, ⟨Z, ρ, ph, mm, s, hr, q⟩ => ⟨Z, ρ, ph, mm, s, hr, q.mono fun x H1 ⟨Z1, ρ1, p1, m1, s1, h1, q1⟩ => ⟨Z1, ρ1, p1, m1, s1, h1, q1.mono fun y H2 t => tPairs_mono (fun xs H z => k _ _ z) t⟩⟩
/-- a wish T of a result, as it stands: what is wanted of exceptions from the state Hb on -/
structure Wish (P : Program) (w : World) (K : PySem.W.Frag) (E : XK) (Z : Addr → Prop) (Hb : Hp) (mb : List Addr) (T : R PV → Prop) : Prop where
  stk : ¬ T .stk
  exc : ∀ c u h, T (.exc c u h) → ∀ x d H' mm', Ext Hb mb H' mm' → HRp P w K Z H' mm' h → H' d = some (.xd [(excF c, x)]) → Fz Z mm' d → Rp P w K Z H' mm' u x → E (.ref (He.ga K (excC c))) (some d) H'
theorem Wish.bind {α β : Type} {Rel : Hp → List Addr → α → β → Prop} {T : R PV → Prop} {Hb : Hp} {mb : List Addr} (W : Wish P w K E Z Hb mb T) (e : Ext Hb mb H mm) {r : R α} {f : α → PH → R PV} (q : T (r.bind f)) :
    PostG P w K Z Rel E H mm (fun x H' => ∃ v p1 m1, Ext H mm H' m1 ∧ HRp P w K Z H' m1 p1 ∧ Rel H' m1 v x ∧ T (f v p1)) r := by
  cases r with
  | ok v h => exact fun x H' m1 e1 h1 r1 => ⟨v, h, m1, e1, h1, r1, q⟩
  | exc c u h => exact fun x d H' m1 e1 h1 hd fz r1 => W.exc c u h q x d H' m1 (e.trans e1) h1 hd fz r1
  | stk => exact absurd q W.stk
theorem pairs_post {T : R PV → Prop} {Hb : Hp} {mb : List Addr} (W : Wish P w K E Z Hb mb T) : ∀ {ps : List (CE × CE)} {ρ : Env} {σ : L2.St} {H : Hp} {mm : List Addr} {ph : PH} {f : List PV → PH → R PV}, Ext Hb mb H mm → SRp P w K Z H mm ρ σ → HRp P w K Z H mm ph → T ((evL G (flatC ps) ρ ph).bind f) →
    tPairs (ps.map fun p => (rdE P w K G E p.1, rdE P w K G E p.2)) σ H fun xs H' => ∃ vs p' m', Ext H mm H' m' ∧ HRp P w K Z H' m' p' ∧ Rps P w K Z H' m' vs (flatV xs) ∧ T (f vs p')
  | [], ρ, σ, H, mm, ph, f, _, s, h, q => by
    unfold flatC evL at q
    exact ⟨[], ph, mm, Ext.refl _ _, h, .nil, q⟩
  | (a, b) :: r, ρ, σ, H, mm, ph, f, e0, s, h, q => by
    have q' : T ((evE G a ρ ph).bind fun v h1 => (evE G b ρ h1).bind fun u h2 => (evL G (flatC r) ρ h2).bind fun vs h3 => f (v :: u :: vs) h3) := by
      have e : (evL G (flatC ((a, b) :: r)) ρ ph).bind f = (evE G a ρ ph).bind fun v h1 => (evE G b ρ h1).bind fun u h2 => (evL G (flatC r) ρ h2).bind fun vs h3 => f (v :: u :: vs) h3 := by
        rw [show flatC ((a, b) :: r) = .cons a (.cons b (flatC r)) from rfl]
        simp only [evL_cons, R.bind_assoc]
        rfl
      rw [← e]; exact q
    refine ⟨Z, ρ, ph, mm, s, h, (W.bind e0 q').mono fun x H1 ⟨v, p1, m1, e1, h1, r1, q1⟩ => ⟨Z, ρ, p1, m1, s.wk e1.wk, h1, (W.bind (e0.trans e1) q1).mono fun y H2 ⟨u, p2, m2, e2, h2, r2, q2⟩ => ?_⟩⟩
    refine tPairs_mono (fun xs H3 ⟨vs, p3, m3, e3, h3, r3, q3⟩ => ?_) (pairs_post W (f := fun vs h => f (v :: u :: vs) h) ((e0.trans e1).trans e2) ((s.wk e1.wk).wk e2.wk) h2 q2)
    exact ⟨v :: u :: vs, p3, m3, (e1.trans e2).trans e3, h3, .cons ((r1.wk e2.wk).wk e3.wk) (.cons (r2.wk e3.wk) r3), q3⟩
/-- the pairs, as the kit keeps them -/
theorem pairUp_kv {Z : Addr → Prop} {H : Hp} {mm : List Addr} : ∀ {xs : List (V × V)} {vs : List PV} {es : List (PV × PV)}, Rps P w K Z H mm vs (flatV xs) → pairUp false vs = some es →
    ∃ kvs : List (Key × V), xs = kvs.map (fun kv => (kV kv.1, kv.2)) ∧ kvs.length = es.length ∧ ∀ (acc : List (PV × PV)) (ak : List (Key × V)), Rkv P w K Z H mm acc ak → Rkv P w K Z H mm (es.foldl (fun acc p => dput acc p.1 p.2) acc) (mergeK ak kvs)
  | [], _, es, .nil, e => by
    cases e
    exact ⟨[], rfl, rfl, fun _ _ r => r⟩
  | (a, b) :: r, _, es, .cons ra (.cons rb rr), e => by
    unfold pairUp at e
    split at e
    · rename_i hk
      obtain ⟨es', e1, rfl⟩ := map_some' e
      obtain ⟨kvs, hx, hl, hf⟩ := pairUp_kv rr e1
      rename_i k v _
      have key : ∃ q, kOf k = some q ∧ a = kV q := by
        cases ra with
        | int i => exact ⟨.inl i, rfl, rfl⟩
        | str x => exact ⟨.inr (sT x), rfl, rfl⟩
        | _ => cases hk
      obtain ⟨q, hq, rfl⟩ := key
      exact ⟨(q, b) :: kvs, by rw [hx]; rfl, by simp [hl], fun acc ak r => hf _ _ (Rkv.put hq rb r)⟩
    · cases e
end
section
variable {X : Cx} {G : Ctx} {E : XK} {pos : Pos}
theorem rd_dct0 {mu : Bool} : PE X (.Dict [] [] pos) (RE X G E (.dct mu false .nil)) :=
  PE.imp pe_dnewK fun σ H Q ⟨Z, ρ, ph, mm, s, h, q⟩ => by
    intro p hp
    unfold evE evL at q
    exact new_dct (mu := mu) (es := []) (kvs := []) q h .nil hp
theorem rd_disp {mu : Bool} {keys : List (Option Expr)} {values : List Expr} {ps : List (CE × CE)} (h : PPs X pos keys values (ps.map fun p => (RE X G E p.1, RE X G E p.2))) (hall : keys.all (·.isSome) = true) (hl : keys.length = values.length) (h0 : keys ≠ [])
    (h15 : keys.length ≤ 15) : PE X (.Dict keys values pos) (RE X G E (.dct mu false (flatC ps))) :=
  PE.imp (pe_disp h hall hl h0 h15) fun σ H Q ⟨Z, ρ, ph, mm, s, hr, q⟩ => by
    intro p hp
    unfold evE at q
    have la : Ext H mm (upd H p (.dK [])) mm := Ext.laid hp
    have nz : ¬ Z p := fun z => (hr.fz hp (hr.notIn hp)).2 z
    have W : Wish X.prog X.w X.K E (bar Z p) (upd H p (.dK [])) mm (PostE X.prog X.w X.K Z E H mm Q) := ⟨fun z => z, fun c u h t x d H' m1 e h1 hd fz r1 => t x d H' m1 (la.trans e) h1.show_ hd ⟨fz.1, fun z => fz.2 (.inl z)⟩ (r1.wk (Wk.less fun a z => .inl z))⟩
    have sw : SRp X.prog X.w X.K (bar Z p) (upd H p (.dK [])) mm ρ σ := s.wk ((Wk.more fun a z => by
      rcases z with z | z
      · exact .inl z
      · exact .inr (z ▸ hp)).trans la.wk)
    refine tPairs_mono (fun xs H2 ⟨vs, p2, m2, e2, h2, r2, q2⟩ => ?_) (pairs_post W (Ext.refl _ _) sw (hr.hide hp) q)
    have np : p ∉ mm := hr.notIn hp
    have hp2 : H2 p = some (.dK []) := e2.keep p _ np upd_same
    refine ⟨hp2, ?_⟩
    split at q2
    · rename_i es ee
      obtain ⟨kvs, hx, hlen, hf⟩ := pairUp_kv r2 ee
      split at q2
      · rename_i h15'
        refine ⟨kvs, hx, by rw [hlen]; exact h15', ?_⟩
        have hb := h2.fill (o := .dK (mergeK [] kvs))
        have rk := hf [] [] .nil
        exact dc_done (mu := mu) hp nz ((la.trans e2).fill hp) hb upd_same (rk.wk (Wk.hid (.inr rfl))) q2
      · exact q2.elim
    · exact q2.elim
end
end Ev
end
section
set_option maxRecDepth 100000
/-! EvZ: dict comprehensions. -/
namespace Ev
open PySem PySem.Spec PyProof.Rows L2
section
variable {X : Cx} {G : Ctx} {E : XK}
theorem dturn_ok {t : Tg} {ρ : Env} {own : List Nat} {cc ck ce : CE} {x : PV} {h2 : PH} {o : Option (PV × PV)} {h : PH} (e : dcTurn G t ρ own cc ck ce x h2 = .ok o h) :
    ∃ ρ1 b h3, asg t x h2 (Ev.wipe ρ own) = some ρ1 ∧ evE G cc ρ1 h2 = .ok (.bl b) h3 ∧ ((b = true ∧ ∃ u v h4, evE G ck ρ1 h3 = .ok u h4 ∧ evE G ce ρ1 h4 = .ok v h ∧ o = some (u, v)) ∨ (b = false ∧ o = none ∧ h = h3)) := by
  unfold dcTurn at e
  cases e1 : asg t x h2 (Ev.wipe ρ own) with
  | none => rw [e1] at e; cases e
  | some ρ1 =>
    rw [e1] at e
    dsimp only at e
    cases e2 : evE G cc ρ1 h2 with
    | stk => rw [e2] at e; cases e
    | exc _ _ _ => rw [e2] at e; cases e
    | ok v h3 =>
      rw [e2] at e
      cases v with
      | bl b =>
        refine ⟨ρ1, b, h3, rfl, e2, ?_⟩
        cases b with
        | false =>
          cases e
          exact .inr ⟨rfl, rfl, rfl⟩
        | true =>
          have e' : ((evE G ck ρ1 h3).bind fun u h4 => (evE G ce ρ1 h4).bind fun v h5 => Ev.R.ok (some (u, v)) h5).calm = .ok o h := e
          cases e3 : evE G ck ρ1 h3 with
          | stk => rw [e3] at e'; cases e'
          | exc _ _ _ => rw [e3] at e'; cases e'
          | ok u h4 =>
            rw [e3] at e'
            have e'' : ((evE G ce ρ1 h4).bind fun v h5 => Ev.R.ok (some (u, v)) h5).calm = .ok o h := e'
            cases e4 : evE G ce ρ1 h4 with
            | stk => rw [e4] at e''; cases e''
            | exc _ _ _ => rw [e4] at e''; cases e''
            | ok v h5 =>
              rw [e4] at e''
              cases e''
              exact .inl ⟨rfl, u, v, h4, rfl, e4, rfl⟩
      | _ => cases e
theorem dturn_no {t : Tg} {ρ : Env} {own : List Nat} {cc ck ce : CE} {x : PV} {h2 : PH} {c : Nat} {u : PV} {h : PH} (er : dcTurn G t ρ own cc ck ce x h2 = .exc c u h) : False := by
  unfold dcTurn at er
  split at er
  · rename_i ρ1 _
    cases e3 : (evE G cc ρ1 h2).test fun b h3 => if b then (evE G ck ρ1 h3).bind fun u h4 => (evE G ce ρ1 h4).bind fun v h5 => Ev.R.ok (some (u, v)) h5 else .ok none h3 with
    | ok _ _ => rw [e3] at er; cases er
    | exc _ _ _ => rw [e3] at er; cases er
    | stk => rw [e3] at er; cases er
  · cases er
theorem dc_walk {Z : Addr → Prop} {H1 : Hp} {m1 : List Addr} {h1 : PH} {ρ : Env} {σ : L2.St} {Q : VK} {its : Ev.Its} {J : It} {mu : Bool} {own : List Nat} {t : Tg} {cc ck ce : CE} {D : Addr} (hρ : SRp X.prog X.w X.K Z H1 m1 ρ σ) (hr : HRp X.prog X.w X.K Z H1 m1 h1) (k : Wlk X.prog X.w X.K Z H1 m1 h1 its J)
    (hown : ∀ i ∈ tgIx t, i ∈ own) (hD : H1 D = none)
    (q : PostE X.prog X.w X.K Z E H1 m1 Q ((dcLoop (held (lockH h1 its.nl) its.lk) false (dcTurn G t ρ own cc ck ce) its.xs [] (lockH h1 its.nl)).bind fun vs h5 => newDct mu false vs (unlockH h5 its.nl))) :
    ∃ W : Nat → Nat → Hp → Prop, (∃ m, W 0 m (upd H1 D (.dK []))) ∧ ∀ i m H, W i m H →
      (J.stop i H ∧ Q (.ref D) H) ∨ (J.go i H ∧ ∃ Nx : Hp → Prop, (∀ H', Nx H' → ∃ m', m' < m ∧ W (i + 1) m' H') ∧ ∀ x H', J.yld i H x H' → rdG X.prog X.w X.K t x (L2.wipe σ own) H' fun σ2 H2 => L2.wipe σ2 own = L2.wipe σ own ∧ RT X G F0 cc σ2 H2 fun b H3 =>
        if b = true then RE X G F0 ck σ2 H3 fun y H4 => RE X G F0 ce σ2 H4 fun z H5 => ∃ kvs k, y = kV k ∧ H5 D = some (.dK kvs) ∧ kvs.length < sizeLine ∧ Nx (upd H5 D (.dK (putK kvs k z))) else Nx H3) := by
  have nz : ¬ Z D := fun z => by
    obtain ⟨⟨o, e⟩, _⟩ := hr.zs D z
    rw [hD] at e; cases e
  refine ⟨fun i m H => m = its.xs.length - i ∧ i ≤ its.xs.length ∧ ∃ acc ph' mm vs, Ext H1 m1 H mm ∧ HRp X.prog X.w X.K (bar Z D) H mm ph' ∧ H D = some (.dK vs) ∧ Rkv X.prog X.w X.K (bar Z D) H mm acc vs ∧
    PostE X.prog X.w X.K Z E H1 m1 Q ((dcLoop (held (lockH h1 its.nl) its.lk) false (dcTurn G t ρ own cc ck ce) (its.xs.drop i) acc ph').bind fun vs h5 => newDct mu false vs (unlockH h5 its.nl)), ⟨_, rfl, Nat.zero_le _, [], lockH h1 its.nl, m1, [], Ext.laid hD, (hr.lock).hide hD, upd_same, .nil, q⟩, ?_⟩
  rintro i m H ⟨rfl, hi, acc, ph', mm, vs, e, h, hDl, ra, q⟩
  have zl : ∀ b, bar Z D b → Z b ∨ H1 b = none := fun b z => by
    rcases z with z | z
    · exact .inl z
    · exact .inr (z ▸ hD)
  by_cases hlt : i < its.xs.length
  · refine .inr ?_
    have hx : its.xs.drop i = its.xs[i] :: its.xs.drop (i + 1) := by rw [List.drop_eq_getElem_cons hlt]
    rw [hx] at q
    unfold dcLoop at q
    split at q
    · rename_i hck
      have later : Later X.prog X.w X.K Z H1 m1 h1 its.lk its.nl (bar Z D) H mm ph' := ⟨zl, e, h, hck⟩
      obtain ⟨go, yl⟩ := (k _ _ _ _ i later).2 its.xs[i] (by simp [hlt])
      cases er : dcTurn G t ρ own cc ck ce its.xs[i] ph' with
      | stk => rw [er] at q; exact q.elim
      | exc c u h2 => exact (dturn_no er).elim
      | ok o h2 =>
        rw [er] at q
        obtain ⟨ρ1, b, h3, ea, eb, ho⟩ := dturn_ok er
        refine ⟨go, _, fun H' hW => ⟨its.xs.length - (i + 1), by omega, hW⟩, fun x H' hy => ?_⟩
        obtain ⟨ey, hry, rx⟩ := yl x H' hy
        have s1 : SRp X.prog X.w X.K (bar Z D) H' mm (Ev.wipe ρ own) (L2.wipe σ own) := (hρ.wk (later.wk.trans ey.wk)).wipe own
        have hDn : D ∉ mm := (h.zs D (.inr rfl)).2
        have hD' : H' D = some (.dK vs) := ey.keep D _ hDn hDl
        have ra' := ra.wk (ey.wk (Z := bar Z D))
        refine ⟨bar Z D, Ev.wipe ρ own, ph', mm, its.xs[i], ρ1, s1, hry, rx, ea, fun σ2 s2 w2 => ⟨by rw [w2 own hown, wipe_set_self], bar Z D, ρ1, ph', mm, s2, hry, ?_⟩⟩
        unfold PostB
        rw [eb]
        intro b' H3 m3 e3 hr3 hb
        cases hb
        have hD3 : H3 D = some (.dK vs) := e3.keep D _ hDn hD'
        have hDn3 : D ∉ m3 := (hr3.zs D (.inr rfl)).2
        have ra3 := ra'.wk (e3.wk (Z := bar Z D))
        have eAll : Ext H1 m1 H3 m3 := (e.trans ey).trans e3
        rcases ho with ⟨rfl, u, v, h4, ek, ev, rfl⟩ | ⟨rfl, rfl, rfl⟩
        · rw [if_pos rfl]
          refine ⟨bar Z D, ρ1, h3, m3, s2.wk e3.wk, hr3, ?_⟩
          rw [ek]
          intro y H4 m4 e4 hr4 ry
          refine ⟨bar Z D, ρ1, h4, m4, (s2.wk e3.wk).wk e4.wk, hr4, ?_⟩
          rw [ev]
          intro z H5 m5 e5 hr5 rz
          have q2 : PostE X.prog X.w X.K Z E H1 m1 Q ((if (decide (acc.length < szLine) && keyOk false u) = true then dcLoop (held (lockH h1 its.nl) its.lk) false (dcTurn G t ρ own cc ck ce) (its.xs.drop (i + 1)) (dput acc u v) h2 else .stk).bind fun vs h5 => newDct mu false vs (unlockH h5 its.nl)) := q
          split at q2
          · rename_i hz
            obtain ⟨hz1, hz2⟩ := Bool.and_eq_true_iff.mp hz
            have key : ∃ q, kOf u = some q ∧ y = kV q := by
              cases ry with
              | int i => exact ⟨.inl i, rfl, rfl⟩
              | str x => exact ⟨.inr (sT x), rfl, rfl⟩
              | _ => cases hz2
            obtain ⟨kq, hq, rfl⟩ := key
            have hDn4 : D ∉ m4 := (hr4.zs D (.inr rfl)).2
            refine ⟨vs, kq, rfl, e5.keep D _ hDn4 (e4.keep D _ hDn3 hD3), by rw [← ra.len]; exact of_decide_eq_true hz1, rfl, hlt, dput acc u v, h2, m5, putK vs kq z, ((eAll.trans e4).trans e5).fill hD, hr5.fill, upd_same, ?_, q2⟩
            exact (Rkv.put hq rz ((ra3.wk (e4.wk (Z := bar Z D))).wk (e5.wk (Z := bar Z D)))).wk (Wk.hid (.inr rfl))
          · exact q2.elim
        · rw [if_neg Bool.false_ne_true]
          exact ⟨rfl, hlt, acc, _, m3, vs, eAll, hr3, hD3, ra3, q⟩
    · exact q.elim
  · have he : i = its.xs.length := by omega
    subst he
    rw [List.drop_length] at q
    unfold dcLoop at q
    split at q
    · rename_i hck
      exact .inl ⟨(k _ _ _ _ _ ⟨zl, e, h, hck⟩).1 rfl, dc_done (mu := mu) hD nz e h.unlock hDl ra q⟩
    · exact q.elim
theorem rd_dc (B : Bx X) {kx vx tg iter : Expr} {ifs : List Expr} {scope : Scope} {own : List (Str × Nat)} {pos : Pos} {ci : CI} {t : Tg} {cc ck ce : CE} {mu : Bool} (hi : PI X tg iter (RI X G E ci)) (ok : BlkOk X.N X.env.scope scope own)
    (hown : ∀ i ∈ tgIx t, i ∈ own.map (·.2))
    (hg : ∀ (s : Shared) (H : Hp) (C : Addr) (cl : List (Str × Addr)) (fp : List Addr), PG (X.blk s H scope (compEnvC scope cl C X.env) fp) tg (rdG X.prog X.w X.K t)) (ht : ∀ (s : Shared) (H : Hp) (C : Addr) (cl : List (Str × Addr)) (fp : List Addr), PTs (X.blk s H scope (compEnvC scope cl C X.env) fp) ifs (RT X G F0 cc))
    (hk : ∀ (s : Shared) (H : Hp) (C : Addr) (cl : List (Str × Addr)) (fp : List Addr), PE (X.blk s H scope (compEnvC scope cl C X.env) fp) kx (RE X G F0 ck))
    (he : ∀ (s : Shared) (H : Hp) (C : Addr) (cl : List (Str × Addr)) (fp : List Addr), PE (X.blk s H scope (compEnvC scope cl C X.env) fp) vx (RE X G F0 ce)) (hs : ∀ x, foldedSetIterable iter X.env x = pure x) :
    PE X (.DictComp kx vx [⟨tg, iter, ifs, 0⟩] scope pos) (RE X G E (.dc mu false (own.map (·.2)) t ci cc ck ce)) := by
  refine PE.imp (pe_dc B.calm B.nd hi ok hg ht hk he hs) fun σ H Q ⟨Z, ρ, ph, mm, hρ, hr, q⟩ => ?_
  rw [dc_eq] at q
  refine ⟨Z, ρ, ph, mm, hρ, hr, ?_⟩
  cases er : evI G ci ρ ph with
  | stk => rw [er] at q; exact q.elim
  | exc c u h => rw [er] at q; exact q
  | ok its h1 =>
    rw [er] at q
    intro J H1 m1 e1 h1r k D hD
    exact dc_walk (hρ.wk e1.wk) h1r k hown hD (PostG.ext q e1)
end
end Ev
end
section
set_option maxRecDepth 100000
/-! EvM2: enumerate with a start. -/
namespace Ev
open PySem PySem.Spec PyProof.Rows L2
/-- the list at a, each item in a new pair with its number from k0 on -/
def Itec (K : PySem.W.Frag) (k0 : Int) (a : Addr) : It :=
  ⟨fun i H => ∃ (xs : List V) (x : V), SqL K H a xs ∧ xs[i]? = some x, fun i H v H' => ∃ T x, v = .ref T ∧ H T = none ∧ H' = upd H T (.tup [.int (k0 + ((i : Nat) : Int)), x]) ∧ ∀ xs, SqL K H a xs → xs[i]? = some x, fun i H => ∃ xs : List V, SqL K H a xs ∧ xs.length = i⟩
theorem turn_enumC {P : Program} {w : World} {K : PySem.W.Frag} {elts : List Expr} {kk : Nat} {tpos : Pos} (k0 : Int) (a e it : Addr) :
    Turn P w K (.Tuple elts kk tpos) (Itec K k0 a) [e, it] e (fun i h => (∃ old, IsEnum h e it (k0 + ((i : Nat) : Int)) old) ∧ h.IsListIter it a i ∧ e ≠ it) where
  mem := by simp
  obj := fun i h st b hb => by
    obtain ⟨⟨old, he⟩, ⟨o, ho, hc, hd⟩, _⟩ := st
    have e2 : b = e ∨ b = it := by simpa using hb
    rcases e2 with z | z
    · rw [z]; exact ⟨_, he, fun v q => nomatch q⟩
    · rw [z]; exact ⟨o, ho, fun v q => by rw [hd] at q; cases q⟩
  keep := fun i h h' st k => let ⟨⟨old, he⟩, hi, hne⟩ := st; ⟨⟨old, k e (by simp) _ he⟩, hi.at fun o q => k it (by simp) o q, hne⟩
  item := by
    intro X hP hw hK hc i pins s σ H E I hf st hg
    subst hP hw hK
    obtain ⟨⟨old, he⟩, hit, hne⟩ := st
    obtain ⟨xs, x, hq, hx⟩ := hg
    obtain ⟨its, rv, p, hz⟩ := I.list hq
    obtain ⟨u, hu, ru⟩ := rv.get hx
    have hel : e < s.heap.objs.size := Heap.lt_size he
    have hil : it < s.heap.objs.size := by obtain ⟨_, q, _⟩ := hit; exact Heap.lt_size q
    have hL := p.isList
    have nea : e ≠ a := fun z => by
      obtain ⟨o, ho, _, hd⟩ := id hL
      rw [← z] at ho
      have he2 : s.heap.get? e = some _ := he
      rw [ho] at he2; cases he2
      obtain ⟨_, hd⟩ := hd
      cases hd
    have nia : a ≠ it := fun z => by
      obtain ⟨o, ho, _, hd⟩ := id hL
      obtain ⟨o2, ho2, _, hd2⟩ := id hit
      rw [z, ho2] at ho; cases ho
      obtain ⟨_, hd⟩ := hd
      rw [hd] at hd2; cases hd2
    refine wpAny_pyNext_enum_itemC (Draws.list (A := X.A.in1) (I.ok.hd hc) it a nia _) he ⟨hit, hL⟩ (by have := rv.length; have := (List.getElem?_eq_some_iff.mp hx).1; simp; omega) hne (by simp [hne, nea]) fun x2 h' tk hP2 ho hst' hT hsz hk => ?_
    obtain rfl : u = x2 := by
      have h2 : its.toArray[i]? = some x2 := hP2
      have h3 : its[i]? = some x2 := by simpa using h2
      rw [hu] at h3; cases h3; rfl
    refine ⟨_, rfl, wpAny_letOwnedTupleGo_enum (s := { s with heap := h', toks := tk + 1 }) ho fun h'' he' sb => ?_⟩
    have hT2 : h''.get? s.heap.objs.size = some { cls := .type "tuple", data := .seq #[.int (k0 + ((i : Nat) : Int)) tk, u] } := (sb.2 _ (Nat.ne_of_gt hel)).trans hT
    have new : ObjOk X.prog X.w (upd H s.heap.objs.size (.tup [.int (k0 + ((i : Nat) : Int)), x])) h'' s.heap.objs.size (.tup [.int (k0 + ((i : Nat) : Int)), x]) :=
      ⟨by show 2 ≤ sizeLine; decide, [.int (k0 + ((i : Nat) : Int)) tk, u], .cons ⟨_, rfl⟩ (.cons ru .nil), ⟨_, hT2, rfl, _, rfl⟩⟩
    have I1 : Inv X pins σ (upd H s.heap.objs.size (.tup [.int (k0 + ((i : Nat) : Int)), x])) { s with heap := h'', toks := tk + 1 } :=
      I.turnedNew (ch := [e, it]) (fun b ob hb q => (sb.2 b (fun z => hb (by simp [z]))).trans (hk b ob (fun z => hb (by simp [z])) (fun z => hb (by simp [z])) q)) hf (Nat.le_refl _) new
    refine ⟨.ref s.heap.objs.size, _, I1, rfl, ⟨_, x, rfl, I.hok.fresh (Nat.le_refl _), rfl, fun ys hy => by rw [I.list_inj hy hq]; exact hx⟩, ⟨⟨u, ?_⟩, hst'.1.at fun o q => (sb.2 it (Ne.symm hne)).trans q, hne⟩, fun b hb => ?_⟩
    · have e1 : k0 + ((i + 1 : Nat) : Int) = k0 + (i : Int) + 1 := by omega
      rw [e1]; exact he'
    · have hb' : b < s.heap.objs.size := by
        have e2 : b = e ∨ b = it := by simpa using hb
        rcases e2 with z | z
        · rw [z]; exact hel
        · rw [z]; exact hil
      rw [upd_ne (Nat.ne_of_lt hb')]
      exact (hf b hb).1
  done := by
    intro X hP hw hK hc i pins s σ H E I hf st hg
    subst hP hw hK
    obtain ⟨⟨old, he⟩, hit, hne⟩ := st
    obtain ⟨xs, hq, hx⟩ := hg
    obtain ⟨its, rv, p, hz⟩ := I.list hq
    obtain ⟨f0, f1, f2, f3, f4, f5⟩ := hf it (by simp)
    have hL := p.isList
    have nia : a ≠ it := fun z => by
      obtain ⟨o, ho, _, hd⟩ := id hL
      obtain ⟨o2, ho2, _, hd2⟩ := id hit
      rw [z, ho2] at ho; cases ho
      obtain ⟨_, hd⟩ := hd
      rw [hd] at hd2; cases hd2
    have hn : its.toArray.size = i := by have := rv.length; simp; omega
    refine wpAny_pyNext_enum_endD (Draws.list (A := X.A.in1) (I.ok.hd hc) it a nia its.toArray) he ⟨by rw [hn]; exact hit, hL⟩ fun h' eb => ⟨rfl, I.turned (t' := s.toks) (fun b o hb q => eb b o hb q) f0 f1 f3 f4 f5⟩
  self := fun A i s Q E st h => let ⟨⟨_, he⟩, _⟩ := st; wpAny_pyIter_enum he h
theorem callTyK {M : Model} {A : Around} {E : Value → Shared → Prop} {s : Shared} {cp : Pos} {T : String} {as : List (Bool × Sem Value)} {ks : List (Option Str × Sem Value)} {Q : Value → Shared → Prop} (hp : as.any (·.1) = false) (hn : ks.any (·.1.isNone) = false)
    (h : wpAny M A (evalArgs (.type T) true as ks) (fun a s₁ => wpAny M A (call (.type T) a.pos a.kw) Q E s₁) E s) : wpAny M A (callWith cp (.type T) [] as ks) Q E s := by
  unfold callWith
  refine wpAny_bind (wpAny_holding (wpAny_mono h (fun a s₁ h₁ => wpAny_bind (wpAny_standAt ?_)) fun _ _ x => x))
  simp only [hp, hn, Bool.or_false]
  refine wpAny_bind (wpAny_pure ?_)
  refine wpAny_bind (wpAny_mono h₁ (fun r s₂ hr => wpAny_bind (wpAny_holding (wpAny_point (wpAny_pure hr)))) fun _ _ x => x)
/-- enumerate(list, start=k0) -/
def iEnumC (K : PySem.W.Frag) (k0 : Int) (ta : TA) : TI := fun σ H R => ta σ H fun vs H1 => ∃ a xs, vs = [.ref a] ∧ SqL K H1 a xs ∧ R (Itec K k0 a) H1
theorem pi_enumC {X : Cx} {e : Expr} {ta : TA} {p pos tpos p3 kp : Pos} {elts : List Expr} {kk j : Nat} {k0 : Int} (h0 : -(2 ^ 63) ≤ k0) (h1 : k0 < 2 ^ 63) (hg : Gl X "enumerate") (hm : X.mg "enumerate" = none) (ha : PA X [e] ta) (hs : starEach [e] X.env = (false, eval e X.env) :: []) :
    PI X (.Tuple elts kk tpos) (.Call (.Name "enumerate" p) [e] [⟨some "start", .Constant (.int k0) j p3, kp⟩] pos) (iEnumC X.K k0 ta) := by
  refine ⟨fun pins s σ H R I h => ?_⟩
  have har := ha.run pos pins s σ H _ I h
  refine wpAny_Call_Name_kw (ld_blt I hg hm boot_enumerate ?_)
  rw [hs] at har ⊢
  refine callTyK rfl rfl (evalArgs_kwB rfl (thn har fun us s1 hh => ?_))
  obtain ⟨vs, H1, I1, r1, a, xs, rfl, hq, q⟩ := hh
  cases r1 with
  | cons r rr =>
    cases rr
    cases r
    refine kws_cons (thn ((pe_int (X := X) (i := k0)).run pins s1 σ H1 (fun x H => x = .int k0 ∧ H = H1) I1 ⟨rfl, rfl⟩) fun u2 s2 hh2 => kws_nil ?_)
    obtain ⟨x2, H2, I2, r2, rfl, rfl⟩ := hh2
    obtain ⟨t2, rfl⟩ := r2
    obtain ⟨its, rv, p', hz⟩ := I2.list hq
    refine enum_begins_start (begins_list a its.toArray) p'.isList h0 h1 fun h' he hit hsz hk => wpAny_pyIter_enum he ?_
    have I3 : Inv X pins σ H2 { s2 with heap := h' } := I2.kept (t' := s2.toks) hk
    have hli : h'.IsListIter s2.heap.objs.size a 0 := ⟨_, hit, rfl, rfl⟩
    refine ⟨s2.heap.objs.size + 1, [s2.heap.objs.size + 1, s2.heap.objs.size], _, _, H2, rfl, I3, turn_enumC k0 a (s2.heap.objs.size + 1) s2.heap.objs.size, ⟨⟨.none, by simpa using he⟩, hli, Nat.succ_ne_self _⟩, fun b hb => ?_, q⟩
    have hle : s2.heap.objs.size ≤ b := by
      have e2 : b = s2.heap.objs.size + 1 ∨ b = s2.heap.objs.size := by simpa using hb
      rcases e2 with z | z
      · exact z ▸ Nat.le_add_right _ _
      · exact z ▸ Nat.le_refl _
    exact I2.fpOk hle (I2.hok.fresh hle)
section
variable {P : Program} {w : World} {K : PySem.W.Frag} {Z : Addr → Prop} {H1 : Hp} {m1 : List Addr} {h1 : PH} {lk nl : List Nat}
theorem wlk_enumC {k0 : Int} {xs : List PV} {a : Addr} (h : StL P w K Z H1 m1 h1 lk nl xs a) : Wlk P w K Z H1 m1 h1 ⟨enmT k0 xs, lk, nl⟩ (Itec K k0 a) := fun Z' H' m' ph' i l => by
  obtain ⟨vs, hq, r⟩ := h Z' H' m' ph' l
  refine ⟨fun hi => ⟨vs, hq, by rw [← r.len]; simpa [enm_len] using hi⟩, fun v e => ?_⟩
  obtain ⟨u, e1, rfl⟩ := enm_get e
  obtain ⟨x, ex, rx⟩ := r.get e1
  refine ⟨⟨vs, x, hq, ex⟩, fun y H'' hy => ?_⟩
  obtain ⟨T, z, rfl, hT, rfl, hz⟩ := hy
  have hzv := hz vs hq
  rw [ex] at hzv; cases hzv
  exact pair_laid l.hr hT (.int _) rx
end
section
variable {X : Cx} {G : Ctx} {E : XK} {e : Expr} {c : CE}
/-- enumerate of a list, from k0 -/
theorem ri_enmC {p pos tpos p3 kp : Pos} {elts : List Expr} {kk j : Nat} {k0 : Int} (hk0 : k0 ≠ 0) (h0 : -(2 ^ 63) ≤ k0) (h1 : k0 < 2 ^ 63) (hs : nst e = true) (hg : Gl X "enumerate") (hm : X.mg "enumerate" = none) (he : PE X e (RE X G E c)) :
    PI X (.Tuple elts kk tpos) (.Call (.Name "enumerate" p) [e] [⟨some "start", .Constant (.int k0) j p3, kp⟩] pos) (RI X G E (.enm c k0)) := by
  have hA : PA X [e] (RL X G E (.cons c .nil)) := rl_cons (star_cons hs) he rl_nil
  refine ⟨fun pins s σ H R I ⟨Z, ρ, ph, mm, hρ, hr, q⟩ => (pi_enumC h0 h1 hg hm hA (star_cons hs)).run pins s σ H R I ⟨Z, ρ, ph, mm, hρ, hr, ?_⟩⟩
  unfold evI at q
  unfold evL evL
  have q0 := q.bindE
  cases er : evE G c ρ ph with
  | stk => rw [er] at q; exact q.elim
  | exc k u h => rw [er] at q0; exact q0
  | ok v h1 =>
    rw [er] at q0
    intro xs H' m' e1 hr' rr
    obtain ⟨x, rfl, rx⟩ := Rps.one rr
    obtain ⟨v', h', m2, ev, e2, hr2, rx2, q1⟩ := q0 x H' m' e1 hr' rx
    cases ev
    unfold enmOp at q1
    split at q1
    · rename_i ys es
      obtain ⟨a, rfl, ⟨vs, hq⟩, st⟩ := stL_lst (lk := lockOf v) (nl := newOf h1 v) hr2 rx2 es (fun n hn => hn) (fun n hn => hn)
      exact ⟨a, vs, rfl, hq, q1.at_ hr2 (wlk_enumC st)⟩
    · split at q1
      · split at q1
        · rename_i hz; exact absurd hz hk0
        · exact q1.elim
      · exact q1.elim
end
end Ev
end
section
set_option maxRecDepth 100000
/-! EvKc: a dict that is walked is locked; a dict against the empty one; upper. -/
namespace Ev
open PySem PySem.Spec PyProof.Rows L2
section
variable {P : Program} {w : World} {K : PySem.W.Frag} {Z : Addr → Prop} {H : Hp} {mm : List Addr} {ph : PH}
theorem shut_ok {ρ : Env} {x n : Nat} {h1 : PH} (e : shut ρ x ph = some (n, h1)) : ∃ kvs, ρ[x]? = some (some (.ref n)) ∧ ph[n]? = some (.dct false kvs) ∧ h1 = ph.set n (.lck (.dct false kvs)) := by
  unfold shut at e
  split at e
  · rename_i m em
    split at e
    · rename_i kvs ek
      cases e
      exact ⟨kvs, em, ek, rfl⟩
    · cases e
  · cases e
theorem openD_ok {n : Nat} {h h1 : PH} (e : openD n h = some h1) : ∃ kvs, h[n]? = some (.lck (.dct false kvs)) ∧ h1 = h.set n (.dct false kvs) := by
  unfold openD at e
  split at e
  · rename_i kvs ek
    cases e
    exact ⟨kvs, ek, rfl⟩
  · cases e
theorem Rkv.keyAt : ∀ {es : List (PV × PV)} {kvs : List (Key × V)} {i : Nat} {p : PV × PV} {k : Key} {u : V}, Rkv P w K Z H mm es kvs → es[i]? = some p → kvs[i]? = some (k, u) → kOf p.1 = some k
  | _, _, _, _, _, _, .nil, h1, _ => by simp at h1
  | _, _, 0, _, _, _, .cons hk _ _, h1, h2 => by
    simp at h1 h2
    obtain ⟨rfl, rfl⟩ := h2
    subst h1
    exact hk
  | _, _, i + 1, _, _, _, .cons _ _ t, h1, h2 => by
    simp at h1 h2
    exact Rkv.keyAt t h1 h2
/-- the lock is laid: the state, and the way back -/
structure Shut (P : Program) (w : World) (K : PySem.W.Frag) (Z : Addr → Prop) (H : Hp) (mm : List Addr) (ρ : Env) (σ : L2.St) (n : Nat) (h1 : PH) (d : Addr) (kvs : List (Key × V)) : Prop where
  hd : H d = some (.dK kvs)
  ix : mm[n]? = some d
  s : ∀ od, SRp P w K Z (upd H d (.frz od (.dK kvs))) mm ρ σ
  h : ∀ od, HRp P w K Z (upd H d (.frz od (.dK kvs))) mm h1
theorem shut_at {ρ : Env} {σ : L2.St} {x n : Nat} {h1 : PH} (s : SRp P w K Z H mm ρ σ) (hr : HRp P w K Z H mm ph) (e : shut ρ x ph = some (n, h1)) : ∃ d kvs, Shut P w K Z H mm ρ σ n h1 d kvs := by
  obtain ⟨es, e1, e2, rfl⟩ := shut_ok e
  obtain ⟨v, ev, rv⟩ := s.2 x _ e1
  cases rv with
  | ref hm =>
    rename_i d
    cases hr.ob n _ d e2 hm with
    | dct hd r =>
      rename_i kvs
      have wk : ∀ od, Wk Z Z H mm (upd H d (.frz od (.dK kvs))) mm := fun od => Wk.own (List.mem_of_getElem? hm)
      exact ⟨d, kvs, hd, hm, fun od => s.wk (wk od), fun od => hr.wrote hm (.lckD upd_same (r.wk (wk od)))⟩
/-- the lock is taken away -/
theorem open_at {n : Nat} {d : Addr} {od : Obj} {kvs : List (Key × V)} {H' : Hp} {m' : List Addr} {h h1 : PH} (hd : H d = some (.dK kvs)) (hm : mm[n]? = some d) (e : Ext (upd H d (.frz od (.dK kvs))) mm H' m') (hr : HRp P w K Z H' m' h) (eo : openD n h = some h1) :
    H' d = some (.frz od (.dK kvs)) ∧ Ext H mm (upd H' d (.dK kvs)) m' ∧ HRp P w K Z (upd H' d (.dK kvs)) m' h1 ∧ Wk Z Z H' m' (upd H' d (.dK kvs)) m' := by
  have hf : H' d = some (.frz od (.dK kvs)) := e.frz d od _ upd_same
  have hm' : m'[n]? = some d := (Ext.wk (Z := Z) e).ix n d hm
  have wk : Wk Z Z H' m' (upd H' d (.dK kvs)) m' := Wk.own (List.mem_of_getElem? hm')
  obtain ⟨es, e1, rfl⟩ := openD_ok eo
  refine ⟨hf, ⟨fun a o ha q => ?_, fun a o q => ?_, fun a o u q => ?_, ?_⟩, ?_, wk⟩
  · have ne : a ≠ d := fun z => ha (by rw [z]; exact List.mem_of_getElem? hm)
    rw [upd_ne ne]
    exact e.keep a o ha (by rw [upd_ne ne]; exact q)
  · by_cases ne : a = d
    · subst ne; exact ⟨_, upd_same⟩
    · obtain ⟨o', q'⟩ := e.there a o (by rw [upd_ne ne]; exact q)
      exact ⟨o', by rw [upd_ne ne]; exact q'⟩
  · have ne : a ≠ d := fun z => by rw [z, hd] at q; cases q
    rw [upd_ne ne]
    exact e.frz a o u (by rw [upd_ne ne]; exact q)
  · obtain ⟨ex, e2, hx⟩ := e.pre
    refine ⟨ex, e2, fun a ha => ?_⟩
    have := hx a ha
    by_cases ne : a = d
    · subst ne; rw [upd_same] at this; cases this
    · rw [upd_ne ne] at this; exact this
  · cases hr.ob n _ d e1 hm' with
    | lckD h r =>
      rw [hf] at h
      cases h
      exact hr.wrote hm' (.dct upd_same (r.wk wk))
end
section
variable {X : Cx} {G : Ctx} {E : XK} {e tg : Expr} {c : CE}
theorem mut_dK {kvs : List (Key × V)} : Mut (some (.dK kvs)) := True.intro
/-- an expression under a lock -/
theorem pe_kc {x : Nat} (h : PE X e (RE X G E c)) : PE X e (RE X G E (.kcE x c)) := by
  refine PE.imp (pe_lock h) fun σ H Q ⟨Z, ρ, ph, mm, s, hr, q⟩ => ?_
  unfold evE at q
  split at q
  · rename_i n h1 es
    obtain ⟨d, kvs, S⟩ := shut_at s hr es
    refine ⟨d, .dK kvs, S.hd, mut_dK, fun od => ⟨Z, ρ, h1, mm, S.s od, S.h od, ?_⟩⟩
    cases er : evE G c ρ h1 with
    | stk => rw [er] at q; exact q.elim
    | exc k u h => rw [er] at q; exact q.elim
    | ok v h2 =>
      rw [er] at q
      intro y H' m' ex hr' rv
      unfold R.thaw at q
      dsimp only at q
      split at q
      · rename_i h3 eo
        obtain ⟨hf, ex2, hr2, wk⟩ := open_at S.hd S.ix ex hr' eo
        exact ⟨hf, q y _ m' ex2 hr2 (rv.wk wk)⟩
      · exact q.elim
  · exact q.elim
/-- a statement under a lock -/
theorem ps_kc {x : Nat} {st : Stmt} {k : CS} (h : PS X st (RS' X G E k)) : PS X st (RS' X G E (.kcS x k)) := by
  refine PS.imp (ps_lock h) fun D σ H ⟨Z, ρ, ph, mm, s, hr, q⟩ => ?_
  unfold evS at q
  split at q
  · rename_i n h1 es
    obtain ⟨d, kvs, S⟩ := shut_at s hr es
    refine ⟨d, .dK kvs, S.hd, mut_dK, fun od => ⟨Z, ρ, h1, mm, S.s od, S.h od, ?_⟩⟩
    cases er : evS G k ρ h1 with
    | nx ρ2 h2 =>
      rw [er] at q
      intro σ2 H' m' ex hr' s2
      unfold RS.thaw at q
      dsimp only at q
      split at q
      · rename_i h3 eo
        obtain ⟨hf, ex2, hr2, wk⟩ := open_at S.hd S.ix ex hr' eo
        exact ⟨hf, q σ2 _ m' ex2 hr2 (s2.wk wk)⟩
      · exact q.elim
    | ret v h2 =>
      rw [er] at q
      intro y H' m' ex hr' rv
      unfold RS.thaw at q
      dsimp only at q
      split at q
      · rename_i h3 eo
        obtain ⟨hf, ex2, hr2, wk⟩ := open_at S.hd S.ix ex hr' eo
        exact ⟨hf, q y _ m' ex2 hr2 (rv.wk wk)⟩
      · exact q.elim
    | brk _ _ => rw [er] at q; exact q.elim
    | cnt _ _ => rw [er] at q; exact q.elim
    | exc _ _ _ => rw [er] at q; exact q.elim
    | stk => rw [er] at q; exact q.elim
  · exact q.elim
theorem wlk_keys {P : Program} {w : World} {K : PySem.W.Frag} {Z : Addr → Prop} {H1 : Hp} {m1 : List Addr} {h1 : PH} {d : Addr} {o : Obj} {es : List (PV × PV)} {kvs : List (Key × V)} (hd : H1 d = some (.frz o (.dK kvs))) (r : Rkv P w K Z H1 m1 es kvs) :
    Wlk P w K Z H1 m1 h1 ⟨es.map (·.1), [], []⟩ (Itk d o kvs) := fun Z' H' m' ph' i l => by
  have hd' := l.e.frz d o _ hd
  have hl := r.len
  refine ⟨fun hi => ⟨hd', by simp at hi; omega⟩, fun v e => ?_⟩
  rw [List.getElem?_map] at e
  cases ee : es[i]? with
  | none => rw [ee] at e; cases e
  | some p =>
    rw [ee] at e
    cases e
    have hi : i < es.length := (List.getElem?_eq_some_iff.mp ee).1
    refine ⟨⟨hd', by omega⟩, fun y H'' hy => ?_⟩
    obtain ⟨rfl, k, u, ek, rfl⟩ := hy
    refine ⟨Ext.refl _ _, l.hr, ?_⟩
    have hk := Rkv.keyAt r ee ek
    obtain ⟨p1, p2⟩ := p
    show Rp P w K Z' H'' m' p1 (kV k)
    cases p1 with
    | int j => cases hk; exact .int _
    | str z => cases hk; exact .str _
    | _ => cases hk
/-- the keys of a locked dict -/
theorem ri_keys (he : PE X e (RE X G E c)) : PI X tg e (RI X G E (.keys c)) := by
  refine ⟨fun pins s σ H R I ⟨Z, ρ, ph, mm, hs, hr, q⟩ => ?_⟩
  unfold evI at q
  refine (pi_keys he).run pins s σ H R I ⟨Z, ρ, ph, mm, hs, hr, q.bindE.mono fun x H' ⟨v, p1, m1, e1, e2, h1, r1, q1⟩ => ?_⟩
  unfold keysOf at q1
  split at q1
  · rename_i xs ek
    split at ek
    · rename_i n
      split at ek
      · rename_i es en
        cases ek
        have hx : ∃ d, x = .ref d ∧ m1[n]? = some d := by cases r1 with | ref hm => exact ⟨_, rfl, hm⟩
        obtain ⟨d, rfl, hm⟩ := hx
        cases h1.ob n _ d en hm with
        | lckD hd r => exact ⟨d, _, rfl, .inl ⟨_, hd, q1.at_ h1 (wlk_keys hd r)⟩⟩
      · cases ek
    · cases ek
  · exact q1.elim
end
end Ev
end
section
set_option maxRecDepth 100000
/-! EvRp: replace in a written list. -/
namespace Ev
open PySem PySem.Spec PyProof.Rows L2
open Builtin Builtin.Str

/-- what replace makes, of all or of the first -/
def rplX (one : Bool) (x y z : Tx) : Tx := if one then (glued (sT z) (partsBetween (sT x) (occurrences (sT x) (sT y) 0 (sT x).length 1) (sT y).length)).cps.toList else (Txt.replace (sT x) (sT y) (sT z)).cps.toList
theorem rplX_len (one : Bool) (x y z : Tx) : (rplX one x y z).length ≤ x.length + (x.length + 1) * z.length := by
  have hx : (sT x).length = x.length := sT_len x
  have hz : (sT z).length = z.length := sT_len z
  unfold rplX
  cases one with
  | false =>
    have q := TK.replace_len (sT x) (sT y) (sT z)
    rw [hx, hz] at q
    simpa [Str.length] using q
  | true =>
    have h1 := StrLaws.occ_length_le (sT x) (sT y) 0 (sT x).length 1
    have hy : (glued (sT y) (partsBetween (sT x) (occurrences (sT x) (sT y) 0 (sT x).length 1) (sT y).length)).length = (sT x).length := by rw [StrLaws.glued_between_self]
    rw [size_glued, length_partsBetween, Nat.add_sub_cancel] at hy
    have hq := size_glued (sT z) (partsBetween (sT x) (occurrences (sT x) (sT y) 0 (sT x).length 1) (sT y).length)
    rw [length_partsBetween, Nat.add_sub_cancel] at hq
    have h2 : (occurrences (sT x) (sT y) 0 (sT x).length 1).length * (sT z).length ≤ (x.length + 1) * z.length := by rw [hz]; exact Nat.mul_le_mul_right _ (by omega)
    have h3 : (glued (sT z) (partsBetween (sT x) (occurrences (sT x) (sT y) 0 (sT x).length 1) (sT y).length)).cps.toList.length = (glued (sT z) (partsBetween (sT x) (occurrences (sT x) (sT y) 0 (sT x).length 1) (sT y).length)).length := by simp [Str.length]
    rw [if_pos rfl, h3, hq]
    omega
section
variable {prog : Program} {w : World} {A : Around} {E : Value → Shared → Prop} {s : Shared}
/-- x.replace(y, z, 1) -/
theorem call_rp1 {x y z : Str} {t u v q : Tok} {Q : Value → Shared → Prop} (hu : u ≠ 0) (hv : v ≠ 0) (huv : u ≠ v) (hyz : (y == z) = false) (hb : x.length + (x.length + 1) * z.length ≤ 16777216)
    (hq : ∀ t' k, Q (.str (glued z (partsBetween x (occurrences x y 0 x.length 1) y.length)) t') { s with toks := k }) : wpAny (model prog w) A (call (.builtin "str.replace") [.str x t, .str y u, .str z v, .int 1 q]) Q E s := by
  have h1 := StrLaws.occ_length_le x y 0 x.length 1
  have h2 : (occurrences x y 0 x.length 1).length * z.length ≤ (x.length + 1) * z.length := Nat.mul_le_mul_right _ (by omega)
  have hl : tooLong (x.length + (occurrences x y 0 x.length 1).length * z.length) = false := by
    unfold tooLong; rw [sizeLine_eq]; exact decide_eq_false (by omega)
  have hfit : (glued z (partsBetween x (occurrences x y 0 x.length 1) y.length)).length ≤ sizeLine := by
    have hy : (glued y (partsBetween x (occurrences x y 0 x.length 1) y.length)).length = x.length := by rw [StrLaws.glued_between_self]
    rw [size_glued, length_partsBetween, Nat.add_sub_cancel] at hy
    rw [size_glued, length_partsBetween, Nat.add_sub_cancel, sizeLine_eq]
    omega
  have g : Gives («str.replace» ⟨[.str x t, .str y u, .str z v, .int 1 q], []⟩) (if ((occurrences x y 0 x.length 1).isEmpty || (y.length == 0 && z.length == 0)) = true then .val (.str x t) else .str (glued z (partsBetween x (occurrences x y 0 x.length 1) y.length))) := by
    show Gives (if ((occurrences x y 0 x.length 1).isEmpty || (y.length == 0 && z.length == 0)) = true then (do rule "str.replace.nothing"; ret (.str x t)) else
      (do let same ← isSame (.str y u) (.str z v)
          if same = true then (do rule "str.replace.old-is-new"; ret (.str x t)) else
          if tooLong (x.length + (occurrences x y 0 x.length 1).length * z.length) = true then unsupported "str.replace:memory" else
          retStr (glued z (partsBetween x (occurrences x y 0 x.length 1) y.length)))) _
    cases hc : ((occurrences x y 0 x.length 1).isEmpty || (y.length == 0 && z.length == 0))
    · rw [isSame_str_other y z u v (by simp [hu, hv]) (by simp [huv]) hyz, hl]
      exact .of_eq rfl
    · exact .rule (.of_eq rfl)
  refine call_gives F.slot_str_replace (typeIs_str _ _ _) F.entry_str_replace (F.args_str_replace_4 _ _ _ _) g ?_
  cases hc : ((occurrences x y 0 x.length 1).isEmpty || (y.length == 0 && z.length == 0))
  · simp only [Bool.false_eq_true, if_false]
    exact ⟨hfit, hq _ _⟩
  · simp only [if_true]
    have e : glued z (partsBetween x (occurrences x y 0 x.length 1) y.length) = x := by
      rcases Bool.or_eq_true_iff.mp hc with k | k
      · have k0 : occurrences x y 0 x.length 1 = [] := List.isEmpty_iff.mp k
        have k1 := StrLaws.glued_between_self x y 1
        rw [k0] at k1 ⊢
        exact k1
      · obtain ⟨k1, k2⟩ := Bool.and_eq_true_iff.mp k
        have z1 : y = ⟨#[]⟩ := by
          obtain ⟨c⟩ := y
          have : c.size = 0 := eq_of_beq k1
          rw [Array.eq_empty_of_size_eq_zero this]
        have z2 : z = ⟨#[]⟩ := by
          obtain ⟨c⟩ := z
          have : c.size = 0 := eq_of_beq k2
          rw [Array.eq_empty_of_size_eq_zero this]
        rw [z1, z2] at hyz
        exact absurd hyz (by decide)
    have q0 := hq t s.toks
    rw [e] at q0
    exact q0
/-- behind a sum with a written text a token is out -/
theorem tok_out {l : Expr} {op : Operator} {x : Str} {j : Nat} {p1 pos : Pos} {env : PySem.Env} {Q : Value → Shared → Prop} {M : Model} (h : wpAny M A (eval (.BinOp l op (.Constant (.str x) j p1) pos) env) Q E s) :
    wpAny M A (eval (.BinOp l op (.Constant (.str x) j p1) pos) env) (fun v s1 => 1 ≤ s1.toks ∧ Q v s1) E s := fun Γ p hΓ => by
  have h1 := h Γ p hΓ
  rw [arm_eval_BinOp, Sem.wp_bind'] at h1 ⊢
  refine Sem.wp_mono M Γ _ (fun a p1 s1 h2 => ?_) (fun _ _ _ z => z) _ _ h1
  rw [Sem.wp_bind', Sem.wp_holding] at h2 ⊢
  have h3 := Sem.wp_toks M Γ 1 (do standAt pos; operate [a, .str x s1.toks] (binaryOp op a (.str x s1.toks))) _ _ p1 { s1 with toks := s1.toks + 1 } (Nat.le_add_left 1 _) h2
  show Sem.wp M Γ (do standAt pos; operate [a, .str x s1.toks] (binaryOp op a (.str x s1.toks))) _ _ p1 { s1 with toks := s1.toks + 1 }
  exact Sem.wp_mono M Γ _ (fun _ _ _ z => z) (fun _ _ _ z => z.2) _ _ h3
end
section
variable {X : Cx} {G : Ctx} {E : XK} {o e : Expr} {c : CE} {es : List Expr} {cs : CEs} {y z : Str} {j k m : Nat} {c0 c1 c2 apos pos : Pos}
def tRep1 (to : TE) (y z : Str) : TE := fun σ H Q => to σ H fun v H1 => ∃ x, v = .str x ∧ x.length + (x.length + 1) * z.length ≤ 16777216 ∧ Q (.str (glued z (partsBetween x (occurrences x y 0 x.length 1) y.length))) H1
theorem pet_rep1 {to : TE} (ho : PE X o to) (hyz : (y == z) = false) (hst : starEach [.Constant (.str y) j c0, .Constant (.str z) k c1, .Constant (.int 1) m c2] X.env = [(false, eval (.Constant (.str y) j c0) X.env), (false, eval (.Constant (.str z) k c1) X.env), (false, eval (.Constant (.int 1) m c2) X.env)])
    (hbase : attributeBase o "replace" X.env (eval o X.env) = eval o X.env) (hline : (apos.endLine == pos.line) = true) : PET X (.Call (.Attribute o "replace" apos) [.Constant (.str y) j c0, .Constant (.str z) k c1, .Constant (.int 1) m c2] [] pos) (tRep1 to y z) := by
  intro pins s σ H Q h0 I h
  refine wpAny_Call_method_late hbase (by rw [hst]; rfl) hline rfl (wpAny_mono (PySem.wpAny_toks (ho.run pins s σ H _ I h)) (fun v s1 q => ?_) fun _ _ z => z.2)
  obtain ⟨hk, v', H1, I1, r1, x, rfl, hb, q⟩ := q
  obtain ⟨tx, rfl⟩ := r1
  have ht : s1.toks ≠ 0 := by omega
  refine ⟨"str", _, PySem.F.plainAttrs_str, PySem.F.slot_str_replace, PySem.F.type_str_replace, typeIs_str _ _ _, (fun _ e => nomatch e), ?_⟩
  rw [hst]
  refine Calls.callWith_builtin rfl (Calls.evalArgs_plain (Calls.spliced_cons (Calls.Constant_str (pos := c0) (k := j) (Calls.spliced_cons (Calls.Constant_str (pos := c1) (k := k) (Calls.spliced_cons (wpAny_Constant_int (pos := c2) (k := m) (Calls.spliced_nil ?_))))))))
  exact call_rp1 ht (Nat.succ_ne_zero _) (Nat.ne_of_lt (Nat.lt_succ_self _)) hyz hb fun t' k' => ⟨.str _, H1, I1.tok k', ⟨t', rfl⟩, q⟩
/-- replace, read by the evaluator -/
theorem rx_rpl {yl zl : Tx} {one : Bool} (hG : G.ops.rpl = rplX) (hy : y.cps.toList = yl) (hz : z.cps.toList = zl) {σ : L2.St} {H : Hp} {Q : VK} (q : RE X G E (.rpl one c yl zl) σ H Q) :
    RE X G E c σ H fun v H1 => ∃ x : Str, v = .str x ∧ x.length + (x.length + 1) * z.length ≤ 16777216 ∧ Q (.str (sT (rplX one x.cps.toList yl zl))) H1 := by
  obtain ⟨Z, ρ, ph, mm, s, h, q⟩ := q
  unfold evE at q
  refine ⟨Z, ρ, ph, mm, s, h, (PostG.bind q).mono fun v H1 ⟨a, p1, m1, e1, h1, r1, q1⟩ => ?_⟩
  split at q1
  · rename_i x
    split at q1
    · rename_i hl
      rw [r1.str_]
      refine ⟨sT x, rfl, ?_, ?_⟩
      · rw [sT_len]
        have : z.length = zl.length := by rw [← hz]; simp [Str.length]
        rw [this]; exact hl
      · rw [hG] at q1
        rw [sT_cps]
        exact q1.ok h1 (.str _)
    · exact q1.elim
  · exact q1.elim
theorem pet_rpl0 {yl zl : Tx} (hG : G.ops.rpl = rplX) (hy : y.cps.toList = yl) (hz : z.cps.toList = zl) (hsup : nsup o = true) (hline : (apos.endLine == pos.line) = true) (hyz : (yl == zl) = false) (ho : PE X o (RE X G E c)) : PET X (.Call (.Attribute o "replace" apos) [.Constant (.str y) j c0, .Constant (.str z) k c1] [] pos) (RE X G E (.rpl false c yl zl)) := by
  have hn : (y == z) = false := by
    refine beq_eq_false_iff_ne.mpr fun e => ?_
    rw [← hy, ← hz, e] at hyz
    simp at hyz
  intro pins s σ H Q h0 I q
  refine CwR.pet_replC ho hn rfl (base_ok hsup) hline pins s σ H Q h0 I ?_
  obtain ⟨Z, ρ, ph, mm, s', h', q'⟩ := rx_rpl hG hy hz q
  refine ⟨Z, ρ, ph, mm, s', h', q'.mono fun v H1 ⟨x, ev, hl, q2⟩ => ⟨x, ev, hl, ?_⟩⟩
  have e : sT (rplX false x.cps.toList yl zl) = Txt.replace x y z := by
    unfold rplX
    rw [if_neg Bool.false_ne_true, ← hy, ← hz, sT_back, sT_back, sT_back, sT_back]
  rw [← e]; exact q2
theorem pet_rpl1 {yl zl : Tx} (hG : G.ops.rpl = rplX) (hy : y.cps.toList = yl) (hz : z.cps.toList = zl) (hsup : nsup o = true) (hline : (apos.endLine == pos.line) = true) (hyz : (yl == zl) = false) (ho : PE X o (RE X G E c)) : PET X (.Call (.Attribute o "replace" apos) [.Constant (.str y) j c0, .Constant (.str z) k c1, .Constant (.int 1) m c2] [] pos) (RE X G E (.rpl true c yl zl)) := by
  have hn : (y == z) = false := by
    refine beq_eq_false_iff_ne.mpr fun e => ?_
    rw [← hy, ← hz, e] at hyz
    simp at hyz
  intro pins s σ H Q h0 I q
  refine pet_rep1 ho hn rfl (base_ok hsup) hline pins s σ H Q h0 I ?_
  obtain ⟨Z, ρ, ph, mm, s', h', q'⟩ := rx_rpl hG hy hz q
  refine ⟨Z, ρ, ph, mm, s', h', q'.mono fun v H1 ⟨x, ev, hl, q2⟩ => ⟨x, ev, hl, ?_⟩⟩
  have e : sT (rplX true x.cps.toList yl zl) = glued z (partsBetween x (occurrences x y 0 x.length 1) y.length) := by
    unfold rplX
    rw [if_pos rfl, ← hy, ← hz, sT_back, sT_back, sT_back, sT_back]
  rw [← e]; exact q2
/-! ### argument lists where a token is out -/
theorem rlt_nil : PAT X [] (RL X G E .nil) := fun pos pins s σ H Q _ I q => rl_nil.run pos pins s σ H Q I q
theorem PAT.imp {t t' : TA} (h : PAT X es t) (i : ∀ σ H Q, t' σ H Q → t σ H Q) : PAT X es t' := fun pos pins s σ H Q h0 I q => h pos pins s σ H Q h0 I (i σ H Q q)
theorem rl_imp {ce : CE} : ∀ σ H Q, RL X G E (.cons ce cs) σ H Q → tCons (RE X G E ce) (RL X G E cs) σ H Q := fun σ H Q ⟨Z, ρ, ph, mm, s, h, q⟩ => by
  unfold evL at q
  refine ⟨Z, ρ, ph, mm, s, h, (PostG.bind q).mono fun x H1 ⟨v, p1, m1, e1, h1, r1, q1⟩ => ⟨Z, ρ, p1, m1, s.wk e1.wk, h1, (PostG.bind q1).mono fun xs H2 ⟨vs, p2, m2, e2, h2, r2, q2⟩ => q2.ok h2 (.cons (r1.wk e2.wk) r2)⟩⟩
theorem rlt_cons {ce : CE} (hs : starEach (e :: es) X.env = (false, eval e X.env) :: starEach es X.env) (he : PET X e (RE X G E ce)) (hr : PAT X es (RL X G E cs)) : PAT X (e :: es) (RL X G E (.cons ce cs)) := PAT.imp (pat_cons he hr hs) rl_imp
/-- the first one makes a token -/
theorem rl_first {l : Expr} {op : Operator} {x : Str} {p1 p2 : Pos} {ce : CE} (he : PE X (.BinOp l op (.Constant (.str x) j p1) p2) (RE X G E ce)) (hr : PAT X es (RL X G E cs)) : PA X (.BinOp l op (.Constant (.str x) j p1) p2 :: es) (RL X G E (.cons ce cs)) :=
  ⟨fun pos pins s σ H Q I q => by
    have h := rl_imp σ H Q q
    show wpAny _ _ (spliced ((false, eval (.BinOp l op (.Constant (.str x) j p1) p2) X.env) :: backTo pos (starEach es X.env))) _ _ s
    refine Calls.spliced_cons (wpAny_mono (tok_out (he.run pins s σ H _ I h)) (fun v s1 hq => ?_) fun _ _ z => z)
    obtain ⟨h1, v', H1, I1, r1, q1⟩ := hq
    exact thn (hr pos pins s1 σ H1 _ h1 I1 q1) fun us s2 ⟨xs, H2, I2, r2, q2⟩ => ⟨v' :: xs, H2, I2, .cons r1 r2, q2⟩⟩
end
end Ev
end
section
set_option maxRecDepth 100000
/-! EvKd: a dict against the empty one; upper; a dict comprehension that is assigned. -/
namespace Ev
open PySem PySem.Spec PyProof.Rows L2
section
variable {X : Cx} {G : Ctx} {E : XK} {e o : Expr} {c : CE} {pos apos : Pos}
theorem dct_of {pins : List (Addr × Obj)} {σ : L2.St} {H : Hp} {s : Shared} (I : Inv X pins σ H s) {a : Addr} {ks : List (Key × V)} (h : Rd H a (.dK ks)) : ∃ va : List (Key × Value), (a == sysModules) = false ∧ s.heap.DictOf (mixKind X.prog X.w) a va ∧ va.length = ks.length := by
  rcases h with h | ⟨ob, h⟩
  · obtain ⟨_, ya, va, ra, da⟩ := (show ObjOk X.prog X.w H s.heap a (.dK ks) from I.hok a _ h)
    exact ⟨va, ya, da, (Paired.length ra).symm⟩
  · obtain ⟨hs, hgd, hx, es, ep, vs, hdt, hsz, kv, hm⟩ := I.frzK h
    exact ⟨vs, hs, hm.dictOf, (Paired.length kv).symm⟩
def empX (neg : Bool) : CmpOp := if neg then .NotEq else .Eq
def rEmp (neg : Bool) : R2 := fun x y H Q => ∃ a b ks, x = .ref a ∧ y = .ref b ∧ Rd H a (.dK ks) ∧ Rd H b (.dK []) ∧ Q (.bl (if neg then !ks.isEmpty else ks.isEmpty)) H
theorem op_emp (hu : X.A.units + 64 < cLine) (neg : Bool) : OpR X (compareOp (empX neg)) (rEmp neg) := by
  intro pins s σ H x y v u Q I rx ry ⟨a, b, ks, ex, ey, ha, hb, q⟩
  subst ex ey
  cases (show v = Value.ref a from rx)
  cases (show u = Value.ref b from ry)
  obtain ⟨va, ya, da, la⟩ := dct_of I ha
  obtain ⟨vb, yb, db, lb⟩ := dct_of I hb
  have eb : vb = [] := List.length_eq_zero_iff.mp lb
  subst eb
  have hits : va.length = ([] : List (Key × Value)).length → PySem.W.KeqHits (K := Key) X.A.in1 s [] va true := fun h => by
    have : va = [] := List.length_eq_zero_iff.mp h
    subst this
    exact .nil
  have el : (va.length == ([] : List (Key × Value)).length && true) = ks.isEmpty := by
    rw [la]
    cases ks <;> rfl
  cases neg with
  | true =>
    refine PySem.W.keq_ne (knd := mixKind X.prog X.w) (r := true) ya yb da db (by omega) hits ?_
    rw [el]
    exact ⟨.bl _, H, I, rfl, q⟩
  | false =>
    refine PySem.W.keq_eq (knd := mixKind X.prog X.w) (r := true) ya yb da db (by omega) hits ?_
    rw [el]
    exact ⟨.bl _, H, I, rfl, q⟩
theorem pc_emp (B : Bx X) {neg : Bool} {p2 : Pos} (ha : PE X e (RE X G E c)) : PC X (empX neg) e (.Dict [] [] p2) (RE X G E (.emp neg c)) := by
  have hb : PE X (.Dict [] [] p2) (RE X G E (.dct false false .nil)) := rd_dct0
  exact ⟨fun pins s σ H Q I ⟨Z, ρ, ph, mm, hs, h, q⟩ => by
    unfold evE at q
    have hop : tOp (rEmp neg) (RE X G E c) (RE X G E (.dct false false .nil)) σ H Q := by
      refine ⟨Z, ρ, ph, mm, hs, h, (PostG.bind q).mono fun x H1 ⟨v, p1, m1, e1, h1, r1, q1⟩ => ⟨Z, ρ, p1, m1, hs.wk e1.wk, h1, ?_⟩⟩
      have ed : evE G (.dct false false .nil) ρ p1 = .ok (.dct false []) p1 := by
        unfold evE evL
        rfl
      rw [ed]
      intro y H2 m2 e2 hr2 ry
      split at q1
      · rename_i kvs ek
        unfold dctOf? at ek
        split at ek
        · rename_i n
          split at ek
          · rename_i es en
            cases ek
            have hx : ∃ d, x = .ref d ∧ m1[n]? = some d := by cases r1 with | ref hm => exact ⟨_, rfl, hm⟩
            obtain ⟨d, rfl, hm⟩ := hx
            have hm2 : m2[n]? = some d := (Ext.wk (Z := Z) e2).ix n d hm
            cases hr2.ob n _ d en hm2 with
            | dct hd r =>
              rename_i ks
              cases ry with
              | dct hb _ rb =>
                cases rb
                have el : kvs.isEmpty = ks.isEmpty := by
                  have := r.len
                  cases kvs <;> cases ks <;> first | rfl | simp at this
                refine ⟨d, _, ks, rfl, rfl, .inl hd, hb, ?_⟩
                rw [← el]
                exact q1 _ H2 m2 e2 hr2 (.bl _)
          · cases ek
        · cases ek
      · exact q1.elim
    exact binT ha hb I hop fun v u s2 x y H2 I2 rx ry q => op_emp B.hu neg pins s2 σ H2 x y v u Q I2 rx ry q⟩
theorem rd_emp (B : Bx X) {neg : Bool} {p2 : Pos} (ha : PE X e (RE X G E c)) : PE X (.Compare e [empX neg] [.Dict [] [] p2] pos) (RE X G E (.emp neg c)) := pe_cmp (pc_emp B ha) (by cases neg <;> rfl)
theorem rt_emp (B : Bx X) {neg : Bool} {p2 : Pos} (ha : PE X e (RE X G E c)) : PT X (.Compare e [empX neg] [.Dict [] [] p2] pos) (RT X G E (.emp neg c)) :=
  PT.imp (pt_cmp (pc_emp B ha) (by cases neg <;> rfl)) fun σ H Q ⟨Z, ρ, ph, mm, s, h, q⟩ => ⟨Z, ρ, ph, mm, s, h, postB_val q⟩
def uprX (x : Tx) : Tx := (Txt.upper (sT x)).cps.toList
theorem rd_upp (hG : G.ops.upr = uprX) (hsup : nsup o = true) (hline : (apos.endLine == pos.line) = true) (ho : PE X o (RE X G E c)) : PE X (.Call (.Attribute o "upper" apos) [] [] pos) (RE X G E (.upp c)) :=
  PE.imp (pe_upper ho (base_ok hsup) hline) fun σ H Q ⟨Z, ρ, ph, mm, s, h, q⟩ => by
    unfold evE at q
    refine ⟨Z, ρ, ph, mm, s, h, (PostG.bind q).mono fun x H1 ⟨v, p1, m1, e1, h1, r1, q1⟩ => ?_⟩
    split at q1
    · rename_i z
      split at q1
      · rename_i hz
        obtain rfl := r1.str_
        refine ⟨⟨_, rfl⟩, _, rfl, rfl, by rw [sT_len]; exact hz, ?_⟩
        have q2 := q1.ok h1 (.str (G.ops.upr z))
        rw [hG] at q2
        unfold uprX at q2
        rw [sT_back] at q2
        exact q2
      · exact q1.elim
    · exact q1.elim
/-! ### name = {k: v for ..} -/
theorem ps_setDc {i : Nat} {y : Str} {py : Pos} {kx vx tg iter : Expr} {ifs : List Expr} {scope : Scope} {own : List (Str × Nat)} {p spos : Pos} {wi : TI} {g : TG} {tt : TT} {tk tv : TE} (hc : X.calm = true) (hN : X.N.Nodup) (hy : X.N[i]? = some y) (hyl : X.env.scope.names.lookup y = some .local)
    (hsw : swapsWith (.DictComp kx vx [⟨tg, iter, ifs, 0⟩] scope p) (some (.Name y py)) spos.line X.env = pure true) (hi : PI X tg iter wi) (ok : BlkOk X.N X.env.scope scope own)
    (hg : ∀ (s : Shared) (H : Hp) (C : Addr) (cl : List (Str × Addr)) (fp : List Addr), PG (X.blk s H scope (compEnvC scope cl C X.env) fp) tg g)
    (ht : ∀ (s : Shared) (H : Hp) (C : Addr) (cl : List (Str × Addr)) (fp : List Addr), PTs (X.blk s H scope (compEnvC scope cl C X.env) fp) ifs tt)
    (hk : ∀ (s : Shared) (H : Hp) (C : Addr) (cl : List (Str × Addr)) (fp : List Addr), PE (X.blk s H scope (compEnvC scope cl C X.env) fp) kx tk)
    (he : ∀ (s : Shared) (H : Hp) (C : Addr) (cl : List (Str × Addr)) (fp : List Addr), PE (X.blk s H scope (compEnvC scope cl C X.env) fp) vx tv) (hs : ∀ x, foldedSetIterable iter X.env x = pure x) :
    PS X (.Assign [.Name y py] (.DictComp kx vx [⟨tg, iter, ifs, 0⟩] scope p) spos) (tAsg (tDc wi g tt tk tv (own.map (·.2))) (gName i)) := by
  refine ⟨fun pins s σ H D I h => ?_⟩
  rw [exec_Assign_Name_used _ _ _ _ hsw]
  refine wpAny_bind (wpAny_standAt (wpAny_bind ?_))
  show wpAny _ X.A (do let _ ← comprehension (.DictComp kx vx [⟨tg, iter, ifs, 0⟩] scope p) scope X.env (firstIterPos [⟨tg, iter, ifs, 0⟩] p) newDict false (eval iter X.env) (some (assign (.Name y py) X.env))) _ _ s
  have h0 : tDc wi g tt tk tv (own.map (·.2)) σ H (fun x H1 => gName i x σ H1 D.nx) := h
  refine wpAny_bind (thn (dc_core (Qf := fun _ s' => SP X pins D .next s') hc hN I hi ok hg ht hk he hs h0 fun L C s' m H' I' q hn f => ?_) fun _ s' hq => wpAny_pure (wpAny_pure hq))
  show wpAny _ _ (assign (.Name y py) X.env (.ref L)) _ _ _
  refine wpAny_assign_Name (store_ok2 (v := V.ref L) I' hN hy (.inl hyl) rfl (fun s2 I2 ⟨a, sb, ha⟩ => ?_) (.inr hyl))
  obtain ⟨f0, f1, f2, f3, f4, f5⟩ := f
  have haC : C ≠ a := by
    rcases ha with z | z
    · rw [z]; exact f1
    · exact fun e => f4 y a z e.symm
  exact ⟨m, hn.sameBut sb haC, fun h3 sb3 => ⟨_, H', I2.turned (t' := s2.toks) (fun b o hb e => (sb3.2 b hb).trans e) f0 f1 f3 f4 f5, q⟩⟩
theorem dc_imp {own : List Nat} {ci : CI} {t : Tg} {cc ck ce : CE} {mu : Bool} (hown : ∀ i ∈ tgIx t, i ∈ own) : ∀ σ H Q, RE X G E (.dc mu false own t ci cc ck ce) σ H Q → tDc (RI X G E ci) (rdG X.prog X.w X.K t) (RT X G F0 cc) (RE X G F0 ck) (RE X G F0 ce) own σ H Q := fun σ H Q ⟨Z, ρ, ph, mm, hρ, hr, q⟩ => by
  rw [dc_eq] at q
  refine ⟨Z, ρ, ph, mm, hρ, hr, ?_⟩
  cases er : evI G ci ρ ph with
  | stk => rw [er] at q; exact q.elim
  | exc c u h => rw [er] at q; exact q
  | ok its h1 =>
    rw [er] at q
    intro J H1 m1 e1 h1r k D hD
    exact dc_walk (hρ.wk e1.wk) h1r k hown hD (PostG.ext q e1)
theorem rs_setDc (B : Bx X) {i : Nat} {y : Str} {py : Pos} {kx vx tg iter : Expr} {ifs : List Expr} {scope : Scope} {own : List (Str × Nat)} {p spos : Pos} {ci : CI} {t : Tg} {cc ck ce : CE} {mu : Bool} (hy : X.N[i]? = some y) (hyl : X.env.scope.names.lookup y = some .local)
    (hsw : swapsWith (.DictComp kx vx [⟨tg, iter, ifs, 0⟩] scope p) (some (.Name y py)) spos.line X.env = pure true) (hi : PI X tg iter (RI X G E ci)) (ok : BlkOk X.N X.env.scope scope own) (hown : ∀ i ∈ tgIx t, i ∈ own.map (·.2))
    (hg : ∀ (s : Shared) (H : Hp) (C : Addr) (cl : List (Str × Addr)) (fp : List Addr), PG (X.blk s H scope (compEnvC scope cl C X.env) fp) tg (rdG X.prog X.w X.K t)) (ht : ∀ (s : Shared) (H : Hp) (C : Addr) (cl : List (Str × Addr)) (fp : List Addr), PTs (X.blk s H scope (compEnvC scope cl C X.env) fp) ifs (RT X G F0 cc))
    (hk : ∀ (s : Shared) (H : Hp) (C : Addr) (cl : List (Str × Addr)) (fp : List Addr), PE (X.blk s H scope (compEnvC scope cl C X.env) fp) kx (RE X G F0 ck))
    (he : ∀ (s : Shared) (H : Hp) (C : Addr) (cl : List (Str × Addr)) (fp : List Addr), PE (X.blk s H scope (compEnvC scope cl C X.env) fp) vx (RE X G F0 ce)) (hs : ∀ x, foldedSetIterable iter X.env x = pure x) :
    PS X (.Assign [.Name y py] (.DictComp kx vx [⟨tg, iter, ifs, 0⟩] scope p) spos) (RS' X G E (.asg (.nm i) (.dc mu false (own.map (·.2)) t ci cc ck ce))) :=
  PS.imp (ps_setDc B.calm B.nd hy hyl hsw hi ok hg ht hk he hs) fun D σ H ⟨Z, ρ, ph, mm, hρ, hr, q⟩ => by
    rw [evS] at q
    refine dc_imp hown σ H _ ⟨Z, ρ, ph, mm, hρ, hr, q.on.mono fun x H1 ⟨v, p1, m1, e1, h1, r1, q1⟩ => ?_⟩
    unfold stP at q1
    split at q1
    · exact q1 _ H1 m1 (Ext.refl _ _) h1 ((hρ.wk e1.wk).set r1)
    · exact q1.elim
end
end Ev
end
section
set_option maxRecDepth 100000
/-! EvRv: xs[::-1] of a list, of a tuple. -/
namespace HT
open PySem PySem.Spec PyProof.Rows
section
variable {prog : Program} {w : World} {A : Around} {E : Value → Shared → Prop} {s : Shared}
theorem rv_adjust (n : Nat) : Builtin.Slice.sliceAdjust none none (-1) (n : Int) = ((n : Int) - 1, -1) := by
  unfold Builtin.Slice.sliceAdjust
  rfl
theorem rv_places (n : Nat) : Builtin.Slice.slicePlaces ((n : Int) - 1) (-1) (-1) = n := by
  unfold Builtin.Slice.slicePlaces
  have h1 : ¬ ((-1 : Int) > 0) := by omega
  simp only [h1, if_false]
  split
  · rw [show (-(-1) : Int) = 1 by decide, Int.ediv_one]; omega
  · omega
theorem fm_congr {α β : Type} {f g : α → Option β} : ∀ {l : List α}, (∀ x ∈ l, f x = g x) → l.filterMap f = l.filterMap g
  | [], _ => rfl
  | x :: l, h => by
    rw [List.filterMap_cons, List.filterMap_cons, h x (by simp), fm_congr fun y hy => h y (by simp [hy])]
theorem rv_pick (xs : Array Value) : ((List.range xs.size).filterMap fun (m : Nat) => xs[(((xs.size : Int) - 1) + (m : Int) * (-1)).toNat]?).toArray = xs.toList.reverse.toArray := by
  congr 1
  have e : ∀ m ∈ List.range xs.size, xs[(((xs.size : Int) - 1) + (m : Int) * (-1)).toNat]? = xs[xs.size - 1 - m]? := by
    intro m hm
    have := List.mem_range.mp hm
    congr 1
    omega
  rw [fm_congr e]
  have q : (fun m => xs[xs.size - 1 - m]?) = (fun k => xs[k]?) ∘ fun m => xs.size - 1 - m := rfl
  rw [q, ← List.filterMap_map, PySem.W.krv_range, List.filterMap_reverse, PySem.W.krv_all]
theorem sliceApplied_rv {sl : Addr} {vs : Value} {n : Nat} {Q : Int × Int × Nat → Shared → Prop} (hs : s.heap.IsSliceOf sl .none .none vs) (ps : IsPart vs (some (-1)))
    (h : Q ((n : Int) - 1, -1, n) s) : wpAny (model prog w) A (Builtin.Slice.sliceApplied (.ref sl) (pure (n : Int))) Q E s := by
  obtain ⟨os, hos, hcs, hds⟩ := id hs
  unfold Builtin.Slice.sliceApplied Builtin.Slice.sliceFields
  refine wpAny_bind (wpAny_bind (wpAny_field hos hds (x := .none) rfl (wpAny_bind (wpAny_field hos hds (x := .none) rfl (wpAny_bind (wpAny_field hos hds (x := vs) rfl (wpAny_pure ?_)))))))
  refine wpAny_bind (slicePart_ ps ?_)
  show wpAny _ _ (if ((-1 : Int) == 0) = true then _ else _) _ _ s
  rw [if_neg (by decide)]
  refine wpAny_bind (slicePart_none (wpAny_bind (slicePart_none (wpAny_bind (wpAny_pure ?_)))))
  show wpAny _ _ (match Builtin.Slice.sliceAdjust none none (-1) (n : Int) with | (lo, hi) => pure (lo, (-1 : Int), Builtin.Slice.slicePlaces lo hi (-1))) _ _ s
  rw [rv_adjust n]
  show wpAny _ _ (pure ((n : Int) - 1, (-1 : Int), Builtin.Slice.slicePlaces ((n : Int) - 1) (-1) (-1))) _ _ s
  rw [rv_places]
  exact wpAny_pure h
theorem getItem_tuple_rv {t sl : Addr} {items : Array Value} {vs : Value} {Q : Value → Shared → Prop} (ht : IsTup s.heap t items) (hs : s.heap.IsSliceOf sl .none .none vs) (ps : IsPart vs (some (-1)))
    (h : Q (.ref s.heap.objs.size) { s with heap := s.heap.push { cls := .type "tuple", data := .seq items.toList.reverse.toArray } })
    (hsz : items.size ≤ sizeLine) : wpAny (model prog w) A (getItem (.ref t) (.ref sl)) Q E s := by
  have htake : sizeOk (.seq items.toList.reverse.toArray) := by
    show items.toList.reverse.toArray.size ≤ sizeLine
    simpa using hsz
  obtain ⟨os, hos, hcs, hds⟩ := id hs
  have hTs : s.TypeIs (.ref sl) "slice" := ⟨os, hos, hcs⟩
  unfold getItem
  try with_reducible refine wpAny_holding ?_
  first | refine wpAny_bind (wpAny_pure ?_) | skip
  refine wpAny_bind (wpAny_sequenceKey ht.typeIs (by decide) ?_)
  refine wpAny_bind (wpAny_callSpecial?_slot (name := Str.ofString "__getitem__") ht.typeIs PyProof.Rows.slot_tuple_getitem
    (wpAny_call_entry PyProof.Rows.slot_tuple_getitem ht.typeIs entry_tuple_getitem ?_ (args_tuple_getitem _ _)))
  show wpAny _ _ (Builtin.Tuple.tupleItemsOf (.ref t) >>= _) _ _ s
  refine wpAny_bind (tupleItemsOf_ ht ?_)
  refine wpAny_bind (wpAny_typeOf hTs ?_)
  rw [if_pos (by decide)]
  refine wpAny_bind (sliceApplied_rv hs ps ?_)
  have hno : ¬ ((((items.size : Int) - 1) == 0 && (-1 : Int) == 1 && items.size == items.size) = true) := by
    intro q
    rw [Bool.and_eq_true, Bool.and_eq_true] at q
    exact absurd (eq_of_beq q.1.2) (by decide)
  show wpAny _ _ (if (((items.size : Int) - 1) == 0 && (-1 : Int) == 1 && items.size == items.size) = true then _ else _) _ _ s
  rw [if_neg hno, rv_pick]
  first
    | exact wpAny_bind (m := Builtin.Tuple.tupleExact _) (wpAny_newObj_type (wpAny_pure ⟨_, rfl, wpAny_pure h⟩) htake)
    | exact wpAny_bind (m := Builtin.Tuple.tupleExact _) (wpAny_newObj_type (wpAny_bind (wpAny_pure (wpAny_pure ⟨_, rfl, wpAny_pure h⟩))) htake)
    | exact wpAny_bind (wpAny_bind (m := Builtin.Tuple.tupleExact _) (wpAny_newObj_type (wpAny_pure (wpAny_pure ⟨_, rfl, wpAny_pure h⟩)) htake))
    | exact wpAny_bind (wpAny_bind (m := Builtin.Tuple.tupleExact _) (wpAny_newObj_type (wpAny_pure ⟨_, rfl, wpAny_pure h⟩) htake))
end
end HT
namespace Ev
open PySem PySem.Spec PyProof.Rows L2
section
variable {X : Cx} {E : XK} {G : Ctx}
def tRevT (K : PySem.W.Frag) (te : TE) : TE := fun σ H Q => te σ H fun x H1 => (∃ a xs, x = .ref a ∧ SqL K H1 a xs ∧ ∀ p, H1 p = none → Q (.ref p) (upd H1 p (.lst xs.reverse))) ∨ (∃ a xs, x = .ref a ∧ SqT K H1 a xs ∧ ∀ p, H1 p = none → Q (.ref p) (upd H1 p (.tup xs.reverse)))
theorem pe_revT {e : Expr} {te : TE} {k : Nat} {p1 p2 p3 pos : Pos} (he : PE X e te) : PE X (.Subscript e (.Slice none none (some (.UnaryOp .USub (.Constant (.int 1) k p1) p2)) p3) pos) (tRevT X.K te) := by
  refine ⟨fun pins s σ H Q I h => ?_⟩
  refine Subscript_ (thn (he.run pins s σ H _ I h) fun v s1 ⟨x, H1, I1, r1, q1⟩ => ?_)
  have hst : L2.PO X (some (.UnaryOp .USub (.Constant (.int 1) k p1) p2)) (tPart (tUn (rU fun i => .int (-i)) (tC (.int 1)))) := po_some (pe_un un_neg pe_int)
  refine wpAny_Slice (thn (po_none.run pins s1 σ H1 (fun o H2 => o = none ∧ H2 = H1) I1 ⟨rfl, rfl⟩) fun vl s2 ⟨l, H2, I2, pl, el, e2⟩ => ?_)
  subst el e2
  refine thn (po_none.run pins s2 σ H2 (fun o H3 => o = none ∧ H3 = H2) I2 ⟨rfl, rfl⟩) fun vu s3 ⟨u, H3, I3, pu, eu, e3⟩ => ?_
  subst eu e3
  refine thn (hst.run pins s3 σ H3 (fun o H4 => o = some (-1) ∧ H4 = H3) I3 ⟨1, rfl, -1, rfl, rfl, rfl⟩) fun vs s4 ⟨o, H4, I4, ps, eo, e4⟩ => ?_
  subst eo e4
  have I5 : Inv X pins σ H4 { s4 with heap := s4.heap.push { cls := .type "slice", data := .fields #[vl, vu, vs] } } := I4.kept (t' := s4.toks) fun b ob q => Heap.get?_push_of_some _ q
  rcases q1 with ⟨a, xs, ex, hx, q⟩ | ⟨a, xs, ex, hx, q⟩
  · subst ex
    cases r1
    obtain ⟨its, r, ht, hz⟩ := I5.list hx
    have hlen := r.length
    show wpAny (model X.prog X.w) X.A (subscriptTail e (.Slice none none (some (.UnaryOp .USub (.Constant (.int 1) k p1) p2)) p3) (.ref a) (.ref s4.heap.objs.size)) (EP X pins σ Q) X.xe { s4 with heap := s4.heap.push { cls := .type "slice", data := .fields #[vl, vu, vs] } }
    refine tail_any (ops := [.ref a, .ref s4.heap.objs.size]) ht.isList.typeIs (PySem.slot_list_getitem.lookup) ?_ (by with_unfolding_all rfl)
    refine wpAny_getItem_list_slice ht.isList (Heap.IsSliceOf.new _ vl vu vs) pl pu ps (by decide) ?_ (by rw [List.size_toArray]; omega)
    rw [PySem.W.krv_pick]
    refine ⟨.ref _, _, I5.laid (t' := s4.toks) (o := .lst xs.reverse) (fun b ob q => Heap.get?_push_of_some _ q) (Nat.le_refl _) ?_, rfl, q _ (I5.hok.fresh (Nat.le_refl _))⟩
    exact ⟨by rw [List.length_reverse]; exact hz, _, 0, r.reverse, Heap.get?_push_size _ rfl⟩
  · subst ex
    cases r1
    cases pl
    cases pu
    obtain ⟨its, r, ht, hz⟩ := I5.tuple hx
    have hlen := r.length
    show wpAny (model X.prog X.w) X.A (subscriptTail e (.Slice none none (some (.UnaryOp .USub (.Constant (.int 1) k p1) p2)) p3) (.ref a) (.ref s4.heap.objs.size)) (EP X pins σ Q) X.xe { s4 with heap := s4.heap.push { cls := .type "slice", data := .fields #[.none, .none, vs] } }
    refine tail_any (ops := [.ref a, .ref s4.heap.objs.size]) ht.typeIs (PyProof.Rows.slot_tuple_getitem.lookup) ?_ (by with_unfolding_all rfl)
    refine HT.getItem_tuple_rv ht (Heap.IsSliceOf.new _ _ _ vs) ps ?_ (by rw [List.size_toArray]; omega)
    refine ⟨.ref _, _, I5.laid (t' := s4.toks) (o := .tup xs.reverse) (fun b ob q => Heap.get?_push_of_some _ q) (Nat.le_refl _) ?_, rfl, q _ (I5.hok.fresh (Nat.le_refl _))⟩
    exact ⟨by rw [List.length_reverse]; exact hz, _, r.reverse, IsTup.new _ _⟩
theorem rd_rev {a : Expr} {ca : CE} {mu : Bool} {k : Nat} {p1 p2 p3 pos : Pos} (ha : PE X a (RE X G E ca)) : PE X (.Subscript a (.Slice none none (some (.UnaryOp .USub (.Constant (.int 1) k p1) p2)) p3) pos) (RE X G E (.rev mu ca)) :=
  PE.imp (pe_revT ha) fun σ H Q ⟨Z, ρ, ph, mm, s, h, q⟩ => by
    unfold evE at q
    refine ⟨Z, ρ, ph, mm, s, h, (PostG.bind q).mono fun x H1 ⟨v, p1, m1, e1, h1, r1, q1⟩ => ?_⟩
    unfold revop at q1
    split at q1
    · rename_i xs es
      obtain ⟨p, vs, rfl, hp, rs⟩ := see_lst h1 r1 es
      exact .inl ⟨p, vs, rfl, .inl (.inl hp), fun p' hp' => new_lst q1 h1 rs.rev hp'⟩
    · rename_i xs es
      have := see_tup h1 r1 es
      subst this
      obtain ⟨p, vs, rfl, hp, rs⟩ := r1.tup_
      exact .inr ⟨p, vs, rfl, .inl (.inl hp), fun p' hp' => new_tup q1 h1 rs.rev hp'⟩
    · exact q1.elim
end
end Ev
end
section
set_option maxRecDepth 100000
set_option maxHeartbeats 2000000
/-! EvCl: a lambda without parameters, handed to a def that calls it in a try. -/
namespace Ev
open PySem PySem.Spec PyProof.Rows L2

section
variable {X : Cx} {pins : List (Addr × Obj)} {σ : L2.St} {H : Hp} {s : Shared}
/-- what becomes of the heap: nothing, or a new code object and its place in the table -/
def Grown (H : Hp) (P : Addr) (ps : Array Value) (q : Str) (c' : Addr) (H1 : Hp) : Prop :=
  H1 = H ∨ ∃ more : Array Value, H c' = none ∧ TriplesOk (ps ++ more).toList ∧ (∀ pos cv, codeAmong pos (ps ++ more).toList = some cv → codeAmong pos ps.toList = some cv ∨ cv = .ref c') ∧ H1 = upd (upd H P (.tbl (ps ++ more))) c' (LamX.CodeO c' q)
theorem lam_made {c P : Addr} {ps : Array Value} {params : Arguments} {body : Expr} {scope : Scope} {pos : Pos} {E : Value → Shared → Prop} {Q : Value → Shared → Prop} (I : Inv X pins σ H s) (TB : LamX.TabB X.base X.mg c P) (hcode : X.env.code = .ref c)
    (hP : H P = some (.tbl ps)) (ht : TriplesOk ps.toList) (ha : ∀ (pos : Pos) (cv : Value), codeAmong pos ps.toList = some cv → ∃ c, cv = .ref c ∧ H c = some (LamX.CodeO c (X.env.qual ++ "<lambda>")))
    (hdef : defaultsOf params X.env = ([], [])) (hfree : ∀ y ∈ scope.names, y.2 = .free → ∃ c, X.env.cells.lookup y.1 = some c)
    (h : ∀ (f c' : Addr) (pm ctv : Value) (H1 : Hp) (s' : Shared), Inv X pins σ H1 s' → Grown H P ps (X.env.qual ++ "<lambda>") c' H1 →
      s'.heap.get? f = some (PySem.W.kla_obj "<lambda>" (X.env.qual ++ "<lambda>") params body scope (cloFrom X.env.cells scope.names []) pm c' ctv) → H1 f = none → f ∉ frs X.stack → H1 c' = some (LamX.CodeO c' (X.env.qual ++ "<lambda>")) → Q (.ref f) s') :
    wpAny (model X.prog X.w) X.A (eval (.Lambda params body scope pos) X.env) Q E s := by
  have inB : s.heap.BuiltinsAt X.mg P := TB.bm.keeps I.bk
  have inP : s.heap.get? P = some { cls := .none, data := .fields ps } := I.hok P _ hP
  have away : ∀ f, s.heap.objs.size ≤ f → f ∉ frs X.stack := fun f hf z => by
    rcases List.mem_cons.mp (I.stkSub _ z) with e | e
    · have lt := I.lt
      rw [← e] at lt
      exact Nat.lt_irrefl _ (Nat.lt_of_lt_of_le lt hf)
    · exact I.nofs hf e
  refine PySem.W.kla_eval hdef ?_
  rcases hc : codeAmong pos ps.toList with _ | cv
  · refine PySem.W.kla_makeFunction (mg := X.mg) (c := c) (P := P) (ps := ps) (closure_ok hfree) I.ok.glob (I.mod.glob.keeps I.bk) hcode (TB.code.keeps I.bk) inP ht hc TB.gP inB fun c' ctv h' tk hx hge hlt ⟨c2, oc, vs, t, e2, hoc, hd, hv⟩ htb => ?_
    cases e2
    have nC : H c' = none := I.hok.fresh hge
    have hsz : s.heap.objs.size ≤ h'.objs.size := Nat.le_of_lt (Nat.lt_of_le_of_lt hge hlt)
    have nF : H h'.objs.size = none := I.hok.fresh hsz
    refine h h'.objs.size c' ((X.mg "__name__").getD .none) ctv _ _ (LamX.inv_table (q := X.env.qual ++ "<lambda>") (t' := tk) (ps := ps) (more := #[rawInt pos.line, rawInt pos.col, .ref c']) (c := c') I hP (fun b o hb e => Heap.get?_push_of_some _ (hx b o hb e)) (Heap.get?_push_of_some _ htb) hge ⟨oc, vs, t, Heap.get?_push_of_some _ hoc, hd, hv⟩)
      (.inr ⟨#[rawInt pos.line, rawInt pos.col, .ref c'], nC, ?_, ?_, rfl⟩) (Heap.get?_push_size _ rfl) ?_ (away _ hsz) upd_same
    · have e : (ps ++ #[rawInt pos.line, rawInt pos.col, .ref c']).toList = ps.toList ++ [rawInt pos.line, rawInt pos.col, .ref c'] := by simp
      rw [e]
      exact PySem.TriplesOk_snoc _ _ _ _ ht
    · intro p' v' hv'
      have e : (ps ++ #[rawInt pos.line, rawInt pos.col, .ref c']).toList = ps.toList ++ [rawInt pos.line, rawInt pos.col, .ref c'] := by simp
      rw [e] at hv'
      exact LamX.among_app _ ht hv'
    · rw [upd_ne (Nat.ne_of_gt hlt), upd_ne (Nat.ne_of_gt (Nat.lt_of_lt_of_le (Heap.lt_size inP) hsz))]
      exact nF
  · obtain ⟨c', e, hco⟩ := ha pos cv hc
    subst e
    refine PySem.W.kla_makeFunctionHit (mg := X.mg) (c := c) (P := P) (ps := ps) (closure_ok hfree) I.ok.glob (I.mod.glob.keeps I.bk) hcode (TB.code.keeps I.bk) inP ht hc inB fun ctv h' tk hx hsz => ?_
    exact h h'.objs.size c' ((X.mg "__name__").getD .none) ctv H _ (I.kept fun b o e => Heap.get?_push_of_some _ (hx b o e)) (.inl rfl) (Heap.get?_push_size _ rfl) (I.hok.fresh hsz) (away _ hsz) hco
end
section
variable {P : Program} {w : World} {K : PySem.W.Frag} {Z : Addr → Prop} {H H1 : Hp} {mm : List Addr} {ph : PH}
theorem codeO_tbl {c : Addr} {q : Str} {ps : Array Value} : LamX.CodeO c q ≠ .tbl ps := fun z => by
  unfold LamX.CodeO at z
  cases z
/-- the table has grown: the evaluator's heap stands as it did -/
theorem Grown.hrp {x : Tx} {p c' : Addr} {ps : Array Value} (hr : HRp P w K Z H mm ph) (h0 : ph[0]? = some (.tbl x)) (hm : mm[0]? = some p) {c : Addr} (ht : PySem.W.tabIn K (sT x) = some (c, p)) (hP : H p = some (.tbl ps))
    (ha : ∀ (pos : Pos) (cv : Value), codeAmong pos ps.toList = some cv → ∃ c, cv = .ref c ∧ H c = some (LamX.CodeO c (lamQ x)) ∧ Fz Z mm c) (g : Grown H p ps (lamQ x) c' H1) : Ext H mm H1 mm ∧ HRp P w K Z H1 mm ph := by
  rcases g with rfl | ⟨more, nC, h1, h2, rfl⟩
  · exact ⟨Ext.refl _ _, hr⟩
  · have ne : p ≠ c' := fun z => by rw [z, nC] at hP; cases hP
    have sw : upd (upd H p (.tbl (ps ++ more))) c' (LamX.CodeO c' (lamQ x)) = upd (upd H c' (LamX.CodeO c' (lamQ x))) p (.tbl (ps ++ more)) := by
      funext b
      by_cases e1 : b = p
      · rw [e1, upd_ne ne, upd_same, upd_same]
      · by_cases e2 : b = c'
        · rw [e2, upd_same, upd_ne ne.symm, upd_same]
        · rw [upd_ne e2, upd_ne e1, upd_ne e1, upd_ne e2]
    have mp : p ∈ mm := List.mem_of_getElem? hm
    rw [sw]
    have hl := hr.laid (o := LamX.CodeO c' (lamQ x)) nC
    have hp1 : upd H c' (LamX.CodeO c' (lamQ x)) p = some (.tbl ps) := by rw [upd_ne ne]; exact hP
    refine ⟨(Ext.laid nC).trans (Ext.wrote mp fun o u z => by rw [hp1] at z; cases z), ?_⟩
    have key := hl.wrote (o := .tbl (ps ++ more)) (u := .tbl x) hm (.tbl ht ⟨ps ++ more, upd_same, h1, fun pos cv hc => ?_⟩)
    · have e : ph.set 0 (.tbl x) = ph := by
        cases ph with
        | nil => rfl
        | cons o r => simp at h0; simp [h0]
      rw [e] at key
      exact key
    · rcases h2 pos cv hc with z | z
      · obtain ⟨d, e1, e2, e3⟩ := ha pos cv z
        refine ⟨d, e1, ?_, e3⟩
        rw [upd_ne (show d ≠ p from fun z => e3.1 (by rw [z]; exact mp)), upd_ne (ne_of_none e2 nC)]
        exact e2
      · exact ⟨c', z, by rw [upd_ne ne.symm, upd_same], hr.fz nC (hr.notIn nC)⟩
end

section
variable {X : Cx} {pins : List (Addr × Obj)} {σ : L2.St} {H : Hp} {s : Shared}
/-- deed(), in the def that got the lambda: its context C is entered at s -/
theorem act_ok {Eg : XK} {Ng : List Str} {qg : Str} {sg : Scope} {g f c' : Addr} {cdg pm ctv : Value} {params : Arguments} {body : Expr} {scope : Scope} {k : Nat} {a : Str} {pn : List (Addr × Obj)} {xe : Value → Shared → Prop} {W : WX} {tb : XK → TE} {p1 p2 : Pos}
    (I : Inv X pins σ H s) (L : LamX.LamS X.env.scope scope) (hf : s.heap.get? f = some (PySem.W.kla_obj "<lambda>" (X.env.qual ++ "<lambda>") params body scope (cloFrom X.env.cells scope.names []) pm c' ctv)) (hfn : H f = none) (hfr : f ∉ frs X.stack)
    (hbind : bindArgs (PySem.W.kla_fn "<lambda>" (X.env.qual ++ "<lambda>") params body scope (cloFrom X.env.cells scope.names []) pm (.ref c') ctv) ⟨[], []⟩ = pure [])
    (tk : Takes ((cxOf (L2.CX X.prog X.w) X.prog X.w X.K X.mg X.base Ng qg sg g cdg X.A X.stack s H Eg).tr pn xe) W) (hr : Room (k + 1) (X.A.deeper (envOfC qg sg s.heap.objs.size g cdg)))
    (hbody : ∀ (A : Around) (outer : List PySem.Env) (s : Shared) (H : Hp) (E : XK), Room k (A.deeper (LamX.lamEnv X scope s.heap.objs.size f c')) → A.guards = (X.A.deeper (envOfC qg sg s.heap.objs.size g cdg)).guards → PE (LamX.lamCx X A outer s H E scope f c') body (tb E))
    (hN : Ng[0]? = some a) (hv : Vis sg a) (hd : (a == ("__debug__" : Str)) = false) (hcd : (a == ("__classdict__" : Str)) = false) :
    PE ((cxOf (L2.CX X.prog X.w) X.prog X.w X.K X.mg X.base Ng qg sg g cdg X.A X.stack s H Eg).tr pn xe) (.Call (.Name a p1) [] [] p2)
      (fun σZ HZ Q => σZ[0]? = some (some (.ref f)) ∧ HZ c' = some (LamX.CodeO c' (X.env.qual ++ "<lambda>")) ∧ tb (WE W σZ) σ HZ Q) := by
  refine ⟨fun pinsZ sZ σZ HZ Q IZ ⟨hs, hc, ht⟩ => ?_⟩
  refine wpAny_Call_Name_kw (thn ((pe_var (pos := p1) (i := 0) hN hv hd hcd).run pinsZ sZ σZ HZ (fun v H1 => v = .ref f ∧ H1 = HZ) IZ ⟨.ref f, hs, rfl, rfl⟩) fun u s1 ⟨v, H1, I1, r1, ev, eH⟩ => ?_)
  subst ev
  subst eH
  obtain rfl : u = Value.ref f := r1
  have of1 := I1.base.keep f _ hf hfn hfr (fun z => nomatch (show f ∈ ([] : List Addr) from z))
  refine PySem.W.callWith_F0 ⟨_, _, _, _, of1⟩ ?_
  obtain ⟨⟨oc, vs, t, hoc, hdc, hvc⟩, _, _⟩ := I1.hok c' _ hc
  have rc : codeAny (model X.prog X.w) (X.A.deeper (envOfC qg sg s.heap.objs.size g cdg)) (.call (.ref f) ⟨[], []⟩) (CR (L2.CX X.prog X.w) (envOfC qg sg s.heap.objs.size g cdg :: X.stack) X.prog X.w H1 s1 Q (WE W σZ)) s1 := by
    refine PySem.W.kla_callFunE hr.depth of1 rfl L.co L.gen rfl ⟨c', oc, vs, t, rfl, hoc, hdc, hvc⟩ ?_
    rw [hbind]
    refine wpAny_pure (wpAny_newFunctionEnv (fun y hy => (L.own y hy).2) (fun y hy => absurd hy (by simp)) (fun h₁ hns hsb => ⟨I1.nolimit.fresh _ hsb, ?_⟩) L.kind)
    have kp : ∀ b o, s1.heap.get? b = some o → h₁.get? b = some o := fun b o e => hsb.extBut b o (Nat.ne_of_lt (Heap.lt_size e)) (Heap.get?_push_of_some _ e)
    have J := LamX.lam_start2 (A := X.A.deeper (envOfC qg sg s.heap.objs.size g cdg)) (outer := envOfC qg sg s.heap.objs.size g cdg :: X.stack) (E := WE W σZ) (f := f) (c' := c') (tk := s1.toks + ([] : List (Str × Value)).length) I L I1.env0 hr.hd I1.base hns kp
    exact PySem.W.kla_codeExpr (wpAny_mono ((hbody _ _ s1 H1 _ (hr.deeper _) rfl).run [] _ _ H1 Q J ht) (fun v s' ⟨w', H', J', rv, q⟩ => ⟨w', H', J'.os, J'.bare, J'.base, J'.hok, rv, q⟩) fun e s' hq => hq)
  refine wpAny_call (codeAny_mono rc fun r s' hq => ?_)
  cases r with
  | error e => exact passAt tk σZ pinsZ H1 s1 e s' I1 hq
  | ok fl =>
    cases fl with
    | ret u => exact I1.after hq
    | next => exact False.elim hq
    | brk => exact False.elim hq
    | cont => exact False.elim hq
end
/-- the promise of a def that calls what it got, by the evaluator's h -/
structure SaidG (P : Program) (w : World) (K : PySem.W.Frag) (mg0 : Str → Option Value) (bs0 : Heap) (k : Nat) (g : Addr) (fd : FuncData) (Ng : List Str) (qg : Str) (sg : Scope) (cdg : Value) (a : Str) (h : (PH → R PV) → PH → R PV) : Prop where
  run : ∀ (A : Around) (outer : List PySem.Env) (s : Shared) (H : Hp) (E : XK) (Q : VK) (f c' : Addr) (q : Str) (tl : XK → Hp → VK → Prop), Room k A → A.guards = some [] → Env0 P w K mg0 bs0 A outer s H → BindsTo s fd ⟨[.ref f], []⟩ [(a, .ref f)] →
    (Room (k - 1) (A.deeper (envOfC qg sg s.heap.objs.size g cdg)) → ∀ (W : WX) (pn : List (Addr × Obj)) (xe : Value → Shared → Prop) (p1 p2 : Pos), Takes ((cxOf (L2.CX P w) P w K mg0 bs0 Ng qg sg g cdg A outer s H E).tr pn xe) W →
      PE ((cxOf (L2.CX P w) P w K mg0 bs0 Ng qg sg g cdg A outer s H E).tr pn xe) (.Call (.Name a p1) [] [] p2) (fun σZ HZ Q => σZ[0]? = some (some (.ref f)) ∧ HZ c' = some (LamX.CodeO c' q) ∧ tl (WE W σZ) HZ Q)) →
    H c' = some (LamX.CodeO c' q) →
    (∃ Z mm ph d, HRp P w K Z H mm ph ∧ (∀ E' Q', PostE P w K Z E' H mm Q' (d ph) → tl E' H Q') ∧ PostE P w K Z E H mm Q (h d ph)) →
    codeAny (model P w) A (.call (.ref g) ⟨[.ref f], []⟩) (CR (L2.CX P w) outer P w H s Q E) s
section
variable {X : Cx} {G : Ctx} {E : XK}
/-- x(lambda: body) -/
theorem rd_said {x0 a : Str} {y : Tx} {i k : Nat} {g : Addr} {fd : FuncData} {Ng : List Str} {sg : Scope} {cdg : Value} {h : (PH → R PV) → PH → R PV} {params : Arguments} {body : Expr} {scope : Scope} {ce : CE} {p lpos pos : Pos}
    (S : SaidG X.prog X.w X.K X.mg X.base (k + 2) g fd Ng x0 sg cdg a h) (hi : G.saids[i]? = some h) (hg : Gl X x0) (hm : X.mg x0 = some (.ref g)) (hk : PySem.W.keepIn X.K (.ref g) = true) (hb : L2.Binds X.K fd [a] []) (hN : Ng[0]? = some a) (hva : Vis sg a)
    (TB : ∀ c P, PySem.W.tabIn X.K (sT y) = some (c, P) → LamX.TabB X.base X.mg c P ∧ X.env.code = .ref c) (hq : X.env.qual ++ ("<lambda>" : Str) = lamQ y) (hr : Room (k + 2) X.A) (hgd : X.A.guards = some []) (hl : Lets X E)
    (L : LamX.LamS X.env.scope scope) (hdef : defaultsOf params X.env = ([], []))
    (hbind : ∀ (q : Str) (cl : List (Str × Addr)) (pm cv ctv : Value), bindArgs (PySem.W.kla_fn "<lambda>" q params body scope cl pm cv ctv) ⟨[], []⟩ = pure [])
    (hbody : ∀ (A : Around) (outer : List PySem.Env) (s : Shared) (H : Hp) (E : XK) (f c' : Addr), Room k (A.deeper (LamX.lamEnv X scope s.heap.objs.size f c')) → A.guards = some [] → PE (LamX.lamCx X A outer s H E scope f c') body (rdE X.prog X.w X.K G E ce))
    (hdb : (x0 == ("__debug__" : Str)) = false) (hd : (a == ("__debug__" : Str)) = false) (hcd : (a == ("__classdict__" : Str)) = false) :
    PE X (.Call (.Name x0 p) [.Lambda params body scope lpos] [] pos) (RE X G E (.said i y ce)) := by
  refine ⟨fun pins s σ H Q I ⟨Z, ρ, ph, mm, sr, hrp, q⟩ => ?_⟩
  unfold evE at q
  split at q
  case h_2 => exact q.elim
  rename_i y' h0
  split at q
  case isFalse => exact q.elim
  rename_i ey
  subst ey
  rw [hi] at q
  dsimp only at q
  obtain ⟨P, hP0, ho⟩ := hrp.at_ h0
  cases ho
  rename_i c ht tr
  obtain ⟨ps, t1, t2, t3⟩ := tr
  obtain ⟨tb, hcode⟩ := TB _ _ ht
  refine wpAny_Call_Name_kw (ld_glob I hg hm ?_ hdb)
  refine PySem.W.callWith_K (h₀ := X.base) I.ok.mod.kin hk ?_ (by rfl) (by rfl)
  show wpAny _ _ (spliced ((false, eval (.Lambda params body scope lpos) X.env) :: backTo pos (starEach [] X.env))) _ _ s
  refine Calls.spliced_cons (lam_made I tb hcode t1 t2 (fun pos cv hc => by
    obtain ⟨d, e1, e2, _⟩ := t3 pos cv hc
    exact ⟨d, e1, by rw [hq]; exact e2⟩) hdef (L.has I.ok) fun f c' pm' ctv H1 s' I1 gr hf hfn hfr hco => ?_)
  rw [hq] at gr
  obtain ⟨ee, hr1⟩ := Grown.hrp hrp h0 hP0 ht t1 t3 gr
  refine Calls.spliced_nil ⟨I1.kIn, ?_⟩
  have rc : codeAny (model X.prog X.w) X.A (.call (.ref g) ⟨[.ref f], []⟩) (CR (L2.CX X.prog X.w) X.stack X.prog X.w H1 s' Q E) s' := by
    refine S.run X.A X.stack s' H1 E Q f c' (X.env.qual ++ "<lambda>") (fun E' H' Q' => rdE X.prog X.w X.K G E' ce σ H' Q') hr hgd I1.env0 (hb s' [.ref f] I1.kIn rfl) (fun hr1 W pn xe p1 p2 tk => act_ok I1 L hf hfn hfr (hbind _ _ _ _ _) tk hr1 (fun A outer s H E hr2 hg2 => hbody A outer s H E f c' hr2 (hg2.trans hgd)) hN hva hd hcd) hco
      ⟨Z, mm, ph, fun h1 => evE G ce ρ h1, hr1, fun E' Q' z => ⟨Z, ρ, ph, mm, sr.wk ee.wk, hr1, z⟩, PostG.ext q ee⟩
  refine wpAny_call (codeAny_mono rc fun r s2 hq => ?_)
  cases r with
  | error e => exact hl σ pins H1 s' e s2 I1 hq
  | ok fl =>
    cases fl with
    | ret u => exact I1.after hq
    | next => exact False.elim hq
    | brk => exact False.elim hq
    | cont => exact False.elim hq
/-- f(a = e), the def's one parameter -/
theorem rd_call1k {x a : Str} {i k : Nat} {f : Addr} {fd : FuncData} {h : F1} {e : Expr} {ce : CE} {p kp pos : Pos} (F : FnG X.prog X.w X.K X.mg X.base k f fd [a] h) (hh : ∀ us ph, us.length ≠ 1 → h us ph = .stk) (hi : G.fns[i]? = some h) (hr : Room k X.A) (hgd : X.A.guards = some []) (hg : Gl X x) (hm : X.mg x = some (.ref f))
    (hk : PySem.W.keepIn X.K (.ref f) = true) (hb : ∀ (s : Shared) (u : Value), X.K.In s.heap → BindsTo s fd ⟨[], [(a, u)]⟩ [(a, u)]) (hl : Lets X E) (he : PE X e (RE X G E ce)) (hdb : (x == ("__debug__" : Str)) = false) :
    PE X (.Call (.Name x p) [] [⟨some a, e, kp⟩] pos) (RE X G E (.call i (.cons ce .nil))) := by
  refine ⟨fun pins s σ H Q I ⟨Z, ρ, ph, mm, sr, hrp, q⟩ => ?_⟩
  unfold evE at q
  have q1 := PostG.bind (RelA := fun H' mm' v x => Rps X.prog X.w X.K Z H' mm' v x) q
  unfold evL at q1
  have q2 := PostG.bind (RelA := fun H' mm' v x => Rp X.prog X.w X.K Z H' mm' v x) q1
  refine wpAny_Call_Name_kw (ld_glob I hg hm ?_ hdb)
  refine PySem.W.callWith_KW0 (h₀ := X.base) I.ok.mod.kin hk (by rfl) (thn ((pk_cons (nm := some a) (kpos := kp) he pk_nil).run pos pins s σ H (fun zs H2 => ∃ z, zs = [z] ∧ spG X.prog X.w X.K 1 h [z] H2 Q E) I ?_) fun ws s1 ⟨zs, H1, I1, rz, z, ez, q3⟩ => ⟨I1.kIn, ?_⟩) (by rfl)
  · refine ⟨Z, ρ, ph, mm, sr, hrp, q2.mono fun x H1 ⟨v, p1, m1, e1, h1, r1, q3⟩ => ⟨x, rfl, ?_⟩⟩
    unfold evL at q3
    obtain ⟨vs, p2, m2, e2, h2, r2, q4⟩ := q3 [x] H1 m1 (Ext.refl _ _) h1 (.cons r1 .nil)
    rw [hi] at q4
    exact spG_of hh h2 r2 q4
  · subst ez
    cases rz with
    | cons r1 r2 =>
      cases r2
      rename_i u _
      refine wpAny_call (codeAny_mono (F.run X.A X.stack s1 H1 ⟨[], [(a, u)]⟩ [u] [z] Q E hr hgd I1.env0 (hb s1 u I1.kIn) (.cons r1 .nil) q3) fun r s' hq => ?_)
      cases r with
      | error e => exact hl σ pins H1 s1 e s' I1 hq
      | ok fl =>
        cases fl with
        | ret u => exact I1.after hq
        | next => exact False.elim hq
        | brk => exact False.elim hq
        | cont => exact False.elim hq
end
end Ev
end
section
set_option maxRecDepth 100000
/-! EvK1: a def's text against its code: the check. -/
namespace Ev
open PySem PySem.Spec PyProof.Rows L2

/-- what the names of a def mean: its slots; its callees and how many parameters they have; the constants; the error classes that are asked for -/
structure Tab where
  N : List Str
  fns : List (Str × Nat)
  glb : List Str
  isx : List Nat
  cls : List Nat
  kw : List (Nat × Str × Str) := []
  sds : List (Nat × Str) := []
  me : Tx := []

def plainN (x : Str) : Bool := !(x == ("__debug__" : Str)) && !(x == ("__classdict__" : Str))
def visB (sc : Scope) (x : Str) : Bool := match sc.names.lookup x with
  | some .local => true
  | some .cell => true
  | some .free => true
  | _ => false
def locB (sc : Scope) (x : Str) : Bool := match sc.names.lookup x with
  | some .local => true
  | some .cell => true
  | _ => false
def glB (sc : Scope) (x : Str) : Bool := sc.names.lookup x == some .globalImplicit
def cstB : PV → Const → Bool
  | .non, .none => true
  | .bl b, .bool c => b == c
  | .int i, .int j => i == j
  | .str x, .str s => s.cps.toList == x
  | _, _ => false
/-- the tail of a row of and, or -/
def restE (op : BoolOp) (y : Expr) (r : List Expr) (p : Pos) : Expr := match r with
  | [] => y
  | _ => .BoolOp op (y :: r) p
def notIx : Expr → Bool
  | .Slice _ _ _ _ => false
  | .Tuple _ _ _ => false
  | _ => true
def ownP (N : List Str) (own : List Nat) : List (Str × Nat) := own.map fun i => (N.getD i ⟨#[]⟩, i)
def blkB (N : List Str) (sc scope : Scope) (own : List Nat) : Bool :=
  scope.kind == .function && (scope.names.all fun y => scope.names.lookup y.1 == some y.2) && (own.all fun i => decide (i < N.length))
    && (scope.names.all fun y => !(y.2 == .free) || sc.names.lookup y.1 == some .cell || sc.names.lookup y.1 == some .free)
    && (scope.names.all fun y => !(y.2 == .local || y.2 == .cell) || (own.any fun i => N.getD i ⟨#[]⟩ == y.1) || !(N.contains y.1))
/-- a target's name: of a def, of a comprehension's block -/
def stB (sc : Scope) (x : Str) : Bool := locB sc x
def stK (scope sc : Scope) (x : Str) : Bool := locB (relS scope sc) x && (scope.names.lookup x == some .cell || (relS scope sc).names.lookup x == some .local)
mutual
def chkT (N : List Str) (st : Str → Bool) : Tg → Expr → Bool
  | .nm i, e => match e with
    | .Name x _ => N[i]? == some x && st x
    | _ => false
  | .tp ts, e => match e with
    | .Tuple es _ _ => es.all nst && es.length == ts.length && chkTs N st ts es
    | _ => false
def chkTs (N : List Str) (st : Str → Bool) : List Tg → List Expr → Bool
  | [], es => es.isEmpty
  | t :: ts, es => match es with
    | e :: es => chkT N st t e && chkTs N st ts es
    | [] => false
end
/-- a text is written within, behind the first part: a token is out -/
def tokE : Expr → Bool
  | .BinOp _ _ (.Constant (.str _) _ _) _ => true
  | _ => false
/-- no test -/
def isYes : CE → Bool
  | .cst (.bl true) => true
  | _ => false
def isTupE : Expr → Bool
  | .Tuple _ _ _ => true
  | _ => false
def isComp : Expr → Bool
  | .ListComp _ _ _ _ => true
  | .DictComp _ _ _ _ _ => true
  | _ => false
def keysB : CEs → List (Option Expr) → List Expr → Bool
  | _, _, _ => true
mutual
def chkE (T : Tab) (sc : Scope) : CE → Expr → Bool
  | .var i, e => match e with
    | .Name x _ => T.N[i]? == some x && visB sc x && plainN x
    | _ => false
  | .cst v, e => match e with
    | .Constant k _ _ => cstB v k
    | _ => false
  | .glb i, e => match T.glb[i]? with
    | none => true
    | some y => match e with
      | .Name x _ => x == y && glB sc x && plainN x
      | _ => false
  | .bin op _ a b, e => match e with
    | .BinOp l o r _ => o == opX op && (chkE T sc a l && chkE T sc b r)
    | _ => false
  | .neg a, e => match e with
    | .UnaryOp .USub l _ => chkE T sc a l
    | _ => false
  | .cmp op a b, e => match e with
    | .Compare l [o] [r] _ => o == cmpX op && behindInMarks o r == false && (chkE T sc a l && chkE T sc b r)
    | _ => false
  | .chn op op' a b c, e => match e with
    | .Compare l [o, o'] [r, r'] _ => o == cmpX op && o' == cmpX op' && lastMarks [o, o'] [r, r'] == false && (chkE T sc a l && (chkE T sc b r && chkE T sc c r'))
    | _ => false
  | .and a b, e => match e with
    | .BoolOp .And (x :: y :: r) p => chkE T sc a x && chkE T sc b (restE .And y r p)
    | _ => false
  | .or a b, e => match e with
    | .BoolOp .Or (x :: y :: r) p => chkE T sc a x && chkE T sc b (restE .Or y r p)
    | _ => false
  | .not a, e => match e with
    | .UnaryOp .Not l _ => chkE T sc a l
    | _ => false
  | .ite c a b, e => match e with
    | .IfExp x y z _ => chkE T sc c x && (chkE T sc a y && chkE T sc b z)
    | _ => false
  | .tup es, e => match e with
    | .Tuple l _ _ => l.all nst && chkL T sc es l
    | _ => false
  | .lst _ es, e => match e with
    | .List l _ => l.all nst && (chkL T sc es l || chkR0 T sc es l)
    | _ => false
  | .dct _ tk es, e => match e with
    | .Dict ks vs _ => tk == false && ks.length == vs.length && decide (ks.length ≤ 15) && chkD T sc es ks vs
    | _ => false
  | .ix a b, e => match e with
    | .Subscript l r _ => notIx r && (chkE T sc a l && chkE T sc b r)
    | _ => false
  | .slc _ a lo hi, e => match e with
    | .Subscript l (.Slice x y none _) _ => chkE T sc a l && ((match x with
        | none => match lo with
          | .cst .non => true
          | _ => false
        | some x => chkE T sc lo x) && (match y with
        | none => match hi with
          | .cst .non => true
          | _ => false
        | some y => chkE T sc hi y))
    | _ => false
  | .xfld a f, e => match e with
    | .Attribute o nm _ => nm == sT f && nsup o && chkE T sc a o
    | _ => false
  | .isx a cs, e => match e with
    | .Call (.Name x _) [o, .Name y _] [] _ => match cs with
      | [D] => x == ("isinstance" : Str) && T.isx.contains D && y == excC D && glB sc x && glB sc y && plainN y && nst o && chkE T sc a o
      | _ => false
    | _ => false
  | .call i es, e => match e with
    | .Call (.Name x _) l [] _ => match T.fns[i]? with
      | some (y, n) => x == y && glB sc x && plainN x && l.all nst && chkL T sc es l
      | none => false
    | .Call (.Name x _) [] [⟨some a, o, _⟩] _ => T.kw.contains (i, x, a) && glB sc x && plainN x && chkL1 T sc es [o]
    | _ => false
  | .prim p es, e => match e with
    | .Call (.Name x _) l [] _ => glB sc x && l.all nst && (match p with
      | .isa ts => x == ("isinstance" : Str) && (match l with
        | [_, .Name y _] => match ts with
          | [t] => glB sc y && y == (tyN t : Str) && chkL1 T sc es l
          | _ => false
        | [_, .Tuple ys _ _] => decide (ts.length ≤ 100) && ys.length == ts.length && ((ys.zip ts).all fun q => match q.1 with
            | .Name y _ => glB sc y && y == (tyN q.2 : Str)
            | _ => false) && chkL1 T sc es l
        | _ => false)
      | p => !l.isEmpty && (match prB p, prT p with
        | some (n, _), _ => x == (n : Str)
        | none, some (n, _) => x == (n : Str)
        | none, none => false) && chkL T sc es l)
    | _ => false
  | .mth p o es, e => match e with
    | .Call (.Attribute q nm apos) l [] pos => nm == (mnm p : Str) && nsup q && l.all nst && decide (l.length < 30) && apos.endLine == pos.line && (chkE T sc o q && chkL T sc es l)
    | _ => false
  | .lc _ own t it c x, e => match e with
    | .ListComp elt gs scope _ => match gs with
      | [⟨tg, iter, ifs, 0⟩] => blkB T.N sc scope own && (tgIx t).all (own.contains ·) && chkT T.N (stK scope sc) t tg && nset iter && chkI T sc it tg iter
        && ((match ifs with
          | [] => isYes c
          | [y] => chkE T (relS scope sc) c y
          | _ => false) && chkE T (relS scope sc) x elt)
      | _ => false
    | _ => false
  | .dc _ tk own t it c k x, e => match e with
    | .DictComp kx vx gs scope _ => match gs with
      | [⟨tg, iter, ifs, 0⟩] => tk == false && blkB T.N sc scope own && (tgIx t).all (own.contains ·) && chkT T.N (stK scope sc) t tg && nset iter && chkI T sc it tg iter
        && ((match ifs with
          | [] => isYes c
          | [y] => chkE T (relS scope sc) c y
          | _ => false) && (chkE T (relS scope sc) k kx && chkE T (relS scope sc) x vx))
      | _ => false
    | _ => false
  | .rpl _ _ _ _, _ => false
  | .upp a, e => match e with
    | .Call (.Attribute o nm apos) [] [] pos => nm == ("upper" : Str) && nsup o && apos.endLine == pos.line && chkE T sc a o
    | _ => false
  | .emp neg a, e => match e with
    | .Compare l [op] [.Dict [] [] _] _ => op == empX neg && chkE T sc a l
    | _ => false
  | .kcE _ c, e => isComp e && chkE T sc c e
  | .rev _ a, e => match e with
    | .Subscript l (.Slice none none (some (.UnaryOp .USub (.Constant (.int 1) _ _) _)) _) _ => chkE T sc a l
    | _ => false
  | .fld _ _, _ => false
  | .meth _ _ _, _ => false
  | .mk _ _, _ => false
  | .lc2 _ _ _ _ _ _ _ _ _, _ => false
  | .said _ _ _, _ => false
def chkL (T : Tab) (sc : Scope) : CEs → List Expr → Bool
  | .nil, l => l.isEmpty
  | .cons c cs, l => match l with
    | e :: l => chkE T sc c e && chkL T sc cs l
    | [] => false
/-- a list's items, some of them made by replace: the first one makes a token -/
def chkR0 (T : Tab) (sc : Scope) : CEs → List Expr → Bool
  | .nil, _ => false
  | .cons c cs, l => match l with
    | e :: l => tokE e && chkE T sc c e && chkR T sc cs l
    | [] => false
def chkR (T : Tab) (sc : Scope) : CEs → List Expr → Bool
  | .nil, l => l.isEmpty
  | .cons c cs, l => match l with
    | e :: l => (chkE T sc c e || chkX T sc c e) && chkR T sc cs l
    | [] => false
def chkX (T : Tab) (sc : Scope) : CE → Expr → Bool
  | .rpl one a y z, e => match e with
    | .Call (.Attribute o nm apos) l [] pos => nm == ("replace" : Str) && nsup o && apos.endLine == pos.line && !(y == z) && chkE T sc a o && (match l with
      | [.Constant (.str s) _ _, .Constant (.str t) _ _] => s.cps.toList == y && t.cps.toList == z && one == false
      | [.Constant (.str s) _ _, .Constant (.str t) _ _, .Constant (.int 1) _ _] => s.cps.toList == y && t.cps.toList == z && one == true
      | _ => false)
    | _ => false
  | _, _ => false
/-- the first alone -/
def chkL1 (T : Tab) (sc : Scope) : CEs → List Expr → Bool
  | .nil, _ => false
  | .cons c cs, l => match cs with
    | .nil => match l with
      | e :: _ => chkE T sc c e
      | [] => false
    | .cons _ _ => false
def chkD (T : Tab) (sc : Scope) : CEs → List (Option Expr) → List Expr → Bool
  | .nil, ks, vs => ks.isEmpty && vs.isEmpty
  | .cons k r, ks, vs => match ks with
    | some kx :: ks => match vs with
      | vx :: vs => match r with
        | .cons v r => chkE T sc k kx && (chkE T sc v vx && chkD T sc r ks vs)
        | .nil => false
      | [] => false
    | _ => false
def chkI (T : Tab) (sc : Scope) : CI → Expr → Expr → Bool
  | .val c, _, e => chkE T sc c e
  | .rng cs, _, e => match e with
    | .Call (.Name x _) l [] _ => x == ("range" : Str) && glB sc x && l.all nst && (l.length == 1 || l.length == 2) && chkL T sc cs l
    | _ => false
  | .enm c k, tg, e => isTupE tg && match e with
    | .Call (.Name x _) l kw _ => match l with
      | [o] => x == ("enumerate" : Str) && glB sc x && nst o && chkE T sc c o && (match kw with
        | [] => k == 0
        | [⟨some s, .Constant (.int j) _ _, _⟩] => s == ("start" : Str) && j == k && decide (k ≠ 0) && decide (-(2 ^ 63) ≤ k) && decide (k < 2 ^ 63)
        | _ => false)
      | _ => false
    | _ => false
  | .zip a b, tg, e => isTupE tg && match e with
    | .Call (.Name x _) l [] _ => match l with
      | [o, q] => x == ("zip" : Str) && glB sc x && nst o && nst q && (chkE T sc a o && chkE T sc b q)
      | _ => false
    | _ => false
  | .zipM a b, tg, e => isTupE tg && match e with
    | .Call (.Name x _) l [] _ => match l with
      | [o, q] => x == ("zip" : Str) && glB sc x && nst o && nst q && (chkE T sc a o && chkE T sc b q)
      | _ => false
    | _ => false
  | .keys c, _, e => chkE T sc c e
  | .items _, _, _ => false
  | .values _, _, _ => false
  | .rev _, _, _ => false
end
end Ev
end
section
set_option maxRecDepth 100000
/-! EvK2: the check is right: expressions. -/
namespace Ev
open PySem PySem.Spec PyProof.Rows L2

/-- the built-in names that a text may use -/
def bltNames : List Str := ["isinstance", "len", "repr", "sorted", "all", "any", "sum", "max", "min", "abs", "divmod", "str", "int", "tuple", "list", "bool", "dict", "range", "enumerate", "zip"]
/-- what stands behind the names -/
structure Ok (T : Tab) (G : Ctx) (X : Cx) : Prop where
  bx : Bx X
  N : X.N = T.N
  rep : G.rep = repX
  rpl : G.ops.rpl = rplX
  upr : G.ops.upr = uprX
  blt : ∀ n : Str, n ∈ bltNames → X.mg n = none
  fns : ∀ (i : Nat) (x : Str) (n : Nat), T.fns[i]? = some (x, n) → ∃ k f fd ps h, FnG X.prog X.w X.K X.mg X.base k f fd ps h ∧ (∀ us ph, us.length ≠ ps.length → h us ph = .stk) ∧ G.fns[i]? = some h ∧ Room k X.A ∧ X.mg x = some (.ref f) ∧ PySem.W.keepIn X.K (.ref f) = true ∧ Binds X.K fd ps []
  glb : ∀ (i : Nat) (x : Str), T.glb[i]? = some x → ∃ v u y, X.mg x = some u ∧ RelV y u ∧ G.glbs[i]? = some v ∧ Anyw X v y
  glbL : G.glbs.length = T.glb.length
  exr : ∀ c, G.exs.contains c = true → ExR X.K (He.ga X.K (excC c)) (excF c)
  isx : ∀ D, T.isx.contains D = true → X.mg (excC D) = some (.ref (He.ga X.K (excC D))) ∧ ∀ c, G.exs.contains c = true → PySem.W.kitOne X.K (.ref (He.ga X.K (excC c))) (.ref (He.ga X.K (excC D))) = some (decide (c = D))
  kw : ∀ (i : Nat) (x a : Str), T.kw.contains (i, x, a) = true → ∃ k f fd h, FnG X.prog X.w X.K X.mg X.base k f fd [a] h ∧ (∀ us ph, us.length ≠ 1 → h us ph = .stk) ∧ G.fns[i]? = some h ∧ Room k X.A ∧ X.mg x = some (.ref f) ∧ PySem.W.keepIn X.K (.ref f) = true ∧ ∀ (s : Shared) (u : Value), X.K.In s.heap → BindsTo s fd ⟨[], [(a, u)]⟩ [(a, u)]

theorem lets0 (X : Cx) : Lets X F0 := fun _ _ _ _ _ _ _ ⟨_, _, _, _, _, _, _, _, _, _, _, _, e⟩ => False.elim e

section
variable {T : Tab} {G : Ctx} {X : Cx} {E : XK} {sc : Scope}
theorem Ok.blk (o : Ok T G X) (s : Shared) (H : Hp) (scope : Scope) (env : PySem.Env) (fp : List Addr) : Ok T G (X.blk s H scope env fp) :=
  ⟨⟨o.bx.calm, o.bx.nd, o.bx.un, o.bx.gd⟩, o.N, o.rep, o.rpl, o.upr, o.blt, o.fns, o.glb, o.glbL, o.exr, o.isx, o.kw⟩
theorem vis_ok {env : PySem.Env} {x : Str} (h : visB env.scope x = true) : Vis env.scope x := by
  unfold visB at h
  split at h
  · exact .inl (by assumption)
  · exact .inr (.inl (by assumption))
  · exact .inr (.inr (by assumption))
  · cases h
theorem loc_ok {s : Scope} {x : Str} (h : locB s x = true) : Loc s x := by
  unfold locB at h
  split at h
  · exact .inl (by assumption)
  · exact .inr (by assumption)
  · cases h
theorem gl_ok {x : Str} (h : glB X.env.scope x = true) : Gl X x := eq_of_beq h
theorem plain_ok {x : Str} (h : plainN x = true) : (x == ("__debug__" : Str)) = false ∧ (x == ("__classdict__" : Str)) = false := by
  unfold plainN at h
  obtain ⟨h1, h2⟩ := Bool.and_eq_true_iff.mp h
  exact ⟨by simpa using h1, by simpa using h2⟩
theorem ix_ok {b : Expr} (h : notIx b = true) : PlainIx b := by
  intro o i
  cases b <;> first | rfl | cases h
theorem lookup_all {names : List (Str × NameKind)} {p : Str × NameKind → Bool} (h : names.all p = true) {y : Str × NameKind} (hy : y ∈ names) : p y = true := List.all_eq_true.mp h y hy
theorem blk_ok {N : List Str} {sc scope : Scope} {own : List Nat} (h : blkB N sc scope own = true) : BlkOk N sc scope (ownP N own) ∧ (ownP N own).map (·.2) = own := by
  unfold blkB at h
  simp only [Bool.and_eq_true] at h
  obtain ⟨⟨⟨⟨h1, h2⟩, h3⟩, h4⟩, h5⟩ := h
  refine ⟨⟨eq_of_beq h1, fun y hy => eq_of_beq (List.all_eq_true.mp h2 y hy), fun p hp => ?_, fun y hy e => ?_, fun y hy e => ?_⟩, ?_⟩
  · obtain ⟨i, hi, rfl⟩ := List.mem_map.mp hp
    have hl : i < N.length := of_decide_eq_true (List.all_eq_true.mp h3 i hi)
    show N[i]? = some (N.getD i ⟨#[]⟩)
    simp [List.getD, List.getElem?_eq_getElem hl]
  · have q := List.all_eq_true.mp h4 y hy
    rw [e] at q
    simp only [beq_self_eq_true, Bool.not_true, Bool.false_or, Bool.or_eq_true, beq_iff_eq] at q
    exact q
  · have q := List.all_eq_true.mp h5 y hy
    have hk : (y.2 == .local || y.2 == .cell) = true := by rcases e with e | e <;> simp [e]
    rw [hk] at q
    simp only [Bool.not_true, Bool.false_or, Bool.or_eq_true, Bool.not_eq_true', List.any_eq_true, beq_iff_eq] at q
    rcases q with ⟨i, hi, e1⟩ | q
    · refine .inl ?_
      rw [← e1]
      exact List.mem_map.mpr ⟨(N.getD i ⟨#[]⟩, i), List.mem_map.mpr ⟨i, hi, rfl⟩, rfl⟩
    · refine .inr fun z => ?_
      rw [List.contains_iff_mem.mpr z] at q; cases q
  · unfold ownP
    rw [List.map_map]
    show own.map (fun i => i) = own
    simp
theorem cst_ok {v : PV} {k : Const} {j : Nat} {pos : Pos} (h : cstB v k = true) : PE X (.Constant k j pos) (RE X G E (.cst v)) := by
  unfold cstB at h
  split at h
  · exact rd_non
  · have e := eq_of_beq h
    subst e; exact rd_bl
  · have e := eq_of_beq h
    subst e; exact rd_int
  · have e := eq_of_beq h
    subst e; exact rd_str
  · cases h

/-! ### targets -/
mutual
theorem chkT_ok {st : Str → Bool} (B : Bx X) (hN : X.N = T.N) (hst : ∀ x, st x = true → Loc X.env.scope x ∧ (X.fn x = true ∨ X.env.scope.names.lookup x = some .local)) : ∀ (t : Tg) (e : Expr), chkT T.N st t e = true → PG X e (rdG X.prog X.w X.K t)
  | .nm i, e, h => by
    unfold chkT at h
    split at h
    · rename_i x p
      obtain ⟨h1, h2⟩ := Bool.and_eq_true_iff.mp h
      obtain ⟨h3, h4⟩ := hst x h2
      exact rg_nm B (by rw [hN]; exact eq_of_beq h1) h3 h4
    · cases h
  | .tp ts, e, h => by
    unfold chkT at h
    split at h
    · rename_i es k p
      obtain ⟨h1, h2⟩ := Bool.and_eq_true_iff.mp h
      obtain ⟨h3, h4⟩ := Bool.and_eq_true_iff.mp h1
      exact rg_tup B h3 (eq_of_beq h4) (chkTs_ok B hN hst ts es h3 h2)
    · cases h
theorem chkTs_ok {st : Str → Bool} (B : Bx X) (hN : X.N = T.N) (hst : ∀ x, st x = true → Loc X.env.scope x ∧ (X.fn x = true ∨ X.env.scope.names.lookup x = some .local)) : ∀ (t : List Tg) (e : List Expr), (e.all nst) = true → chkTs T.N st t e = true → PGs X e (rdGs X.prog X.w X.K t)
  | [], e, _, h => by
    unfold chkTs at h
    rw [List.isEmpty_iff.mp h]
    exact rgs_nil
  | t :: ts, e, hn, h => by
    unfold chkTs at h
    split at h
    · rename_i x xs
      obtain ⟨h1, h2⟩ := Bool.and_eq_true_iff.mp h
      rw [List.all_cons, Bool.and_eq_true] at hn
      exact rgs_cons hn.1 (chkT_ok B hN hst t x h1) (chkTs_ok B hN hst ts xs hn.2 h2)
    · cases h
end
theorem stK_ok {s : Shared} {H : Hp} {scope : Scope} {C : Addr} {cl : List (Str × Addr)} {fp : List Addr} {x : Str} (h : stK scope X.env.scope x = true) :
    Loc (X.blk s H scope (compEnvC scope cl C X.env) fp).env.scope x ∧ ((X.blk s H scope (compEnvC scope cl C X.env) fp).fn x = true ∨ (X.blk s H scope (compEnvC scope cl C X.env) fp).env.scope.names.lookup x = some .local) := by
  unfold stK at h
  obtain ⟨h1, h2⟩ := Bool.and_eq_true_iff.mp h
  refine ⟨loc_ok (s := relS scope X.env.scope) h1, ?_⟩
  rcases Bool.or_eq_true_iff.mp h2 with q | q
  · exact .inl q
  · exact .inr (eq_of_beq q)

/-! ### what the check says -/
/-- a row of and, or -/
def isBO : Expr → Bool
  | .BoolOp _ (_ :: _) _ => true
  | _ => false
structure Rd (X : Cx) (G : Ctx) (E : XK) (c : CE) (e : Expr) : Prop where
  pe : PE X e (RE X G E c)
  pt : PT X e (RT X G E c)
  pw : isBO e = true → PW X e (RT X G E c)
theorem Rd.of (h : PE X e (RE X G E c)) (he : ∀ whole, isTrue e X.env whole = (do let v ← whole; standAt e.pos; holding [v] (truthy v))) (hb : isBO e = false) : Rd X G E c e :=
  ⟨h, rt_val h he, fun z => by rw [hb] at z; cases z⟩
theorem Rd.rest {a : Expr} {r : List Expr} {op : BoolOp} {p : Pos} {c : CE} (h : Rd X G E c (restE op a r p)) (hop : op = .And ∨ op = .Or) : PE X (.BoolOp op (a :: r) p) (RE X G E c) ∧ PW X (.BoolOp op (a :: r) p) (RT X G E c) := by
  cases r with
  | nil =>
    refine ⟨pe_one h.pe, ?_⟩
    rcases hop with rfl | rfl
    · exact pw_and1 h.pt
    · exact pw_or1 h.pt
  | cons b r => exact ⟨h.pe, h.pw rfl⟩
end
end Ev
end
section
set_option maxRecDepth 100000
/-! EvK3: the check of expressions is right. -/
namespace Ev
open PySem PySem.Spec PyProof.Rows L2

section
variable {T : Tab} {G : Ctx} {X : Cx} {E : XK} {sc : Scope}
/-- a chosen value as a test -/
theorem rt_ite {c a b : Expr} {cc ca cb : CE} {pos : Pos} (hc : PT X c (RT X G E cc)) (ha : PT X a (RT X G E ca)) (hb : PT X b (RT X G E cb)) : PT X (.IfExp c a b pos) (RT X G E (.ite cc ca cb)) :=
  ⟨fun pins s σ H Q I ⟨Z, ρ, ph, mm, hρ, h, q⟩ => by
    rw [PySem.arm_isTrue_IfExp]
    unfold evE at q
    refine wpAny_bind (thn (hc.run pins s σ H _ I ⟨Z, ρ, ph, mm, hρ, h, postB_test q⟩) fun t s1 ⟨H1, I1, p1, m1, e1, h1, q1⟩ => ?_)
    cases t with
    | true => exact ha.run pins s1 σ H1 Q I1 ⟨Z, ρ, p1, m1, hρ.wk e1.wk, h1, q1⟩
    | false => exact hb.run pins s1 σ H1 Q I1 ⟨Z, ρ, p1, m1, hρ.wk e1.wk, h1, q1⟩⟩
/-- code that is stuck serves any text -/
theorem rd_stuck {c : CE} {e : Expr} (h : ∀ ρ ph, evE G c ρ ph = .stk) : Rd X G E c e := by
  refine ⟨⟨fun pins s σ H Q I ⟨Z, ρ, ph, mm, hρ, hr, q⟩ => ?_⟩, ⟨fun pins s σ H Q I ⟨Z, ρ, ph, mm, hρ, hr, q⟩ => ?_⟩, fun _ => ⟨fun wh pins s σ H Q I ⟨Z, ρ, ph, mm, hρ, hr, q⟩ => ?_⟩⟩
  all_goals (rw [h] at q; exact False.elim q)
theorem chkTys {l : List Expr} {ts : List Ty} (o : Ok T G X) (hl : l.length = ts.length) (h : ((l.zip ts).all fun q => match q.1 with
            | .Name y _ => glB X.env.scope y && y == (tyN q.2 : Str)
            | _ => false) = true) : TyNames X l ts := by
  induction l generalizing ts with
  | nil =>
    cases ts with
    | nil => exact .nil
    | cons t ts => cases hl
  | cons e es ih =>
    cases ts with
    | nil => cases hl
    | cons t ts =>
      rw [List.zip_cons_cons, List.all_cons, Bool.and_eq_true] at h
      obtain ⟨h1, h2⟩ := h
      dsimp only at h1
      split at h1
      · rename_i y p
        obtain ⟨h3, h4⟩ := Bool.and_eq_true_iff.mp h1
        have e4 := eq_of_beq h4
        refine .cons (gl_ok h3) (o.blt y ?_) e4 (ih (by simpa using hl) h2)
        rw [e4]
        cases t <;> decide +kernel
      · cases h1
theorem ty_blt {y : Str} {t : Ty} (h : y = (tyN t : Str)) : y ∈ bltNames := by
  rw [h]; cases t <;> decide +kernel
theorem prB_blt {p : Pr} {n id : String} (h : prB p = some (n, id)) : (n : Str) ∈ bltNames := by
  cases p <;> first
    | (cases h; done)
    | skip
  all_goals (simp only [prB, Option.some.injEq, Prod.mk.injEq] at h; obtain ⟨rfl, rfl⟩ := h; decide +kernel)
theorem prT_blt {p : Pr} {n id : String} (h : prT p = some (n, id)) : (n : Str) ∈ bltNames := by
  cases p <;> first
    | (cases h; done)
    | skip
  all_goals (simp only [prT, Option.some.injEq, Prod.mk.injEq] at h; obtain ⟨rfl, rfl⟩ := h; decide +kernel)
theorem tests_ok {X' : Cx} {ifs : List Expr} {c : CE} {f : Expr → Bool} (hr : ∀ y, f y = true → Rd X' G F0 c y) (h : (match ifs with
          | [] => isYes c
          | [y] => f y
          | _ => false) = true) : PTs X' ifs (RT X' G F0 c) := by
  split at h
  · unfold isYes at h
    split at h
    · refine ⟨fun pins s σ H Q I ⟨Z, ρ, ph, mm, hρ, hr, q⟩ => pts_nil.run pins s σ H Q I ?_⟩
      unfold evE at q
      exact q.ok hr rfl
    · cases h
  · exact pts_one (hr _ h).pt
  · cases h

mutual
theorem chkE_ok : ∀ (c : CE) {X : Cx} {E : XK} {sc : Scope} (o : Ok T G X) (hs : X.env.scope = sc) (hl : Lets X E) (e : Expr), chkE T sc c e = true → Rd X G E c e
  | .var i, X, E, sc, o, hs, hl, e, h => by
    unfold chkE at h
    split at h
    · rename_i x p
      simp only [Bool.and_eq_true] at h
      obtain ⟨⟨h1, h2⟩, h3⟩ := h
      obtain ⟨h4, h5⟩ := plain_ok h3
      exact .of (rd_var (by rw [o.N]; exact eq_of_beq h1) (vis_ok (by rw [hs]; exact h2)) h4 h5) (fun _ => rfl) rfl
    · cases h
  | .cst v, X, E, sc, o, hs, hl, e, h => by
    unfold chkE at h
    split at h
    · exact .of (cst_ok h) (fun _ => rfl) rfl
    · cases h
  | .glb i, X, E, sc, o, hs, hl, e, h => by
    unfold chkE at h
    split at h
    · rename_i en
      refine rd_stuck fun ρ ph => ?_
      have e1 : G.glbs[i]? = none := List.getElem?_eq_none (by rw [o.glbL]; exact List.getElem?_eq_none_iff.mp en)
      unfold evE
      rw [e1]
    · rename_i y ey
      split at h
      · rename_i x p
        simp only [Bool.and_eq_true] at h
        obtain ⟨⟨h1, h2⟩, h3⟩ := h
        have e1 := eq_of_beq h1
        subst e1
        obtain ⟨v, u, z, g1, g2, g3, g4⟩ := o.glb i x ey
        subst hs
        exact .of (rd_glb (gl_ok h2) g1 g2 (plain_ok h3).1 g3 g4) (fun _ => rfl) rfl
      · cases h
  | .bin op mu a b, X, E, sc, o, hs, hl, e, h => by
    unfold chkE at h
    split at h
    · rename_i l oo r p
      simp only [Bool.and_eq_true] at h
      obtain ⟨h1, h2, h3⟩ := h
      have e1 := eq_of_beq h1
      subst e1
      exact .of (rd_bin (chkE_ok a o hs hl l h2).pe (chkE_ok b o hs hl r h3).pe) (fun _ => rfl) rfl
    · cases h
  | .neg a, X, E, sc, o, hs, hl, e, h => by
    unfold chkE at h
    split at h
    · exact .of (rd_neg (chkE_ok a o hs hl _ h).pe) (fun _ => rfl) rfl
    · cases h
  | .cmp op a b, X, E, sc, o, hs, hl, e, h => by
    unfold chkE at h
    split at h
    · rename_i l oo r p
      simp only [Bool.and_eq_true] at h
      obtain ⟨⟨h1, h2⟩, h3, h4⟩ := h
      have e1 := eq_of_beq h1
      subst e1
      exact ⟨rd_cmp o.bx (eq_of_beq h2) (chkE_ok a o hs hl l h3).pe (chkE_ok b o hs hl r h4).pe, rt_cmp o.bx (eq_of_beq h2) (chkE_ok a o hs hl l h3).pe (chkE_ok b o hs hl r h4).pe, fun z => by cases z⟩
    · cases h
  | .chn op op' a b c, X, E, sc, o, hs, hl, e, h => by
    unfold chkE at h
    split at h
    · rename_i l o1 o2 r r' p
      simp only [Bool.and_eq_true] at h
      obtain ⟨⟨⟨h1, h2⟩, h3⟩, h4, h5, h6⟩ := h
      have e1 := eq_of_beq h1
      have e2 := eq_of_beq h2
      subst e1 e2
      exact ⟨rd_chn o.bx (eq_of_beq h3) (chkE_ok a o hs hl l h4).pe (chkE_ok b o hs hl r h5).pe (chkE_ok c o hs hl r' h6).pe, rt_chn o.bx (eq_of_beq h3) (chkE_ok a o hs hl l h4).pe (chkE_ok b o hs hl r h5).pe (chkE_ok c o hs hl r' h6).pe, fun z => by cases z⟩
    · cases h
  | .and a b, X, E, sc, o, hs, hl, e, h => by
    unfold chkE at h
    split at h
    · rename_i x y r p
      obtain ⟨h1, h2⟩ := Bool.and_eq_true_iff.mp h
      have q1 := chkE_ok a o hs hl x h1
      obtain ⟨q2, q3⟩ := (chkE_ok b o hs hl _ h2).rest (.inl rfl)
      exact ⟨rd_and q1.pe q2, (rw_and q1.pt q3).pt, fun _ => rw_and q1.pt q3⟩
    · cases h
  | .or a b, X, E, sc, o, hs, hl, e, h => by
    unfold chkE at h
    split at h
    · rename_i x y r p
      obtain ⟨h1, h2⟩ := Bool.and_eq_true_iff.mp h
      have q1 := chkE_ok a o hs hl x h1
      obtain ⟨q2, q3⟩ := (chkE_ok b o hs hl _ h2).rest (.inr rfl)
      exact ⟨rd_or q1.pe q2, (rw_or q1.pt q3).pt, fun _ => rw_or q1.pt q3⟩
    · cases h
  | .not a, X, E, sc, o, hs, hl, e, h => by
    unfold chkE at h
    split at h
    · have q := chkE_ok a o hs hl _ h
      exact ⟨rd_not q.pe, rt_not q.pt, fun z => by cases z⟩
    · cases h
  | .ite c a b, X, E, sc, o, hs, hl, e, h => by
    unfold chkE at h
    split at h
    · rename_i x y z p
      simp only [Bool.and_eq_true] at h
      obtain ⟨h1, h2, h3⟩ := h
      exact ⟨rd_ite (chkE_ok c o hs hl x h1).pt (chkE_ok a o hs hl y h2).pe (chkE_ok b o hs hl z h3).pe, rt_ite (chkE_ok c o hs hl x h1).pt (chkE_ok a o hs hl y h2).pt (chkE_ok b o hs hl z h3).pt, fun z => by cases z⟩
    · cases h
  | .tup es, X, E, sc, o, hs, hl, e, h => by
    unfold chkE at h
    split at h
    · obtain ⟨h1, h2⟩ := Bool.and_eq_true_iff.mp h
      exact .of (rd_tup (chkL_ok es o hs hl _ h1 h2)) (fun _ => rfl) rfl
    · cases h
  | .lst mu es, X, E, sc, o, hs, hl, e, h => by
    unfold chkE at h
    split at h
    · obtain ⟨h1, h2⟩ := Bool.and_eq_true_iff.mp h
      rcases Bool.or_eq_true_iff.mp h2 with h2 | h2
      · exact .of (rd_lst (chkL_ok es o hs hl _ h1 h2)) (fun _ => rfl) rfl
      · exact .of (rd_lst (chkR0_ok es o hs hl _ h1 h2)) (fun _ => rfl) rfl
    · cases h
  | .dct mu tk es, X, E, sc, o, hs, hl, e, h => by
    unfold chkE at h
    split at h
    · rename_i ks vs p
      simp only [Bool.and_eq_true] at h
      obtain ⟨⟨⟨h1, h2⟩, h3⟩, h4⟩ := h
      have e1 : tk = false := eq_of_beq h1
      subst e1
      cases ks with
      | nil =>
        cases vs with
        | nil =>
          cases es with
          | nil => exact .of rd_dct0 (fun _ => rfl) rfl
          | cons k r => unfold chkD at h4; cases h4
        | cons v vs => cases h2
      | cons k ks =>
        obtain ⟨ps, e2, hp, ha⟩ := chkD_ok es o hs hl p _ _ h4
        subst e2
        exact .of (rd_disp hp ha (eq_of_beq h2) (fun z => by cases z) (of_decide_eq_true h3)) (fun _ => rfl) rfl
    · cases h
  | .ix a b, X, E, sc, o, hs, hl, e, h => by
    unfold chkE at h
    split at h
    · rename_i l r p
      simp only [Bool.and_eq_true] at h
      obtain ⟨h1, h2, h3⟩ := h
      exact .of (rd_ix o.bx (ix_ok h1) (chkE_ok a o hs hl l h2).pe (chkE_ok b o hs hl r h3).pe) (fun _ => rfl) rfl
    · cases h
  | .slc mu a lo hi, X, E, sc, o, hs, hl, e, h => by
    unfold chkE at h
    split at h
    · rename_i l x y p1 p2
      simp only [Bool.and_eq_true] at h
      obtain ⟨h1, h2, h3⟩ := h
      refine .of (rd_slc (chkE_ok a o hs hl l h1).pe ?_ ?_) (fun _ => rfl) rfl
      · split at h2
        · split at h2
          · exact .no
          · cases h2
        · exact .yes (chkE_ok lo o hs hl _ h2).pe
      · split at h3
        · split at h3
          · exact .no
          · cases h3
        · exact .yes (chkE_ok hi o hs hl _ h3).pe
    · cases h
  | .xfld a f, X, E, sc, o, hs, hl, e, h => by
    unfold chkE at h
    split at h
    · rename_i oo nm p
      simp only [Bool.and_eq_true] at h
      obtain ⟨⟨h1, h2⟩, h3⟩ := h
      have e1 := eq_of_beq h1
      subst e1
      exact .of (rd_xfld (base_ok h2) o.exr (chkE_ok a o hs hl oo h3).pe) (fun _ => rfl) rfl
    · cases h
  | .isx a cs, X, E, sc, o, hs, hl, e, h => by
    unfold chkE at h
    split at h
    · rename_i x p1 oo y p2 p3
      split at h
      · rename_i D
        simp only [Bool.and_eq_true] at h
        obtain ⟨⟨⟨⟨⟨⟨⟨h1, h2⟩, h3⟩, h4⟩, h5⟩, h6⟩, h7⟩, h8⟩ := h
        have e1 := eq_of_beq h1
        have e3 := eq_of_beq h3
        subst e1 e3 hs
        obtain ⟨g1, g2⟩ := o.isx D h2
        exact .of (rd_isx h7 (gl_ok h4) (o.blt _ (by decide +kernel)) (gl_ok h5) g1 (plain_ok h6).1 (fun c hc => ⟨o.exr c hc, g2 c hc⟩) (chkE_ok a o rfl hl oo h8).pe) (fun _ => rfl) rfl
      · cases h
    · cases h
  | .call i es, X, E, sc, o, hs, hl, e, h => by
    unfold chkE at h
    split at h
    · rename_i x p1 l p2
      split at h
      · rename_i y n en
        simp only [Bool.and_eq_true] at h
        obtain ⟨⟨⟨⟨h1, h2⟩, h3⟩, h4⟩, h5⟩ := h
        have e1 := eq_of_beq h1
        subst e1 hs
        obtain ⟨k, f, fd, ps, g, F, hh, hi, hr, hm, hk, hb⟩ := o.fns i x n en
        cases l with
        | nil =>
          cases es with
          | nil => exact .of (rd_call0 F hh hi hr o.bx.gd (gl_ok h2) hm hk hb hl (plain_ok h3).1) (fun _ => rfl) rfl
          | cons c cs => unfold chkL at h5; cases h5
        | cons a l =>
          have h4' := h4
          rw [List.all_cons, Bool.and_eq_true] at h4'
          exact .of (rd_call F hh hi hr o.bx.gd (gl_ok h2) hm hk hb hl (chkL_ok es o rfl hl _ h4 h5) (plain_ok h3).1 (star_cons h4'.1) (back_any h4'.2)) (fun _ => rfl) rfl
      · cases h
    · rename_i x p1 a oo kp p2
      simp only [Bool.and_eq_true] at h
      obtain ⟨⟨⟨h1, h2⟩, h3⟩, h4⟩ := h
      subst hs
      obtain ⟨k, f, fd, g, F, hh, hi, hr, hm, hk, hb⟩ := o.kw i x a h1
      obtain ⟨c1, rfl, rc⟩ := chkL1_ok es o rfl hl oo [] h4
      exact .of (rd_call1k F hh hi hr o.bx.gd (gl_ok h2) hm hk hb hl rc.pe (plain_ok h3).1) (fun _ => rfl) rfl
    · cases h
  | .prim p es, X, E, sc, o, hs, hl, e, h => by
    unfold chkE at h
    split at h
    · rename_i x p1 l p2
      obtain ⟨h12, h3⟩ := Bool.and_eq_true_iff.mp h
      obtain ⟨h1, h2⟩ := Bool.and_eq_true_iff.mp h12
      subst hs
      split at h3
      · rename_i ts
        obtain ⟨h4, h5⟩ := Bool.and_eq_true_iff.mp h3
        have e4 := eq_of_beq h4
        subst e4
        split at h5
        · rename_i a y q
          split at h5
          · rename_i t
            simp only [Bool.and_eq_true] at h5
            obtain ⟨⟨h6, h7⟩, h8⟩ := h5
            have e7 := eq_of_beq h7
            rw [List.all_cons, Bool.and_eq_true] at h2
            obtain ⟨c, ec, hc⟩ := chkL1_ok es o rfl hl _ _ h8
            subst ec
            exact .of (rd_isa1 (p2 := q) h2.1 (gl_ok h1) (o.blt _ (by decide +kernel)) (gl_ok h6) (o.blt _ (ty_blt e7)) e7 hc.pe) (fun _ => rfl) rfl
          · cases h5
        · rename_i a ys kk q
          simp only [Bool.and_eq_true] at h5
          obtain ⟨⟨⟨h6, h7⟩, h8⟩, h9⟩ := h5
          rw [List.all_cons, Bool.and_eq_true] at h2
          obtain ⟨c, ec, hc⟩ := chkL1_ok es o rfl hl _ _ h9
          subst ec
          exact .of (rd_isaT (of_decide_eq_true h6) h2.1 (gl_ok h1) (o.blt _ (by decide +kernel)) (chkTys o (eq_of_beq h7) h8) hc.pe) (fun _ => rfl) rfl
        · cases h5
      · simp only [Bool.and_eq_true] at h3
        obtain ⟨⟨h4, h5⟩, h6⟩ := h3
        cases l with
        | nil => cases h4
        | cons a l =>
          have hL := chkL_ok es o rfl hl _ h2 h6
          split at h5
          · rename_i n id eb
            have e5 := eq_of_beq h5
            obtain ⟨b1, b2, b3⟩ := prB_boot eb
            have hc := prB_ok (E := E) o.bx eb
            rw [← o.rep] at hc
            exact .of (rd_primB hc h2 (gl_ok h1) (o.blt x (by rw [e5]; exact prB_blt eb)) (by rw [e5]; exact b1) (by rw [e5]; exact b2) (by rw [e5]; exact b3) hL) (fun _ => rfl) rfl
          · rename_i n id _ et
            have e5 := eq_of_beq h5
            obtain ⟨b1, b2, b3⟩ := prT_boot et
            have hc := prT_ok (X := X) (E := E) et
            rw [← o.rep] at hc
            exact .of (rd_primT hc h2 (gl_ok h1) (o.blt x (by rw [e5]; exact prT_blt et)) (by rw [e5]; exact b1) (by rw [e5]; exact b2) (by rw [e5]; exact b3) hL) (fun _ => rfl) rfl
          · cases h5
    · cases h
  | .mth p q es, X, E, sc, o, hs, hl, e, h => by
    unfold chkE at h
    split at h
    · rename_i oo nm apos l pos
      simp only [Bool.and_eq_true] at h
      obtain ⟨⟨⟨⟨⟨h1, h2⟩, h3⟩, h4⟩, h5⟩, h6, h7⟩ := h
      exact .of (rd_mth o.bx (eq_of_beq h1) h2 h3 (of_decide_eq_true h4) h5 (chkE_ok q o hs hl oo h6).pe (chkL_ok es o hs hl l h3 h7)) (fun _ => rfl) rfl
    · cases h
  | .lc mu own t it c x, X, E, sc, o, hs, hl, e, h => by
    unfold chkE at h
    split at h
    · rename_i elt gs scope p
      split at h
      · rename_i tg iter ifs
        simp only [Bool.and_eq_true] at h
        obtain ⟨⟨⟨⟨⟨h1, h2⟩, h3⟩, h4⟩, h5⟩, h6, h7⟩ := h
        subst hs
        obtain ⟨bo, eo⟩ := blk_ok h1
        rw [← o.N] at bo eo
        have hown : ∀ i ∈ tgIx t, i ∈ (ownP X.N own).map (·.2) := fun i hi => by
          rw [eo]
          exact List.contains_iff_mem.mp (List.all_eq_true.mp h2 i hi)
        rw [← eo]
        exact .of (rd_lc o.bx (chkI_ok it o rfl hl tg iter h5) bo hown (fun s H C cl fp => chkT_ok (X := X.blk s H scope (compEnvC scope cl C X.env) fp) (T := T) ⟨o.bx.calm, o.bx.nd, o.bx.un, o.bx.gd⟩ o.N (fun x hx => stK_ok hx) t tg h3)
          (fun s H C cl fp => tests_ok (f := chkE T (relS scope X.env.scope) c) (fun y hy => chkE_ok c (o.blk s H scope (compEnvC scope cl C X.env) fp) rfl (lets0 _) y hy) h6)
          (fun s H C cl fp => (chkE_ok x (o.blk s H scope (compEnvC scope cl C X.env) fp) rfl (lets0 _) elt h7).pe) (fold_ok h4)) (fun _ => rfl) rfl
      · cases h
    · cases h
  | .dc mu tk own t it c k x, X, E, sc, o, hs, hl, e, h => by
    unfold chkE at h
    split at h
    · rename_i kx vx gs scope p
      split at h
      · rename_i tg iter ifs
        simp only [Bool.and_eq_true] at h
        obtain ⟨⟨⟨⟨⟨⟨h0, h1⟩, h2⟩, h3⟩, h4⟩, h5⟩, h6, h7, h8⟩ := h
        subst hs
        have e0 : tk = false := eq_of_beq h0
        subst e0
        obtain ⟨bo, eo⟩ := blk_ok h1
        rw [← o.N] at bo eo
        have hown : ∀ i ∈ tgIx t, i ∈ (ownP X.N own).map (·.2) := fun i hi => by
          rw [eo]
          exact List.contains_iff_mem.mp (List.all_eq_true.mp h2 i hi)
        rw [← eo]
        exact .of (rd_dc o.bx (chkI_ok it o rfl hl tg iter h5) bo hown (fun s H C cl fp => chkT_ok (X := X.blk s H scope (compEnvC scope cl C X.env) fp) (T := T) ⟨o.bx.calm, o.bx.nd, o.bx.un, o.bx.gd⟩ o.N (fun x hx => stK_ok hx) t tg h3)
          (fun s H C cl fp => tests_ok (f := chkE T (relS scope X.env.scope) c) (fun y hy => chkE_ok c (o.blk s H scope (compEnvC scope cl C X.env) fp) rfl (lets0 _) y hy) h6)
          (fun s H C cl fp => (chkE_ok k (o.blk s H scope (compEnvC scope cl C X.env) fp) rfl (lets0 _) kx h7).pe)
          (fun s H C cl fp => (chkE_ok x (o.blk s H scope (compEnvC scope cl C X.env) fp) rfl (lets0 _) vx h8).pe) (fold_ok h4)) (fun _ => rfl) rfl
      · cases h
    · cases h
  | .rpl _ _ _ _, X, E, sc, o, hs, hl, _, h => by unfold chkE at h; cases h
  | .upp a, X, E, sc, o, hs, hl, e, h => by
    unfold chkE at h
    split at h
    · rename_i q nm apos pos
      simp only [Bool.and_eq_true] at h
      obtain ⟨⟨⟨h1, h2⟩, h3⟩, h4⟩ := h
      have e1 := eq_of_beq h1
      subst e1
      exact .of (rd_upp o.upr h2 h3 (chkE_ok a o hs hl q h4).pe) (fun _ => rfl) rfl
    · cases h
  | .emp neg a, X, E, sc, o, hs, hl, e, h => by
    unfold chkE at h
    split at h
    · rename_i l op p2 p
      obtain ⟨h1, h2⟩ := Bool.and_eq_true_iff.mp h
      have e1 := eq_of_beq h1
      subst e1
      exact ⟨rd_emp o.bx (chkE_ok a o hs hl l h2).pe, rt_emp o.bx (chkE_ok a o hs hl l h2).pe, fun z => by cases z⟩
    · cases h
  | .kcE x c, X, E, sc, o, hs, hl, e, h => by
    unfold chkE at h
    obtain ⟨h1, h2⟩ := Bool.and_eq_true_iff.mp h
    have q := pe_kc (x := x) (chkE_ok c o hs hl e h2).pe
    unfold isComp at h1
    split at h1
    · exact .of q (fun _ => rfl) rfl
    · exact .of q (fun _ => rfl) rfl
    · cases h1
  | .rev _ a, X, E, sc, o, hs, hl, e, h => by
    unfold chkE at h
    split at h
    · exact .of (rd_rev (chkE_ok a o hs hl _ h).pe) (fun _ => rfl) rfl
    · cases h
  | .fld _ _, X, E, sc, o, hs, hl, _, h => by unfold chkE at h; cases h
  | .meth _ _ _, X, E, sc, o, hs, hl, _, h => by unfold chkE at h; cases h
  | .mk _ _, X, E, sc, o, hs, hl, _, h => by unfold chkE at h; cases h
  | .lc2 _ _ _ _ _ _ _ _ _, X, E, sc, o, hs, hl, _, h => by unfold chkE at h; cases h
  | .said _ _ _, X, E, sc, o, hs, hl, _, h => by unfold chkE at h; cases h
theorem chkL_ok : ∀ (c : CEs) {X : Cx} {E : XK} {sc : Scope} (o : Ok T G X) (hs : X.env.scope = sc) (hl : Lets X E) (e : List Expr), (e.all nst) = true → chkL T sc c e = true → PA X e (RL X G E c)
  | .nil, X, E, sc, o, hs, hl, e, _, h => by
    unfold chkL at h
    rw [List.isEmpty_iff.mp h]
    exact rl_nil
  | .cons c cs, X, E, sc, o, hs, hl, e, hn, h => by
    unfold chkL at h
    split at h
    · rename_i x xs
      obtain ⟨h1, h2⟩ := Bool.and_eq_true_iff.mp h
      rw [List.all_cons, Bool.and_eq_true] at hn
      exact rl_cons (star_cons hn.1) (chkE_ok c o hs hl x h1).pe (chkL_ok cs o hs hl xs hn.2 h2)
    · cases h
theorem chkR0_ok : ∀ (c : CEs) {X : Cx} {E : XK} {sc : Scope} (o : Ok T G X) (hs : X.env.scope = sc) (hl : Lets X E) (e : List Expr), (e.all nst) = true → chkR0 T sc c e = true → PA X e (RL X G E c)
  | .nil, X, E, sc, o, hs, hl, e, _, h => by unfold chkR0 at h; cases h
  | .cons c cs, X, E, sc, o, hs, hl, e, hn, h => by
    unfold chkR0 at h
    split at h
    · rename_i x xs
      simp only [Bool.and_eq_true] at h
      obtain ⟨⟨h1, h2⟩, h3⟩ := h
      rw [List.all_cons, Bool.and_eq_true] at hn
      have q1 := (chkE_ok c o hs hl x h2).pe
      have q2 := chkR_ok cs o hs hl xs hn.2 h3
      unfold tokE at h1
      split at h1
      · exact rl_first q1 q2
      · cases h1
    · cases h
theorem chkR_ok : ∀ (c : CEs) {X : Cx} {E : XK} {sc : Scope} (o : Ok T G X) (hs : X.env.scope = sc) (hl : Lets X E) (e : List Expr), (e.all nst) = true → chkR T sc c e = true → PAT X e (RL X G E c)
  | .nil, X, E, sc, o, hs, hl, e, _, h => by
    unfold chkR at h
    rw [List.isEmpty_iff.mp h]
    exact rlt_nil
  | .cons c cs, X, E, sc, o, hs, hl, e, hn, h => by
    unfold chkR at h
    split at h
    · rename_i x xs
      obtain ⟨h1, h2⟩ := Bool.and_eq_true_iff.mp h
      rw [List.all_cons, Bool.and_eq_true] at hn
      have q2 := chkR_ok cs o hs hl xs hn.2 h2
      rcases Bool.or_eq_true_iff.mp h1 with h1 | h1
      · exact rlt_cons (star_cons hn.1) (CwR.PET.of (chkE_ok c o hs hl x h1).pe) q2
      · exact rlt_cons (star_cons hn.1) (chkX_ok c o hs hl x h1) q2
    · cases h
theorem chkX_ok : ∀ (c : CE) {X : Cx} {E : XK} {sc : Scope} (o : Ok T G X) (hs : X.env.scope = sc) (hl : Lets X E) (e : Expr), chkX T sc c e = true → PET X e (RE X G E c)
  | .rpl one a y z, X, E, sc, o, hs, hl, e, h => by
    unfold chkX at h
    split at h
    · rename_i q nm apos l pos
      simp only [Bool.and_eq_true] at h
      obtain ⟨⟨⟨⟨⟨h1, h2⟩, h3⟩, h4⟩, h5⟩, h6⟩ := h
      have e1 := eq_of_beq h1
      subst e1
      have h4' : (y == z) = false := by simpa using h4
      have ho := (chkE_ok a o hs hl q h5).pe
      split at h6
      · simp only [Bool.and_eq_true] at h6
        obtain ⟨⟨k1, k2⟩, k3⟩ := h6
        have e3 := eq_of_beq k3
        subst e3
        exact pet_rpl0 o.rpl (eq_of_beq k1) (eq_of_beq k2) h2 h3 h4' ho
      · simp only [Bool.and_eq_true] at h6
        obtain ⟨⟨k1, k2⟩, k3⟩ := h6
        have e3 := eq_of_beq k3
        subst e3
        exact pet_rpl1 o.rpl (eq_of_beq k1) (eq_of_beq k2) h2 h3 h4' ho
      · cases h6
    · cases h
  | .var _, X, E, sc, o, hs, hl, _, h => by unfold chkX at h; cases h
  | .upp _, X, E, sc, o, hs, hl, _, h => by unfold chkX at h; cases h
  | .emp _ _, X, E, sc, o, hs, hl, _, h => by unfold chkX at h; cases h
  | .kcE _ _, X, E, sc, o, hs, hl, _, h => by unfold chkX at h; cases h
  | .cst _, X, E, sc, o, hs, hl, _, h => by unfold chkX at h; cases h
  | .glb _, X, E, sc, o, hs, hl, _, h => by unfold chkX at h; cases h
  | .bin _ _ _ _, X, E, sc, o, hs, hl, _, h => by unfold chkX at h; cases h
  | .neg _, X, E, sc, o, hs, hl, _, h => by unfold chkX at h; cases h
  | .cmp _ _ _, X, E, sc, o, hs, hl, _, h => by unfold chkX at h; cases h
  | .chn _ _ _ _ _, X, E, sc, o, hs, hl, _, h => by unfold chkX at h; cases h
  | .and _ _, X, E, sc, o, hs, hl, _, h => by unfold chkX at h; cases h
  | .or _ _, X, E, sc, o, hs, hl, _, h => by unfold chkX at h; cases h
  | .not _, X, E, sc, o, hs, hl, _, h => by unfold chkX at h; cases h
  | .ite _ _ _, X, E, sc, o, hs, hl, _, h => by unfold chkX at h; cases h
  | .tup _, X, E, sc, o, hs, hl, _, h => by unfold chkX at h; cases h
  | .lst _ _, X, E, sc, o, hs, hl, _, h => by unfold chkX at h; cases h
  | .dct _ _ _, X, E, sc, o, hs, hl, _, h => by unfold chkX at h; cases h
  | .ix _ _, X, E, sc, o, hs, hl, _, h => by unfold chkX at h; cases h
  | .slc _ _ _ _, X, E, sc, o, hs, hl, _, h => by unfold chkX at h; cases h
  | .rev _ _, X, E, sc, o, hs, hl, _, h => by unfold chkX at h; cases h
  | .fld _ _, X, E, sc, o, hs, hl, _, h => by unfold chkX at h; cases h
  | .xfld _ _, X, E, sc, o, hs, hl, _, h => by unfold chkX at h; cases h
  | .isx _ _, X, E, sc, o, hs, hl, _, h => by unfold chkX at h; cases h
  | .call _ _, X, E, sc, o, hs, hl, _, h => by unfold chkX at h; cases h
  | .meth _ _ _, X, E, sc, o, hs, hl, _, h => by unfold chkX at h; cases h
  | .mk _ _, X, E, sc, o, hs, hl, _, h => by unfold chkX at h; cases h
  | .prim _ _, X, E, sc, o, hs, hl, _, h => by unfold chkX at h; cases h
  | .mth _ _ _, X, E, sc, o, hs, hl, _, h => by unfold chkX at h; cases h
  | .lc _ _ _ _ _ _, X, E, sc, o, hs, hl, _, h => by unfold chkX at h; cases h
  | .lc2 _ _ _ _ _ _ _ _ _, X, E, sc, o, hs, hl, _, h => by unfold chkX at h; cases h
  | .said _ _ _, X, E, sc, o, hs, hl, _, h => by unfold chkX at h; cases h
  | .dc _ _ _ _ _ _ _ _, X, E, sc, o, hs, hl, _, h => by unfold chkX at h; cases h
theorem chkL1_ok : ∀ (c : CEs) {X : Cx} {E : XK} {sc : Scope} (o : Ok T G X) (hs : X.env.scope = sc) (hl : Lets X E) (a : Expr) (r : List Expr), chkL1 T sc c (a :: r) = true → ∃ c1, c = .cons c1 .nil ∧ Rd X G E c1 a
  | .nil, X, E, sc, o, hs, hl, a, r, h => by unfold chkL1 at h; cases h
  | .cons c cs, X, E, sc, o, hs, hl, a, r, h => by
    unfold chkL1 at h
    cases cs with
    | nil => exact ⟨c, rfl, chkE_ok c o hs hl a h⟩
    | cons c2 cs => cases h
theorem chkD_ok : ∀ (c : CEs) {X : Cx} {E : XK} {sc : Scope} (o : Ok T G X) (hs : X.env.scope = sc) (hl : Lets X E) (p : Pos) (ks : List (Option Expr)) (vs : List Expr), chkD T sc c ks vs = true → ∃ ps : List (CE × CE), c = flatC ps ∧ PPs X p ks vs (ps.map fun q => (RE X G E q.1, RE X G E q.2)) ∧ ks.all (·.isSome) = true
  | .nil, X, E, sc, o, hs, hl, p, ks, vs, h => by
    unfold chkD at h
    obtain ⟨h1, h2⟩ := Bool.and_eq_true_iff.mp h
    rw [List.isEmpty_iff.mp h1, List.isEmpty_iff.mp h2]
    exact ⟨[], rfl, pps_nil, rfl⟩
  | .cons k .nil, X, E, sc, o, hs, hl, p, ks, vs, h => by
    unfold chkD at h
    split at h
    · split at h
      · cases h
      · cases h
    · cases h
  | .cons k (.cons v r), X, E, sc, o, hs, hl, p, ks, vs, h => by
    unfold chkD at h
    split at h
    · rename_i kx ks
      split at h
      · rename_i vx vs
        simp only [Bool.and_eq_true] at h
        obtain ⟨h1, h2, h3⟩ := h
        obtain ⟨ps, e, hp, ha⟩ := chkD_ok r o hs hl p ks vs h3
        subst e
        exact ⟨(k, v) :: ps, rfl, pps_cons (chkE_ok k o hs hl kx h1).pe (chkE_ok v o hs hl vx h2).pe hp, by rw [List.all_cons, ha]; rfl⟩
      · cases h
    · cases h
theorem chkI_ok : ∀ (c : CI) {X : Cx} {E : XK} {sc : Scope} (o : Ok T G X) (hs : X.env.scope = sc) (hl : Lets X E) (tg e : Expr), chkI T sc c tg e = true → PI X tg e (RI X G E c)
  | .val c, X, E, sc, o, hs, hl, tg, e, h => by
    unfold chkI at h
    exact ri_val (chkE_ok c o hs hl e h).pe
  | .rng cs, X, E, sc, o, hs, hl, tg, e, h => by
    unfold chkI at h
    split at h
    · rename_i x p1 l p2
      simp only [Bool.and_eq_true] at h
      obtain ⟨⟨⟨⟨h1, h2⟩, h3⟩, h4⟩, h5⟩ := h
      have e1 := eq_of_beq h1
      subst e1 hs
      have hm : X.mg "range" = none := o.blt _ (by decide +kernel)
      cases cs with
      | nil =>
        unfold chkL at h5
        rw [List.isEmpty_iff.mp h5] at h4
        cases h4
      | cons c cs =>
        unfold chkL at h5
        split at h5
        · rename_i a l
          obtain ⟨h6, h7⟩ := Bool.and_eq_true_iff.mp h5
          rw [List.all_cons, Bool.and_eq_true] at h3
          cases cs with
          | nil =>
            unfold chkL at h7
            rw [List.isEmpty_iff.mp h7]
            exact ri_rng1 h3.1 (gl_ok h2) hm (chkE_ok c o rfl hl a h6).pe
          | cons c2 cs =>
            unfold chkL at h7
            split at h7
            · rename_i b l
              obtain ⟨h8, h9⟩ := Bool.and_eq_true_iff.mp h7
              have h32 := h3.2
              rw [List.all_cons, Bool.and_eq_true] at h32
              cases cs with
              | nil =>
                unfold chkL at h9
                rw [List.isEmpty_iff.mp h9]
                exact ri_rng2 h3.1 h32.1 (gl_ok h2) hm (chkE_ok c o rfl hl a h6).pe (chkE_ok c2 o rfl hl b h8).pe
              | cons c3 cs =>
                unfold chkL at h9
                split at h9
                · simp at h4
                · cases h9
            · cases h7
        · cases h5
    · cases h
  | .enm c k, X, E, sc, o, hs, hl, tg, e, h => by
    unfold chkI at h
    have ht := (Bool.and_eq_true_iff.mp h).1
    replace h := (Bool.and_eq_true_iff.mp h).2
    cases tg <;> first | (cases ht; done) | skip
    split at h
    · rename_i x p1 l kw p2
      split at h
      · rename_i a
        simp only [Bool.and_eq_true] at h
        obtain ⟨⟨⟨⟨h1, h2⟩, h3⟩, h4⟩, h5⟩ := h
        have e1 := eq_of_beq h1
        subst e1 hs
        have hm : X.mg "enumerate" = none := o.blt _ (by decide +kernel)
        split at h5
        · have e5 := eq_of_beq h5
          subst e5
          exact ri_enm h3 (gl_ok h2) hm (chkE_ok c o rfl hl a h4).pe
        · rename_i s j p3 p4 p5
          simp only [Bool.and_eq_true] at h5
          obtain ⟨⟨⟨⟨h6, h7⟩, h10⟩, h8⟩, h9⟩ := h5
          have e6 := eq_of_beq h6
          have e7 := eq_of_beq h7
          subst e6 e7
          exact ri_enmC (of_decide_eq_true h10) (of_decide_eq_true h8) (of_decide_eq_true h9) h3 (gl_ok h2) hm (chkE_ok c o rfl hl a h4).pe
        · cases h5
      · cases h
    · cases h
  | .zip a b, X, E, sc, o, hs, hl, tg, e, h => by
    unfold chkI at h
    have ht := (Bool.and_eq_true_iff.mp h).1
    replace h := (Bool.and_eq_true_iff.mp h).2
    cases tg <;> first | (cases ht; done) | skip
    split at h
    · rename_i x p1 l p2
      split at h
      · rename_i oo q
        simp only [Bool.and_eq_true] at h
        obtain ⟨⟨⟨⟨h1, h2⟩, h3⟩, h4⟩, h5, h6⟩ := h
        have e1 := eq_of_beq h1
        subst e1 hs
        exact ri_zip h3 h4 (gl_ok h2) (o.blt _ (by decide +kernel)) (chkE_ok a o rfl hl oo h5).pe (chkE_ok b o rfl hl q h6).pe
      · cases h
    · cases h
  | .zipM a b, X, E, sc, o, hs, hl, tg, e, h => by
    unfold chkI at h
    have ht := (Bool.and_eq_true_iff.mp h).1
    replace h := (Bool.and_eq_true_iff.mp h).2
    cases tg <;> first | (cases ht; done) | skip
    split at h
    · rename_i x p1 l p2
      split at h
      · rename_i oo q
        simp only [Bool.and_eq_true] at h
        obtain ⟨⟨⟨⟨h1, h2⟩, h3⟩, h4⟩, h5, h6⟩ := h
        have e1 := eq_of_beq h1
        subst e1 hs
        exact ri_zipM h3 h4 (gl_ok h2) (o.blt _ (by decide +kernel)) (chkE_ok a o rfl hl oo h5).pe (chkE_ok b o rfl hl q h6).pe
      · cases h
    · cases h
  | .keys c, X, E, sc, o, hs, hl, tg, e, h => by
    unfold chkI at h
    exact ri_keys (chkE_ok c o hs hl e h).pe
  | .items _, X, E, sc, o, hs, hl, _, _, h => by unfold chkI at h; cases h
  | .values _, X, E, sc, o, hs, hl, _, _, h => by unfold chkI at h; cases h
  | .rev _, X, E, sc, o, hs, hl, _, _, h => by unfold chkI at h; cases h
end
end
end Ev
end
section
set_option maxRecDepth 100000
/-! EvK4: the check of statements. -/
namespace Ev
open PySem PySem.Spec PyProof.Rows L2

def starB : Expr → Bool
  | .Starred .. => true
  | _ => false
/-- which stores stand in another order: as swappedStores says; none: it cannot be said -/
def swpB (sc : Scope) (tg : Expr) (v : Expr) : Option (Option (List Str)) :=
  match (match tg, v with
    | .Tuple ts _ _, .Tuple vs _ _ => some (ts, vs)
    | .List ts _, .Tuple vs _ _ => some (ts, vs)
    | _, _ => none) with
  | none => some none
  | some (ts, vs) =>
    if !(ts.length == 2 || ts.length == 3) || vs.length != ts.length then some none
    else if vs.any starB then some none
    else
      let line := (ts.head?.map (·.pos.line)).getD 0
      let names := ts.filterMap fun
        | .Name id pos => if sc.names.lookup id == some .local && pos.line == line then some id else none
        | _ => none
      if names.length != ts.length || names.eraseDups.length != names.length then some none
      else if vs.all (foldedForSure 8) then some none
      else if vs.all (constantsAlone 8) then none
      else some (some names)
theorem swp_ok {env : PySem.Env} {tg v : Expr} {r : Option (List Str)} (hk : env.scope.kind = .function) (h : swpB env.scope tg v = some r) : swappedStores [tg] v env = pure r := by
  have hb : env.blockKind = .function := by unfold PySem.Env.blockKind; rw [hk]; rfl
  unfold swpB at h
  unfold swappedStores
  have key : ∀ (ts vs : List Expr), (if !(ts.length == 2 || ts.length == 3) || vs.length != ts.length then some none
    else if vs.any starB then some none
    else
      let line := (ts.head?.map (·.pos.line)).getD 0
      let names := ts.filterMap fun
        | .Name id pos => if env.scope.names.lookup id == some .local && pos.line == line then some id else none
        | _ => none
      if names.length != ts.length || names.eraseDups.length != names.length then some none
      else if vs.all (foldedForSure 8) then some none
      else if vs.all (constantsAlone 8) then none
      else some (some names)) = some r → (do
  if !(ts.length == 2 || ts.length == 3) || vs.length != ts.length || env.blockKind != .function then return none
  if vs.any fun | .Starred .. => true | _ => false then return none
  let line := (ts.head?.map (·.pos.line)).getD 0
  let names := ts.filterMap fun
    | .Name id pos => if env.kindOf id == some .local && pos.line == line then some id else none
    | _ => none
  if names.length != ts.length || names.eraseDups.length != names.length then return none
  if vs.all (foldedForSure 8) then return none
  if vs.all (constantsAlone 8) then unsupported "assign.tuple-of-constant-expressions:order-of-the-stores"
  return some names : Sem (Option (List Str))) = pure r := by
    intro ts vs h
    rw [hb]
    have hf : (fun e : Expr => match e with | .Starred .. => true | _ => false) = starB := by funext e; cases e <;> rfl
    rw [hf]
    by_cases h1 : (!(ts.length == 2 || ts.length == 3) || vs.length != ts.length) = true
    · rw [if_pos h1] at h
      rw [if_pos (by rw [h1]; rfl)]
      cases h; rfl
    · rw [if_neg h1] at h
      rw [if_neg (by rw [Bool.not_eq_true] at h1; rw [h1]; decide)]
      by_cases h2 : vs.any starB = true
      · rw [if_pos h2] at h
        rw [if_pos h2]
        cases h; rfl
      · rw [if_neg h2] at h
        rw [if_neg h2]
        dsimp only at h
        show (let line := (ts.head?.map (·.pos.line)).getD 0
          let names := ts.filterMap fun
            | .Name id pos => if env.scope.names.lookup id == some .local && pos.line == line then some id else none
            | _ => none
          (do
          if names.length != ts.length || names.eraseDups.length != names.length then return none
          if vs.all (foldedForSure 8) then return none
          if vs.all (constantsAlone 8) then unsupported "assign.tuple-of-constant-expressions:order-of-the-stores"
          return some names : Sem (Option (List Str)))) = pure r
        dsimp only
        split at h
        · rename_i h3
          rw [if_pos h3]
          cases h; rfl
        · rename_i h3
          rw [if_neg h3]
          split at h
          · rename_i h4
            rw [if_pos h4]
            cases h; rfl
          · rename_i h4
            rw [if_neg h4]
            split at h
            · cases h
            · rename_i h5
              rw [if_neg h5]
              cases h; rfl
  cases tg <;> cases v <;> first
    | (cases h; rfl)
    | exact key _ _ h
/-- a comprehension's value goes into the name before its variables do -/
def swB (sc : Scope) (e : Expr) (tg : Expr) : Bool :=
  match (match e with
    | .ListComp _ _ s _ | .SetComp _ _ s _ | .DictComp _ _ _ s _ => some s
    | _ => none) with
  | none => false
  | some scope => match tg with
    | .Name t pos => sc.names.lookup t == some .local && pos.line == e.pos.line && !(scope.names.any fun (n, k) => n == t && (k == .local || k == .cell))
    | _ => false
theorem sw_ok {env : PySem.Env} {tg e : Expr} {l : Nat} (hk : env.scope.kind = .function) : swapsWith e (some tg) l env = pure (swB env.scope e tg) := by
  have hb : env.blockKind = .function := by unfold PySem.Env.blockKind; rw [hk]; rfl
  unfold swapsWith swB
  cases e <;> first
    | rfl
    | (dsimp only
       cases tg <;> first
        | rfl
        | (dsimp only; rw [hb]; rfl))
mutual
def chkP (T : Tab) (sc : Scope) : Pl → Expr → Bool
  | .nm i, e => match e with
    | .Name x _ => T.N[i]? == some x && locB sc x
    | _ => false
  | .tp ts, e => match e with
    | .Tuple es _ _ => es.all nst && es.length == ts.length && chkPs T sc ts es
    | _ => false
  | .sub o i, e => match e with
    | .Subscript a b _ => nslc b && chkE T sc o a && chkE T sc i b
    | _ => false
  | .fld _ _, _ => false
def chkPs (T : Tab) (sc : Scope) : List Pl → List Expr → Bool
  | [], es => es.isEmpty
  | t :: ts, es => match es with
    | e :: es => chkP T sc t e && chkPs T sc ts es
    | [] => false
end
def nmsOf : List Pl → Option (List Nat)
  | [] => some []
  | .nm i :: r => (nmsOf r).map (i :: ·)
  | _ => none
theorem nms_ok : ∀ {ps : List Pl} {is : List Nat}, nmsOf ps = some is → ps = is.map Pl.nm
  | [], is, h => by cases h; rfl
  | .nm i :: r, is, h => by
    unfold nmsOf at h
    obtain ⟨js, h1, h2⟩ := map_some' h
    rw [← h2, nms_ok h1]; rfl
  | .tp _ :: r, is, h => by cases h
  | .sub _ _ :: r, is, h => by cases h
  | .fld _ _ :: r, is, h => by cases h
/-- names and their slots -/
def pairB (N : List Str) (sc : Scope) : List Str → List Nat → Bool
  | [], [] => true
  | x :: xs, i :: is => N[i]? == some x && sc.names.lookup x == some .local && pairB N sc xs is
  | _, _ => false
def isLc : CE → Bool
  | .lc _ _ _ _ _ _ => true
  | _ => false
def isDc : CE → Bool
  | .dc _ _ _ _ _ _ _ _ => true
  | _ => false
/-- an assignment -/
def chkA (T : Tab) (sc : Scope) (t : Pl) (c : CE) (tg e : Expr) : Bool := match swB sc e tg with
  | true => match t, tg, e with
    | .nm i, .Name y _, .ListComp _ [⟨_, _, _, 0⟩] _ _ => T.N[i]? == some y && sc.names.lookup y == some .local && isLc c && chkE T sc c e
    | .nm i, .Name y _, .DictComp _ _ [⟨_, _, _, 0⟩] _ _ => T.N[i]? == some y && sc.names.lookup y == some .local && isDc c && chkE T sc c e
    | _, _, _ => false
  | false => nst tg && chkE T sc c e && (match swpB sc tg e with
    | none => false
    | some none => chkP T sc t tg
    | some (some names) => match t, tg with
      | .tp ps, .Tuple _ _ _ => match nmsOf ps with
        | some is => decide is.Nodup && names.length == is.length && pairB T.N sc names.reverse is.reverse && ncomp e
        | none => false
      | _, _ => false)
/-- try: one call; except: keep the error -/
def chkB1 (T : Tab) (sc : Scope) : CSs → List Stmt → Bool
  | .cons (.asg (.nm j) c) .nil, [.Assign [.Name n q] e _] => T.N[j]? == some n && locB sc n && swpB sc (.Name n q) e == some none && callB T sc c e
  | .cons (.expr c) .nil, [.Expr e _] => callB T sc c e
  | _, _ => false
where
  callB (T : Tab) (sc : Scope) (c : CE) (e : Expr) : Bool := match c, e with
    | .call i es, .Call (.Name x _) l [] _ => match T.fns[i]? with
      | some (y, n) => x == y && glB sc x && plainN x && l.all nst && chkL T sc es l && mildL es
      | none => false
    | _, _ => false
def chkH (T : Tab) (sc : Scope) : CSs → List Stmt → Bool
  | .cons (.asg (.nm j) (.var k)) .nil, [.Assign [.Name n q] (.Name m _) _] => T.N[j]? == some n && locB sc n && T.N[k]? == some m && visB sc m && plainN m && swpB sc (.Name n q) (.Name m ⟨0, 0, 0, 0⟩) == some none
  | _, _ => false
/-- a def called with a lambda -/
def chkSaid (T : Tab) (sc : Scope) : CE → Expr → Bool
  | .said i y c, e => match e with
    | .Call (.Name x _) [.Lambda ⟨[], [], none, [], [], none, []⟩ body scope _] [] _ => T.sds.contains (i, x) && decide (y = T.me) && glB sc x && plainN x && LamX.lamSB sc scope && chkE T scope c body
    | _ => false
  | _, _ => false
def chkSay (T : Tab) (sc : Scope) : CS → Stmt → Bool
  | .asg (.nm j) (.lst _ (.cons c .nil)), s => match s with
    | .Assign [.Name n _] (.List [e] _) _ => T.N[j]? == some n && locB sc n && nst e && chkSaid T sc c e
    | _ => false
  | .expr (.mth .append (.var j) (.cons c .nil)), s => match s with
    | .Expr (.Call (.Attribute (.Name n _) nm apos) [e] [] pos) _ => nm == (mnm .append : Str) && T.N[j]? == some n && visB sc n && plainN n && apos.endLine == pos.line && nst e && chkSaid T sc c e
    | _ => false
  | _, _ => false
/-- the errors' families that a try may catch: three names, the classes -/
abbrev Tri : Type := (Str × Str × Str) × List Nat
mutual
def chkS (T : Tab) (tr : List Tri) (sc : Scope) : CS → Stmt → Bool
  | .expr c, s => match s with
    | .Expr e _ => ncomp e && chkE T sc c e
    | _ => false
  | .asg t c, s => match s with
    | .Assign [tg] e _ => chkA T sc t c tg e
    | _ => false
  | .aug t op c, s => match t with
    | .nm i => match s with
      | .AugAssign (.Name x _) o e _ => o == opX op && T.N[i]? == some x && locB sc x && chkE T sc c e
      | _ => false
    | .sub a b => match s with
      | .AugAssign (.Subscript x y _) o e _ => o == opX op && nslc y && chkE T sc a x && chkE T sc b y && chkE T sc c e
      | _ => false
    | .tp _ => true
    | .fld _ _ => false
  | .ret c, s => match s with
    | .Return (some e) _ => chkE T sc c e
    | .Return none _ => match c with
      | .cst .non => true
      | _ => false
    | _ => false
  | .ife c a b, s => match s with
    | .If e x y _ => chkE T sc c e && (chkSs T tr sc a x && chkSs T tr sc b y)
    | _ => false
  | .whl c b, s => match s with
    | .While e x [] _ => chkE T sc c e && chkSs T tr sc b x
    | _ => false
  | .for_ t it b, s => match s with
    | .For tg e x [] _ => nset e && chkT T.N (locB sc) t tg && chkI T sc it tg e && chkSs T tr sc b x
    | _ => false
  | .raise k c, s => match s with
    | .Raise (some (.Call (.Name nm _) [e] [] _)) none _ => T.cls.contains k && nm == excC k && glB sc nm && nst e && chkE T sc c e
    | _ => false
  | .tryc i cs _ b hd, s => match s with
    | .Try x [.ExceptHandler (some (.Tuple [.Name y1 _, .Name y2 _, .Name y3 _] _ _)) (some n) (b0 :: su) _] [] [] _ =>
      T.N[i]? == some n && sc.names.lookup n == some .local && (tr.any fun t => t.1 == (y1, y2, y3) && t.2 == cs) && glB sc y1 && glB sc y2 && glB sc y3 && plainN y1 && plainN y2 && plainN y3
        && chkB1 T sc b x && chkH T sc hd (b0 :: su)
    | _ => false
  | .cont, s => match s with
    | .Continue _ => true
    | _ => false
  | .brk, s => match s with
    | .Break _ => true
    | _ => false
  | .pass, s => match s with
    | .Pass _ => true
    | _ => false
  | .kcS _ k, s => chkS T tr sc k s
  | .say k, s => chkSay T sc k s
def chkSs (T : Tab) (tr : List Tri) (sc : Scope) : CSs → List Stmt → Bool
  | .nil, l => l.isEmpty
  | .cons c cs, l => match l with
    | s :: l => chkS T tr sc c s && chkSs T tr sc cs l
    | [] => false
end

/-- what a def's body has -/
structure OkS (T : Tab) (tr : List Tri) (G : Ctx) (X : Cx) (E : XK) : Prop where
  o : Ok T G X
  fn : ∀ x, X.fn x = true
  lets : Lets X E
  tk : Takes X fun cls d _ H => E cls d H
  po : PassesOwn (model X.prog X.w) X.A X.env X.xe
  stk : X.stack = X.env :: X.outer
  fr : X.env.frame = some X.env.locals
  kd : X.env.scope.kind = .function
  room : Room 0 X.A
  cls : ∀ c, T.cls.contains c = true → ∃ ql fI, PySem.OwX.OwTxt X.K X.mg (excC c) (excF c) ql (He.ga X.K (excC c)) fI
  tri : ∀ t ∈ tr, ∃ c1 c2 c3, X.mg t.1.1 = some (.ref c1) ∧ X.mg t.1.2.1 = some (.ref c2) ∧ X.mg t.1.2.2 = some (.ref c3) ∧ ∀ c, t.2.contains c = true → PySem.W.exmAny X.K (.ref (He.ga X.K (excC c))) [.ref c1, .ref c2, .ref c3] = some true
  sd : ∀ (i : Nat) (x : Str), T.sds.contains (i, x) = true → ∃ (k : Nat) (g : Addr) (fd : FuncData) (Ng : List Str) (sg : Scope) (cdg : Value) (a : Str) (h : (PH → R PV) → PH → R PV), SaidG X.prog X.w X.K X.mg X.base (k + 2) g fd Ng x sg cdg a h ∧ G.saids[i]? = some h ∧ X.mg x = some (.ref g) ∧
    PySem.W.keepIn X.K (.ref g) = true ∧ L2.Binds X.K fd [a] [] ∧ Ng[0]? = some a ∧ Vis sg a ∧ plainN a = true ∧ Room (k + 2) X.A ∧ (∀ c P, PySem.W.tabIn X.K (sT T.me) = some (c, P) → LamX.TabB X.base X.mg c P ∧ X.env.code = .ref c) ∧ X.env.qual ++ ("<lambda>" : Str) = lamQ T.me ∧
    ∀ (A : Around) (outer : List PySem.Env) (s : Shared) (H : Hp) (E : XK) (scope : Scope) (f c' : Addr), Room k (A.deeper (LamX.lamEnv X scope s.heap.objs.size f c')) → A.guards = some [] → Ok T G (LamX.lamCx X A outer s H E scope f c')

section
variable {T : Tab} {tr : List Tri} {G : Ctx} {X : Cx} {E : XK} {sc : Scope}
theorem chkSaid_ok (o : OkS T tr G X E) (hs : X.env.scope = sc) {c : CE} {e : Expr} (h : chkSaid T sc c e = true) : PE X e (RE X G E c) := by
  cases c with
  | said i y ce =>
    unfold chkSaid at h
    dsimp only at h
    split at h
    · rename_i x p body scope lp pos
      simp only [Bool.and_eq_true] at h
      obtain ⟨⟨⟨⟨⟨h1, h2⟩, h3⟩, h4⟩, h5⟩, h6⟩ := h
      have ey := of_decide_eq_true h2
      subst ey hs
      obtain ⟨k, g, fd, Ng, sg, cdg, a, hf, S, hi, hm, hk, hb, hN, hva, hpa, hr, TB, hq, hok⟩ := o.sd i x h1
      refine rd_said S hi (gl_ok h3) hm hk hb hN hva TB hq hr o.o.bx.gd o.lets (LamX.lamS_by h5) (by rfl) (fun q cl pm cv ctv => by rfl) (fun A outer s H E' f c' hr2 hg2 => ?_) (plain_ok h4).1 (plain_ok hpa).1 (plain_ok hpa).2
      have tk : Takes (LamX.lamCx X A outer s H E' scope f c') fun cls d _ H => E' cls d H := takes_of rfl rfl rfl rfl
      exact (chkE_ok ce (hok A outer s H E' scope f c' hr2 hg2) rfl (fun σ => passAt (W := fun cls d _ H => E' cls d H) tk σ) body h6).pe
    · cases h
  | _ => cases h
theorem chkSay_ok (o : OkS T tr G X E) (hs : X.env.scope = sc) {c : CS} {st : Stmt} (h : chkSay T sc c st = true) : PS X st (RS' X G E c) := by
  unfold chkSay at h
  split at h
  · rename_i j mu c
    split at h
    · rename_i n p1 e p2 p3
      simp only [Bool.and_eq_true] at h
      obtain ⟨⟨⟨h1, h2⟩, h3⟩, h4⟩ := h
      have he := chkSaid_ok o hs h4
      have hst := star_cons (es := []) (env := X.env) h3
      exact rs_asg rfl rfl rfl (rd_lst (rl_cons hst he rl_nil)) (rp_nm o.o.bx (by rw [o.o.N]; exact eq_of_beq h1) (loc_ok (by rw [hs]; exact h2)) (.inl (o.fn _)))
    · cases h
  · rename_i j c
    split at h
    · rename_i n p1 nm apos e pos p2
      simp only [Bool.and_eq_true] at h
      obtain ⟨⟨⟨⟨⟨⟨h1, h2⟩, h3⟩, h4⟩, h5⟩, h6⟩, h7⟩ := h
      have he := chkSaid_ok o hs h7
      have hst := star_cons (es := []) (env := X.env) h6
      have hv : PE X (.Name n p1) (RE X G E (.var j)) := rd_var (by rw [o.o.N]; exact eq_of_beq h2) (vis_ok (by rw [hs]; exact h3)) (plain_ok h4).1 (plain_ok h4).2
      exact rs_expr rfl (rd_mth o.o.bx (eq_of_beq h1) rfl (by rw [List.all_cons, h6]; rfl) (show 1 < 30 by decide) h5 hv (rl_cons hst he rl_nil))
    · cases h
  · cases h
theorem Ok.inTry (o : Ok T G X) (pn : List (Addr × Obj)) (xe : Value → Shared → Prop) : Ok T G (X.tr pn xe) :=
  ⟨⟨o.bx.calm, o.bx.nd, o.bx.un, o.bx.gd⟩, o.N, o.rep, o.rpl, o.upr, o.blt, o.fns, o.glb, o.glbL, o.exr, o.isx, o.kw⟩
/-- an assignment, whatever the value is made of -/
theorem rs_asg' {e tg : Expr} {ce : CE} {pos : Pos} {t : Pl} (hn : swapsWith e (some tg) pos.line X.env = pure false) (hst : nst tg = true) (hw : swappedStores [tg] e X.env = pure none) (he : PE X e (RE X G E ce)) (hg : PG X tg (rdPl X.prog X.w X.K E G t)) : PS X (.Assign [tg] e pos) (RS' X G E (.asg t ce)) :=
  PS.imp (ps_asg he hg hn hw (by rw [asg_each hst]; rfl)) fun D σ H ⟨Z, ρ, ph, mm, s, hr, q⟩ => by
    unfold evS at q
    refine ⟨Z, ρ, ph, mm, s, hr, q.on.mono fun x H1 ⟨v, p1, m1, e1, h1, r1, q1⟩ => ⟨Z, ρ, p1, m1, v, s.wk e1.wk, h1, r1, q1.only (stP_flow t v ρ p1)⟩⟩
mutual
theorem chkP_ok (o : Ok T G X) (hfn : ∀ x, X.fn x = true) (hs : X.env.scope = sc) (hl : Lets X E) : ∀ (t : Pl) (e : Expr), chkP T sc t e = true → PG X e (rdPl X.prog X.w X.K E G t)
  | .nm i, e, h => by
    unfold chkP at h
    split at h
    · rename_i x p
      obtain ⟨h1, h2⟩ := Bool.and_eq_true_iff.mp h
      exact rp_nm o.bx (by rw [o.N]; exact eq_of_beq h1) (loc_ok (by rw [hs]; exact h2)) (.inl (hfn x))
    · cases h
  | .tp ts, e, h => by
    unfold chkP at h
    split at h
    · rename_i es k p
      obtain ⟨h1, h2⟩ := Bool.and_eq_true_iff.mp h
      obtain ⟨h3, h4⟩ := Bool.and_eq_true_iff.mp h1
      exact rp_tup o.bx h3 (eq_of_beq h4) (chkPs_ok o hfn hs hl ts es h3 h2)
    · cases h
  | .sub a b, e, h => by
    unfold chkP at h
    split at h
    · rename_i x y p
      simp only [Bool.and_eq_true] at h
      obtain ⟨⟨h1, h2⟩, h3⟩ := h
      exact rp_sub o.bx h1 (chkE_ok a o hs hl x h2).pe (chkE_ok b o hs hl y h3).pe
    · cases h
  | .fld _ _, e, h => by unfold chkP at h; cases h
theorem chkPs_ok (o : Ok T G X) (hfn : ∀ x, X.fn x = true) (hs : X.env.scope = sc) (hl : Lets X E) : ∀ (t : List Pl) (e : List Expr), (e.all nst) = true → chkPs T sc t e = true → PGs X e (rdPls X.prog X.w X.K E G t)
  | [], e, _, h => by
    unfold chkPs at h
    rw [List.isEmpty_iff.mp h]
    exact rps_nil
  | t :: ts, e, hn, h => by
    unfold chkPs at h
    split at h
    · rename_i x xs
      obtain ⟨h1, h2⟩ := Bool.and_eq_true_iff.mp h
      rw [List.all_cons, Bool.and_eq_true] at hn
      exact rps_cons hn.1 (chkP_ok o hfn hs hl t x h1) (chkPs_ok o hfn hs hl ts xs hn.2 h2)
    · cases h
end
theorem pair_ok {N : List Str} : ∀ {xs : List Str} {is : List Nat}, pairB N sc xs is = true → Paired (fun x i => N[i]? = some x ∧ sc.names.lookup x = some .local) xs is
  | [], [], _ => .nil
  | [], _ :: _, h => by cases h
  | _ :: _, [], h => by cases h
  | x :: xs, i :: is, h => by
    unfold pairB at h
    simp only [Bool.and_eq_true] at h
    obtain ⟨⟨h1, h2⟩, h3⟩ := h
    exact .cons ⟨eq_of_beq h1, eq_of_beq h2⟩ (pair_ok h3)
theorem chkA_ok (o : OkS T tr G X E) (hs : X.env.scope = sc) {t : Pl} {c : CE} {tg e : Expr} {pos : Pos} (h : chkA T sc t c tg e = true) : PS X (.Assign [tg] e pos) (RS' X G E (.asg t c)) := by
  unfold chkA at h
  have hsw : swapsWith e (some tg) pos.line X.env = pure (swB X.env.scope e tg) := sw_ok o.kd
  rw [hs] at hsw
  split at h
  · rename_i eb
    rw [eb] at hsw
    split at h
    · rename_i i y py elt tg' iter ifs scope p
      simp only [Bool.and_eq_true] at h
      obtain ⟨⟨⟨h1, h2⟩, h0⟩, h3⟩ := h
      cases c with
      | lc mu own t it c x =>
        unfold chkE at h3
        simp only [Bool.and_eq_true] at h3
        obtain ⟨⟨⟨⟨⟨h4, h5⟩, h6⟩, h7⟩, h8⟩, h9, h10⟩ := h3
        subst hs
        obtain ⟨bo, eo⟩ := blk_ok h4
        rw [← o.o.N] at bo eo
        have hown : ∀ i ∈ tgIx t, i ∈ (ownP X.N own).map (·.2) := fun i hi => by
          rw [eo]
          exact List.contains_iff_mem.mp (List.all_eq_true.mp h5 i hi)
        rw [← eo]
        exact rs_setLc o.o.bx (by rw [o.o.N]; exact eq_of_beq h1) (eq_of_beq h2) hsw (chkI_ok it o.o rfl o.lets tg' iter h8) bo hown
          (fun s H C cl fp => chkT_ok (X := X.blk s H scope (compEnvC scope cl C X.env) fp) (T := T) ⟨o.o.bx.calm, o.o.bx.nd, o.o.bx.un, o.o.bx.gd⟩ o.o.N (fun x hx => stK_ok hx) t tg' h6)
          (fun s H C cl fp => tests_ok (f := chkE T (relS scope X.env.scope) c) (fun y hy => chkE_ok c (o.o.blk s H scope (compEnvC scope cl C X.env) fp) rfl (lets0 _) y hy) h9)
          (fun s H C cl fp => (chkE_ok x (o.o.blk s H scope (compEnvC scope cl C X.env) fp) rfl (lets0 _) elt h10).pe) (fold_ok h7)
      | _ => cases h0
    · rename_i i y py kx vx tg' iter ifs scope p
      simp only [Bool.and_eq_true] at h
      obtain ⟨⟨⟨h1, h2⟩, h0⟩, h3⟩ := h
      cases c with
      | dc mu tk own t it c k x =>
        unfold chkE at h3
        simp only [Bool.and_eq_true] at h3
        obtain ⟨⟨⟨⟨⟨⟨htk, h4⟩, h5⟩, h6⟩, h7⟩, h8⟩, h9, h10, h11⟩ := h3
        have htk := eq_of_beq htk
        subst htk
        subst hs
        obtain ⟨bo, eo⟩ := blk_ok h4
        rw [← o.o.N] at bo eo
        have hown : ∀ i ∈ tgIx t, i ∈ (ownP X.N own).map (·.2) := fun i hi => by
          rw [eo]
          exact List.contains_iff_mem.mp (List.all_eq_true.mp h5 i hi)
        rw [← eo]
        exact rs_setDc o.o.bx (by rw [o.o.N]; exact eq_of_beq h1) (eq_of_beq h2) hsw (chkI_ok it o.o rfl o.lets tg' iter h8) bo hown
          (fun s H C cl fp => chkT_ok (X := X.blk s H scope (compEnvC scope cl C X.env) fp) (T := T) ⟨o.o.bx.calm, o.o.bx.nd, o.o.bx.un, o.o.bx.gd⟩ o.o.N (fun x hx => stK_ok hx) t tg' h6)
          (fun s H C cl fp => tests_ok (f := chkE T (relS scope X.env.scope) c) (fun y hy => chkE_ok c (o.o.blk s H scope (compEnvC scope cl C X.env) fp) rfl (lets0 _) y hy) h9)
          (fun s H C cl fp => (chkE_ok k (o.o.blk s H scope (compEnvC scope cl C X.env) fp) rfl (lets0 _) kx h10).pe)
          (fun s H C cl fp => (chkE_ok x (o.o.blk s H scope (compEnvC scope cl C X.env) fp) rfl (lets0 _) vx h11).pe) (fold_ok h7)
      | _ => cases h0
    · cases h
  · rename_i eb
    rw [eb] at hsw
    simp only [Bool.and_eq_true] at h
    obtain ⟨⟨h1, h2⟩, h3⟩ := h
    have he := (chkE_ok c o.o hs o.lets e h2).pe
    split at h3
    · cases h3
    · rename_i ew
      exact rs_asg' hsw h1 (swp_ok o.kd (by rw [hs]; exact ew)) he (chkP_ok o.o o.fn hs o.lets t tg h3)
    · rename_i names ew
      split at h3
      · rename_i ps ts k p
        split at h3
        · rename_i is eis
          simp only [Bool.and_eq_true] at h3
          obtain ⟨⟨⟨h4, h5⟩, h6⟩, h7⟩ := h3
          rw [nms_ok eis]
          have hp := pair_ok h6
          rw [← hs, ← o.o.N] at hp
          exact rs_swp o.o.bx h7 (swp_ok o.kd (by rw [hs]; exact ew)) (of_decide_eq_true h4) (eq_of_beq h5) hp he
        · cases h3
      · cases h3
theorem mildL_calm {E0 E1 : XK} : True := trivial
/-- the call within a try -/
theorem chkCall_ok (o : Ok T G X) (hs : X.env.scope = sc) {W : WX} (tk : Takes X W) {c : CE} {e : Expr} (h : chkB1.callB T sc c e = true) : PE X e (rdEs X.prog X.w X.K G (WE W) c) ∧ ncomp e = true := by
  unfold chkB1.callB at h
  split at h
  · rename_i i es x p1 l p2
    split at h
    · rename_i y n en
      simp only [Bool.and_eq_true] at h
      obtain ⟨⟨⟨⟨⟨h1, h2⟩, h3⟩, h4⟩, h5⟩, h6⟩ := h
      have e1 := eq_of_beq h1
      subst e1 hs
      obtain ⟨k, f, fd, ps, g, F, hh, hi, hr, hm, hk, hb⟩ := o.fns i x n en
      refine ⟨?_, rfl⟩
      cases l with
      | nil =>
        cases es with
        | nil => exact rd_callS0 F hh hi hr o.bx.gd (gl_ok h2) hm hk hb tk (plain_ok h3).1
        | cons c cs => unfold chkL at h5; cases h5
      | cons a l =>
        have h4' := h4
        rw [List.all_cons, Bool.and_eq_true] at h4'
        exact rd_callS F hh hi hr o.bx.gd (gl_ok h2) hm hk hb tk (chkL_ok (E := F0) es o rfl (lets0 X) _ h4 h5) h6 (plain_ok h3).1 (star_cons h4'.1) (back_any h4'.2)
    · cases h
  · cases h
theorem chkB1_ok (o : Ok T G X) (hs : X.env.scope = sc) (hk : X.env.scope.kind = .function) (hfn : ∀ x, X.fn x = true) {W : WX} (tk : Takes X W) {b : CSs} {l : List Stmt} (h : chkB1 T sc b l = true) : PSs X l (rdSsW X.prog X.w X.K G W b) := by
  unfold chkB1 at h
  split at h
  · rename_i j c n q e p
    simp only [Bool.and_eq_true] at h
    obtain ⟨⟨⟨h1, h2⟩, h3⟩, h4⟩ := h
    obtain ⟨q1, q2⟩ := chkCall_ok o hs tk h4
    exact rsW_asg o.bx.nd q2 (swp_ok hk (by rw [hs]; exact eq_of_beq h3)) q1 (by rw [o.N]; exact eq_of_beq h1) (loc_ok (by rw [hs]; exact h2)) (.inl (hfn n))
  · rename_i c e p
    obtain ⟨q1, q2⟩ := chkCall_ok o hs tk h
    exact rsW_expr q2 q1
  · cases h
/-- the suite: name = error -/
theorem rs_keep {j k : Nat} {n m : Str} {p1 p2 p3 : Pos} (hN : X.N.Nodup) (hj : X.N[j]? = some n) (hx : Loc X.env.scope n) (hf : X.fn n = true) (hk : X.N[k]? = some m) (hv : Vis X.env.scope m) (hd : (m == ("__debug__" : Str)) = false) (hcd : (m == ("__classdict__" : Str)) = false)
    (hw : swappedStores [.Name n p1] (.Name m p2) X.env = pure none) : PSs X [.Assign [.Name n p1] (.Name m p2) p3] (rdSs X.prog X.w X.K E G (.cons (.asg (.nm j) (.var k)) .nil)) :=
  PSs.imp (pss_cons (ps_asg (rd_var (G := G) (E := E) hk hv hd hcd) (pg_name hN hj hx (.inl hf)) (by rfl) hw (by rw [asg_each (by rfl)]; rfl)) pss_nil) fun D σ H ⟨Z, ρ, ph, mm, s, hr, q⟩ => by
    have q0 := q.seqN
    unfold evS at q0
    refine ⟨Z, ρ, ph, mm, s, hr, q0.on.mono fun x H1 ⟨v, p1, m1, e1, h1, r1, q1⟩ => ?_⟩
    unfold stP at q1
    split at q1
    · exact q1 _ H1 m1 (Ext.refl _ _) h1 ((s.wk e1.wk).set r1)
    · exact q1.elim
theorem chkH_ok (o : OkS T tr G X E) (hs : X.env.scope = sc) {hd : CSs} {l : List Stmt} (h : chkH T sc hd l = true) (a : Addr) (pn : List (Addr × Obj)) : PSs (CxSu X a pn) l (rdSs X.prog X.w X.K E G hd) := by
  unfold chkH at h
  split at h
  · rename_i j k n q m q2 q3
    simp only [Bool.and_eq_true] at h
    obtain ⟨⟨⟨⟨⟨k1, k2⟩, k3⟩, k4⟩, k5⟩, k6⟩ := h
    subst hs
    exact rs_keep (X := CxSu X a pn) o.o.bx.nd (by show X.N[_]? = _; rw [o.o.N]; exact eq_of_beq k1) (loc_ok k2) (o.fn _) (by show X.N[_]? = _; rw [o.o.N]; exact eq_of_beq k3) (vis_ok k4) (plain_ok k5).1 (plain_ok k5).2 (swp_ok o.kd rfl)
  · cases h
mutual
theorem chkS_ok (o : OkS T tr G X E) (hs : X.env.scope = sc) : ∀ (c : CS) (s : Stmt), chkS T tr sc c s = true → PS X s (RS' X G E c)
  | .expr c, s, h => by
    unfold chkS at h
    split at h
    · obtain ⟨h1, h2⟩ := Bool.and_eq_true_iff.mp h
      exact rs_expr h1 (chkE_ok c o.o hs o.lets _ h2).pe
    · cases h
  | .asg t c, s, h => by
    unfold chkS at h
    split at h
    · exact chkA_ok o hs h
    · cases h
  | .aug t op c, s, h => by
    unfold chkS at h
    split at h
    · split at h
      · rename_i i x p1 oo e p2
        simp only [Bool.and_eq_true] at h
        obtain ⟨⟨⟨h1, h2⟩, h3⟩, h4⟩ := h
        have e1 := eq_of_beq h1
        subst e1
        exact rs_augN o.o.bx (by rw [o.o.N]; exact eq_of_beq h2) (loc_ok (by rw [hs]; exact h3)) (.inl (o.fn _)) (chkE_ok c o.o hs o.lets e h4).pe
      · cases h
    · rename_i a b
      split at h
      · rename_i x y p1 oo e p2
        simp only [Bool.and_eq_true] at h
        obtain ⟨⟨⟨⟨h1, h2⟩, h3⟩, h4⟩, h5⟩ := h
        have e1 := eq_of_beq h1
        subst e1
        exact rs_augS o.o.bx h2 (chkE_ok a o.o hs o.lets x h3).pe (chkE_ok b o.o hs o.lets y h4).pe (chkE_ok c o.o hs o.lets e h5).pe
      · cases h
    · exact ⟨fun pins s σ H D I ⟨Z, ρ, ph, mm, hρ, hr, q⟩ => by unfold evS at q; exact False.elim q⟩
    · cases h
  | .ret c, s, h => by
    unfold chkS at h
    split at h
    · exact rs_ret (chkE_ok c o.o hs o.lets _ h).pe
    · split at h
      · exact rs_retN
      · cases h
    · cases h
  | .ife c a b, s, h => by
    unfold chkS at h
    split at h
    · simp only [Bool.and_eq_true] at h
      obtain ⟨h1, h2, h3⟩ := h
      exact rs_if (chkE_ok c o.o hs o.lets _ h1).pt (chkSs_ok o hs a _ h2) (chkSs_ok o hs b _ h3)
    · cases h
  | .whl c b, s, h => by
    unfold chkS at h
    split at h
    · obtain ⟨h1, h2⟩ := Bool.and_eq_true_iff.mp h
      exact rs_while o.o.bx o.po (chkE_ok c o.o hs o.lets _ h1).pt (chkSs_ok o hs b _ h2)
    · cases h
  | .for_ t it b, s, h => by
    unfold chkS at h
    split at h
    · rename_i tg e x p
      simp only [Bool.and_eq_true] at h
      obtain ⟨⟨⟨h1, h2⟩, h3⟩, h4⟩ := h
      exact rs_for o.o.bx o.po h1 (chkI_ok it o.o hs o.lets tg e h3) (chkT_ok o.o.bx o.o.N (fun y hy => ⟨loc_ok (by rw [hs]; exact hy), .inl (o.fn y)⟩) t tg h2) (chkSs_ok o hs b x h4)
    · cases h
  | .raise k c, s, h => by
    unfold chkS at h
    split at h
    · rename_i nm p1 e p2 p3
      simp only [Bool.and_eq_true] at h
      obtain ⟨⟨⟨⟨h1, h2⟩, h3⟩, h4⟩, h5⟩ := h
      have e2 := eq_of_beq h2
      subst e2 hs
      obtain ⟨ql, fI, O⟩ := o.cls k h1
      exact rs_raise o.o.bx.calm O rfl o.room o.tk (chkE_ok c o.o rfl o.lets e h5).pe (gl_ok h3) (star_cons h4) (back_any (es := []) rfl)
    · cases h
  | .tryc i cs kk b hd, s, h => by
    unfold chkS at h
    split at h
    · rename_i x y1 p1 y2 p2 y3 p3 k4 p4 n b0 su p5 p6
      simp only [Bool.and_eq_true] at h
      obtain ⟨⟨⟨⟨⟨⟨⟨⟨⟨⟨h1, h2⟩, h3⟩, h4⟩, h5⟩, h6⟩, h7⟩, h8⟩, h9⟩, h10⟩, h11⟩ := h
      obtain ⟨t, ht, h12⟩ := List.any_eq_true.mp h3
      obtain ⟨h13, h14⟩ := Bool.and_eq_true_iff.mp h12
      have e13 := eq_of_beq h13
      have e14 := eq_of_beq h14
      obtain ⟨c1, c2, c3, g1, g2, g3, ga⟩ := o.tri t ht
      rw [e13] at g1 g2 g3
      rw [e14] at ga
      subst hs
      refine rs_try o.stk o.fr o.o.bx.nd (by rw [o.o.N]; exact eq_of_beq h1) (eq_of_beq h2) (gl_ok h4) g1 (plain_ok h7).1 (gl_ok h5) g2 (plain_ok h8).1 (gl_ok h6) g3 (plain_ok h9).1 ga
        (fun W pn xe tk => chkB1_ok (X := X.tr pn xe) (o.o.inTry pn xe) rfl o.kd o.fn tk h10) fun a pn => ?_
      exact chkH_ok o rfl h11 a pn
    · cases h
  | .cont, s, h => by
    unfold chkS at h
    split at h
    · exact rs_cont
    · cases h
  | .brk, s, h => by
    unfold chkS at h
    split at h
    · exact rs_brk
    · cases h
  | .pass, s, h => by
    unfold chkS at h
    split at h
    · exact rs_pass
    · cases h
  | .kcS x k, s, h => by
    unfold chkS at h
    exact ps_kc (chkS_ok o hs k s h)
  | .say k, s, h => by
    unfold chkS at h
    exact PS.imp (chkSay_ok o hs h) fun D σ H ⟨Z, ρ, ph, mm, sr, hr, q⟩ => ⟨Z, ρ, ph, mm, sr, hr, by unfold evS at q; exact q⟩
theorem chkSs_ok (o : OkS T tr G X E) (hs : X.env.scope = sc) : ∀ (c : CSs) (s : List Stmt), chkSs T tr sc c s = true → PSs X s (RSs X G E c)
  | .nil, s, h => by
    unfold chkSs at h
    rw [List.isEmpty_iff.mp h]
    exact rss_nil
  | .cons c cs, s, h => by
    unfold chkSs at h
    split at h
    · obtain ⟨h1, h2⟩ := Bool.and_eq_true_iff.mp h
      exact rss_cons (chkS_ok o hs c _ h1) (chkSs_ok o hs cs _ h2)
    · cases h
end
end
end Ev
end
section
set_option maxRecDepth 100000
/-! EvL1: the row's end, from the law's promise by the evaluator. -/
namespace Ev
open PySem PySem.Spec PyProof.Rows L2

/-- the law's def called by the row, the script tracked as H says -/
theorem core_call {P : Program} {w : World} {K : PySem.W.Frag} {mg mb : Str → Option Value} {k : Nat} {fa a : Addr} {fd : FuncData} {x : Str} {g : F1} {s1 : Shared} {vs : List Value} {H : Hp}
    (KX : K.In s1.heap) (hns : s1.heap.Ns mainGlobals mg) (hb : s1.heap.Ns builtinsNs mb) (hbb : ∀ x : Str, x ≠ "__name__" → mb x = bootBuiltins x) (hlim : s1.heap.NoLimit) (hg : s1.gens = #[])
    (ha : s1.heap.get? a = some { cls := .type "list", data := .seq vs.toArray }) (hr : Room k callerA)
    (F : ∀ base : Heap, K.In base → base.Ns mainGlobals mg → FnG P w K mg base k fa fd [x] g) (hbind : ∀ (s : Shared) (u : Value), BindsTo s fd ⟨[u], []⟩ [(x, u)])
    (hA : ∀ b u, H b = some u → b = a ∧ K.lookup a = none ∧ ∃ ob xs, u = .frz ob (.lst xs)) (hok : HOk P w H s1.heap)
    (hsp : spG P w K [x].length g [.ref a] H (fun v _ => v = .bl true) fun _ _ _ => False) :
    codeAny (model P w) callerA (.call (.ref fa) ⟨[.ref a], []⟩) (fun r s' => r = .ok (.ret (.bool true)) ∧ OldK s1.heap s'.heap ∧ s'.os = s1.os ∧ AllBare s'.gens) s1 := by
  have dn : ∀ {b : Addr} {o : Obj} {es : Array DictEntry} {ep : Nat}, s1.heap.get? b = some o → o.data = .dict es ep → H b = none := by
    intro b o es ep e d
    rcases q : H b with _ | u
    · rfl
    · obtain ⟨e1, _, _⟩ := hA b u q
      rw [e1, ha] at e
      cases e; cases d
  have nsB : ∀ {b : Addr} {m : Str → Option Value}, s1.heap.Ns b m → (hidT s1.heap H).Ns b m := by
    rintro b m ⟨o, es, ep, e, d, r⟩
    exact ⟨o, es, ep, hidT_get e (dn e d), d, r⟩
  have kB : K.In (hidT s1.heap H) := by
    intro b o e
    refine hidT_get (KX b o e) ?_
    rcases q : H b with _ | u
    · rfl
    · obtain ⟨e1, e2, _⟩ := hA b u q
      rw [e1, e2] at e; cases e
  have md : Mod K mg (hidT s1.heap H) := { kin := kB, glob := nsB hns, blt := ⟨mb, nsB hb, hbb⟩, nolimit := by obtain ⟨mc, h1, h2⟩ := hlim; exact ⟨mc, nsB h1, h2⟩ }
  have ev : Env0 P w K mg (hidT s1.heap H) callerA [] s1 H := { frames := rfl, mod := md, bs := fun b o e => of_hidT e, bsz := Nat.le_of_eq (hidT_size _ _), funs := trivial, frf := fun b z => (nomatch (show b ∈ ([] : List Addr) from z)), hok := hok, bare := .of_eq hg }
  have go := (F _ kB (nsB hns)).run callerA [] s1 H ⟨[.ref a], []⟩ [.ref a] [.ref a] _ _ hr rfl ev (hbind s1 (.ref a)) (.cons rfl .nil) hsp
  refine codeAny_mono go fun r s' h => ?_
  match r, h with
  | .error e, h => obtain ⟨_, _, _, _, _, _, _, _, _, _, _, _, z⟩ := h; exact False.elim z
  | .ok .next, h => exact False.elim h
  | .ok .brk, h => exact False.elim h
  | .ok .cont, h => exact False.elim h
  | .ok (.ret u), h =>
    obtain ⟨v, H2, os2, br2, un2, ok2, rv2, q2⟩ := h
    have q3 : v = .bl true := q2
    subst q3
    obtain rfl : u = Value.bool true := rv2
    refine ⟨rfl, OldK.of_keep fun b o e => ?_, os2, br2⟩
    rcases q : H b with _ | u
    · exact un2.keep b o e q (fun z => nomatch (show b ∈ ([] : List Addr) from z)) (by simp)
    · obtain ⟨_, _, ob, xs, e3⟩ := hA b u q
      subst e3
      have f1 := (hok b _ q).1
      have f2 := (ok2 b _ (un2.frzs b ob _ q)).1
      rw [e] at f1
      cases f1; exact f2
/-- from the evaluator's promise: whatever the script, True -/
theorem law_callG {P : Program} {w : World} {K : PySem.W.Frag} {mg mb : Str → Option Value} {k : Nat} {fa a : Addr} {fd : FuncData} {x : Str} {g : F1} {s1 : Shared} {vs : List Value} {ns : List Int}
    (KX : K.In s1.heap) (hns : s1.heap.Ns mainGlobals mg) (hb : s1.heap.Ns builtinsNs mb) (hbb : ∀ x : Str, x ≠ "__name__" → mb x = bootBuiltins x) (hlim : s1.heap.NoLimit) (hg : s1.gens = #[])
    (ha : s1.heap.get? a = some { cls := .type "list", data := .seq vs.toArray }) (hi : IntsAre vs ns) (hl : ns.length ≤ sizeLine) (hr : Room k callerA)
    (F : ∀ base : Heap, K.In base → base.Ns mainGlobals mg → FnG P w K mg base k fa fd [x] g) (hbind : ∀ (s : Shared) (u : Value), BindsTo s fd ⟨[u], []⟩ [(x, u)])
    (hgood : ∃ ph, g [.fls (ns.map PV.int)] [] = .ok (.bl true) ph) :
    codeAny (model P w) callerA (.call (.ref fa) ⟨[.ref a], []⟩) (fun r s' => r = .ok (.ret (.bool true)) ∧ OldK s1.heap s'.heap ∧ s'.os = s1.os ∧ AllBare s'.gens) s1 := by
  have rv := vals_ints hi
  obtain ⟨ph, eg⟩ := hgood
  have lst : ∀ (H : Hp) (l : List Int), Rps P w K (fun _ => False) H [] (l.map PV.int) (l.map V.int) := by
    intro H l
    induction l with
    | nil => exact .nil
    | cons i r ih => exact .cons (.int i) ih
  have sp : ∀ H : Hp, Rp P w K (fun _ => False) H [] (.fls (ns.map PV.int)) (.ref a) → spG P w K [x].length g [.ref a] H (fun v _ => v = .bl true) fun _ _ _ => False := by
    intro H r
    refine ⟨rfl, fun _ => False, [], [], [.fls (ns.map PV.int)], HRp.nil fun _ z => z.elim, .cons r .nil, ?_⟩
    rw [eg]
    exact fun y H' mm' _ _ ry => ry.bl_
  rcases hk : K.lookup a with _ | o
  · refine core_call (H := fun b => if b = a then some (.frz { cls := .type "list", data := .seq vs.toArray } (.lst (ns.map V.int))) else none) KX hns hb hbb hlim hg ha hr F hbind (fun b u z => ?_) (fun b u z => ?_) (sp _ (.fls (.inr ⟨_, if_pos rfl⟩) ⟨by simp, fun z => z⟩ (lst _ ns)))
    · by_cases hb : b = a
      · rw [if_pos hb] at z; cases z
        exact ⟨hb, hk, _, _, rfl⟩
      · rw [if_neg hb] at z; cases z
    · dsimp only at z
      by_cases hb : b = a
      · rw [if_pos hb] at z; cases z
        subst hb
        exact ⟨ha, by rw [List.length_map]; exact hl, vs, _, rv, ha⟩
      · rw [if_neg hb] at z; cases z
  · have e := KX a o hk
    rw [ha] at e
    cases e
    have hlen := hi.length
    exact core_call (H := fun _ => none) KX hns hb hbb hlim hg ha hr F hbind (fun b u z => by cases (show (none : Option HO) = some u from z)) (fun b u z => by cases (show (none : Option HO) = some u from z))
      (sp _ (.flsK ⟨_, vs.toArray, _, hk, rfl, rfl, rfl, by rw [List.size_toArray, hlen]; exact hl, by simpa using rv⟩ (lst _ ns)))
/-- the row's goal -/
theorem walk_ofG {l : PySem.W.OpenLaw} {n k : Nat} {q : Program} {loose : List Str} {XP : (Str → Option Value) → Heap → Prop} {YP : World → Heap → Prop} {d : DefRec} {x : Str}
    (hn : l.most = some n) (hn2 : n ≤ sizeLine) (hdf : d.params.defaults = []) (hr : Room k callerA)
    (F : ∀ (w : World) (mg : Str → Option Value) (fa : Addr) (h : Heap), YP w h → h.Ns mainGlobals mg → mg d.name = some (.ref fa) →
      ∃ (K : PySem.W.Frag) (fd : FuncData) (g : F1), K.In h ∧ (∀ (s : Shared) (u : Value), BindsTo s fd ⟨[u], []⟩ [(x, u)]) ∧ (∀ ns : List Int, ns.length ≤ n → ∃ ph, g [.fls (ns.map PV.int)] [] = .ok (.bl true) ph) ∧
        ∀ base : Heap, K.In base → base.Ns mainGlobals mg → FnG l.prog w K mg base k fa fd [x] g) :
    PySem.W.WalkO q loose XP YP l.row.toRowW d [] (fun f vs => PySem.call f vs) := by
  refine Att.attach_call hn hdf fun w s0 s1 mg mb fa o pm cd doc a vs ns G Y ho hd hcd hmg hobj hints hlen hg => ?_
  obtain ⟨K, fd, g, KX, hb, hgood, hF⟩ := F w mg fa _ Y G.T.g hmg
  exact law_callG KX G.T.g G.T.b G.T.builtins G.T.nolimit hg hobj hints (Nat.le_trans hlen hn2) hr hF hb (hgood ns hlen)
end Ev
end
section
set_option maxRecDepth 100000
/-! EvL2: what the head tells: constants, error classes, defs. -/
namespace Ev
open PySem PySem.Spec PyProof.Rows L2

/-! ### constants of the top -/
mutual
/-- the value u, of the written part, stands for v -/
def kvB (K : PySem.W.Frag) : PV → Value → Bool
  | .non, u => match u with
    | .none => true
    | _ => false
  | .bl b, u => match u with
    | .bool c => b == c
    | _ => false
  | .int i, u => match u with
    | .int j _ => i == j
    | _ => false
  | .str x, u => match u with
    | .str z _ => z.cps.toList == x
    | _ => false
  | .ftp xs, u => match u with
    | .ref a => match K.lookup a with
      | some ⟨.type c, _, .seq its _, _⟩ => c == "tuple" && decide (its.size ≤ sizeLine) && kvsB K xs its.toList
      | _ => false
    | _ => false
  | .tup _, _ => false
  | .lst _, _ => false
  | .fls _, _ => false
  | .dct _ _, _ => false
  | .ref _, _ => false
  | .exc _ _, _ => false
  | .fdc _, _ => false
def kvsB (K : PySem.W.Frag) : List PV → List Value → Bool
  | [], us => us.isEmpty
  | x :: xs, us => match us with
    | u :: us => kvB K x u && kvsB K xs us
    | [] => false
end
mutual
theorem kvB_ok {P : Program} {w : World} {K : PySem.W.Frag} : ∀ {v : PV} {u : Value}, kvB K v u = true → ∃ y, RelV y u ∧ ∀ Z H mm, Rp P w K Z H mm v y
  | .non, u, h => by
    unfold kvB at h
    split at h
    · exact ⟨.non, rfl, fun _ _ _ => .non⟩
    · cases h
  | .bl b, u, h => by
    unfold kvB at h
    split at h
    · have e := eq_of_beq h
      subst e
      exact ⟨.bl _, rfl, fun _ _ _ => .bl _⟩
    · cases h
  | .int i, u, h => by
    unfold kvB at h
    split at h
    · have e := eq_of_beq h
      subst e
      exact ⟨.int _, ⟨_, rfl⟩, fun _ _ _ => .int _⟩
    · cases h
  | .str x, u, h => by
    unfold kvB at h
    split at h
    · rename_i z t
      have e : z.cps.toList = x := eq_of_beq h
      exact ⟨.str (sT x), ⟨t, by rw [← e, sT_back]⟩, fun _ _ _ => .str _⟩
    · cases h
  | .ftp xs, u, h => by
    unfold kvB at h
    split at h
    · rename_i a
      split at h
      · rename_i c d its n sl e
        simp only [Bool.and_eq_true] at h
        obtain ⟨⟨h1, h2⟩, h3⟩ := h
        obtain ⟨ys, r, q⟩ := kvsB_ok (P := P) (w := w) h3
        exact ⟨.ref a, rfl, fun Z H mm => .tupK ⟨_, its, n, e, congrArg Value.type (eq_of_beq h1), rfl, of_decide_eq_true h2, r⟩ (q Z H mm)⟩
      · cases h
    · cases h
  | .tup _, _, h => by unfold kvB at h; cases h
  | .lst _, _, h => by unfold kvB at h; cases h
  | .fls _, _, h => by unfold kvB at h; cases h
  | .dct _ _, _, h => by unfold kvB at h; cases h
  | .ref _, _, h => by unfold kvB at h; cases h
  | .exc _ _, _, h => by unfold kvB at h; cases h
  | .fdc _, _, h => by unfold kvB at h; cases h
theorem kvsB_ok {P : Program} {w : World} {K : PySem.W.Frag} : ∀ {v : List PV} {u : List Value}, kvsB K v u = true → ∃ y, Vals y u ∧ ∀ Z H mm, Rps P w K Z H mm v y
  | [], u, h => by
    unfold kvsB at h
    rw [List.isEmpty_iff.mp h]
    exact ⟨[], .nil, fun _ _ _ => .nil⟩
  | x :: xs, u, h => by
    unfold kvsB at h
    split at h
    · rename_i u us
      obtain ⟨h1, h2⟩ := Bool.and_eq_true_iff.mp h
      obtain ⟨y, r, q⟩ := kvB_ok (P := P) (w := w) h1
      obtain ⟨ys, rs, qs⟩ := kvsB_ok (P := P) (w := w) h2
      exact ⟨y :: ys, .cons r rs, fun Z H mm => .cons (q Z H mm) (qs Z H mm)⟩
    · cases h
end
/-- a dict's entries: text keys, values of the written part -/
def entB (K : PySem.W.Frag) : List (PV × PV) → List DictEntry → Bool
  | [], es => es.isEmpty
  | p :: ps, es => match es with
    | e :: es => (match p.1, e.key with
      | .str x, .str z _ => z.cps.toList == x
      | _, _ => false) && kvB K p.2 e.val && entB K ps es
    | [] => false
def fdcB (K : PySem.W.Frag) (a : Addr) (ps : List (PV × PV)) : Bool := match K.lookup a with
  | some ⟨_, _, .dict es _, _⟩ => entB K ps es.toList
  | _ => false
theorem entB_ok {P : Program} {w : World} {K : PySem.W.Frag} : ∀ {ps : List (PV × PV)} {es : List DictEntry}, entB K ps es = true → ∃ (kvs : List (Key × V)) (vs : List (Key × Value)), KV kvs vs ∧ Pairs (mixKind P w) es vs ∧ (∀ Z H mm, Rkv P w K Z H mm ps kvs) ∧ (vs.map (·.1)).map some = ps.map (fun p => kOf p.1) ∧ kvs.length = ps.length
  | [], es, h => by
    unfold entB at h
    rw [List.isEmpty_iff.mp h]
    exact ⟨[], [], .nil, .nil, fun _ _ _ => .nil, rfl, rfl⟩
  | p :: ps, es, h => by
    obtain ⟨k, v⟩ := p
    unfold entB at h
    split at h
    · rename_i e es
      simp only [Bool.and_eq_true] at h
      obtain ⟨⟨h1, h2⟩, h3⟩ := h
      obtain ⟨y, r, q⟩ := kvB_ok (P := P) (w := w) h2
      obtain ⟨kvs, vs, rs, pr, rk, nm, hl⟩ := entB_ok (P := P) (w := w) h3
      split at h1
      · rename_i x z t ez
        have e1 : z.cps.toList = x := eq_of_beq h1
        have e2 : sT x = z := by rw [← e1, sT_back]
        refine ⟨(.inr z, y) :: kvs, (.inr z, e.val) :: vs, .cons ⟨rfl, r⟩ rs, .cons ?_ rfl pr, fun Z H mm => .cons (by rw [← e2]; rfl) (q Z H mm) (rk Z H mm), ?_, by simp [hl]⟩
        · rw [ez]; exact mixKind_str P w z t
        · rw [List.map_cons, List.map_cons, List.map_cons, nm, ← e2]; rfl
      · cases h1
    · cases h
def noTwo : List (Option Key) → Bool
  | [] => true
  | x :: r => (r.all fun y => !decide (y = x)) && noTwo r
theorem noTwo_ok : ∀ {l : List (Option Key)}, noTwo l = true → l.Nodup
  | [], _ => List.nodup_nil
  | x :: r, h => by
    unfold noTwo at h
    obtain ⟨h1, h2⟩ := Bool.and_eq_true_iff.mp h
    exact List.nodup_cons.mpr ⟨fun z => by simpa using List.all_eq_true.mp h1 x z, noTwo_ok h2⟩
theorem nodup_some {α : Type} : ∀ {l : List α}, (l.map some).Nodup → l.Nodup
  | [], _ => List.nodup_nil
  | x :: r, h => by
    rw [List.map_cons, List.nodup_cons] at h
    exact List.nodup_cons.mpr ⟨fun z => h.1 (List.mem_map.mpr ⟨x, z, rfl⟩), nodup_some h.2⟩
/-- a dict of the top -/
theorem fdc_ok {P : Program} {w : World} {K : PySem.W.Frag} {a : Addr} {ps : List (PV × PV)} {es : Array DictEntry} {n : Nat} (D : KDict K w a es n) (h : fdcB K a ps = true) (hn : noTwo (ps.map fun p => kOf p.1) = true) (hl : ps.length ≤ 1000) :
    ∀ Z H mm, Rp P w K Z H mm (.fdc ps) (.ref a) := by
  unfold fdcB at h
  rw [D.at_] at h
  dsimp only at h
  obtain ⟨kvs, vs, rs, pr, rk, nm, hlen⟩ := entB_ok (P := P) (w := w) h
  have hz : kvs.length ≤ sizeLine := by rw [hlen]; exact Nat.le_trans hl (by rw [sizeLine_eq]; decide)
  refine fun Z H mm => .dctK ⟨hz, D.low, vs, rs, fun h X => ?_⟩ (rk Z H mm)
  refine ⟨_, es, n, X _ _ D.at_, ⟨rfl, rfl, rfl⟩, rfl, fun e he => ?_, pr, ?_⟩
  · obtain ⟨x, t, e1, e2⟩ := D.lit.all e (by simpa using he)
    exact ⟨.inr x, by rw [e1]; exact mixKind_str P w x t, e2⟩
  · have q := noTwo_ok hn
    rw [← nm] at q
    exact nodup_some q

/-! ### error classes -/
def clsB (K : PySem.W.Frag) (C : Addr) : Bool := match K.lookup C with
  | some ⟨.type c, _, .cls cd, sl⟩ => (match cd.mro, sl.toList with
    | .ref C' :: bm, [_, _, _, _, some (.builtin n), _] => c == "type" && C' == C && n == "ValueError.__new__" && !cd.hasDel && cd.hasDict && PySem.HandSPX.refsVE bm
    | _, _ => false)
  | _ => false
theorem clsB_ok {K : PySem.W.Frag} {C : Addr} (h : clsB K C = true) : ∃ nm q N bs bm sn sub ab col dd k0 k1 k2 k3 k5, K.lookup C = some (excClassObj nm q C N bs bm true sn sub ab col dd k0 k1 k2 k3 k5 "ValueError.__new__") ∧ PySem.HandSPX.refsVE bm = true := by
  unfold clsB at h
  split at h
  · rename_i c d cd sl e
    split at h
    · rename_i C' bm a0 a1 a2 a3 n a5 hm hs
      simp only [Bool.and_eq_true, beq_iff_eq, Bool.not_eq_true'] at h
      obtain ⟨⟨⟨⟨⟨h1, h2⟩, h3⟩, h4⟩, h5⟩, h6⟩ := h
      obtain ⟨nm, bs, mro, ns, qn, hd, sn, sub, ab, col, del⟩ := cd
      obtain ⟨l⟩ := sl
      dsimp only at hm hs h4 h5
      subst h1 h2 h3 h4 h5 hm hs
      exact ⟨nm, qn, ns, bs, bm, sn, sub, ab, col, d, a0, a1, a2, a3, a5, e, h6⟩
    · cases h
  · cases h
/-- no keyword-only default -/
def kwB (K : PySem.W.Frag) (fI : Addr) : Bool := match K.lookup fI with
  | some ⟨_, _, .func fd, _⟩ => match fd.kwdefaults with
    | .none => true
    | _ => false
  | _ => false
/-- what the written part says of an error class -/
def owB (K : PySem.W.Frag) (C fI : Addr) (fl : Str) : Bool :=
  clsB K C && decide (PySem.W.findIn K (.ref C) "__setattr__" = some (some (.builtin "object.__setattr__"))) && decide (PySem.W.findIn K (.ref C) "__getattribute__" = some (some (.builtin "BaseException.__getattribute__")))
  && decide (PySem.W.findIn K (.ref C) "__getattr__" = some none) && decide (PySem.W.findIn K (.ref C) fl = some none) && decide (PySem.W.findIn K (.ref C) "__init__" = some (some (.ref fI)))
  && decide (PySem.W.typeIn K (.ref fI) = some (.type "function")) && PySem.W.keepIn K (.ref C) && decide (PySem.W.subIn K (.ref C) (.type "BaseException") = some true) && decide (PySem.W.typeIn K (.ref C) = some (.type "type"))
  && PySem.W.hasDictIn K C && decide (PySem.W.exmOne K (.ref C) (.ref C) = some true) && kwB K fI
/-- the text of an error's __init__ -/
structure InitD (d : He.DefD) (fl : Str) : Prop where
  nm : d.name = "__init__"
  pr : ∃ p1 p2, d.params = PySem.OwX.iA fl p1 p2
  bd : ∃ q1 q2 q3 q4, d.body = PySem.OwX.iB fl q1 q2 q3 q4
  sc : d.scope = PySem.OwX.iS fl
  df : d.dfl = []
  kw : d.kwd = []
theorem owB_ok {K : PySem.W.Frag} {mg : Str → Option Value} {d : He.DefD} {nm fl : Str} {C : Addr} {fd : FuncData} (h : owB K C (He.fAd K d.at_) fl = true) (gC : mg nm = some (.ref C)) (D : InitD d fl)
    (F : FunD K d.name d.qual d.params d.body d.scope (d.dvs K) (d.kws K) (He.fAd K d.at_) fd) (f1 : (fl == ("__debug__" : Str)) = false) (f2 : (nm == ("__debug__" : Str)) = false) (f3 : fl = ("reason" : Str) ∨ fl = ("index" : Str) ∨ fl = ("line" : Str)) :
    ∃ ql fI, PySem.OwX.OwTxt K mg nm fl ql C fI := by
  unfold owB at h
  simp only [Bool.and_eq_true, decide_eq_true_eq] at h
  obtain ⟨⟨⟨⟨⟨⟨⟨⟨⟨⟨⟨⟨h1, h2⟩, h3⟩, h4⟩, h5⟩, h6⟩, h7⟩, h8⟩, h9⟩, h10⟩, h11⟩, h12⟩, h13⟩ := h
  refine ⟨d.qual, He.fAd K d.at_, gC, f1, f2, f3, clsB_ok h1, h2, h3, h4, h5, h6, h7, h8, h9, h10, h11, h12, ?_⟩
  obtain ⟨oc, od, dV, kV, doc, pm, an, cdv, ct, osl, e1, lk, hcd, dv, kv⟩ := F.ex
  obtain ⟨p1, p2, e2⟩ := D.pr
  obtain ⟨q1, q2, q3, q4, e3⟩ := D.bd
  have hd : dV = .none := by
    have z : d.dvs K = [] := by unfold He.DefD.dvs; rw [D.df]; rfl
    rw [z] at dv
    rcases dv with ⟨_, e⟩ | ⟨n, _⟩
    · exact e
    · exact absurd rfl n
  have hk : kV = .none := by
    unfold kwB at h13
    rw [lk, e1] at h13
    dsimp only [PySem.W.fnOf] at h13
    split at h13
    · rfl
    · cases h13
  rw [e1, D.nm, e2, e3, D.sc, hd, hk] at lk
  exact ⟨oc, od, doc, pm, an, cdv, ct, osl, p1, p2, q1, q2, q3, q4, lk, hcd⟩
end Ev
end
section
set_option maxRecDepth 100000
/-! EvL3: a def of the text by its code. -/
namespace Ev
open PySem PySem.Spec PyProof.Rows L2

/-- the library's own texts -/
def opsX : Ops := { rep := repX, rpl := rplX, upr := fun x => (Txt.upper (sT x)).cps.toList }
/-- what the head tells of the names that every def may use -/
structure HdOk (K : PySem.W.Frag) (mg : Str → Option Value) (exs isx : List Nat) (tr : List Tri) : Prop where
  blt : ∀ n : Str, n ∈ bltNames → mg n = none
  exr : ∀ c, exs.contains c = true → ExR K (He.ga K (excC c)) (excF c)
  isx : ∀ D, isx.contains D = true → mg (excC D) = some (.ref (He.ga K (excC D))) ∧ ∀ c, exs.contains c = true → PySem.W.kitOne K (.ref (He.ga K (excC c))) (.ref (He.ga K (excC D))) = some (decide (c = D))
  cls : ∀ c, exs.contains c = true → ∃ ql fI, PySem.OwX.OwTxt K mg (excC c) (excF c) ql (He.ga K (excC c)) fI
  tri : ∀ t ∈ tr, ∃ c1 c2 c3, mg t.1.1 = some (.ref c1) ∧ mg t.1.2.1 = some (.ref c2) ∧ mg t.1.2.2 = some (.ref c3) ∧ ∀ c, t.2.contains c = true → PySem.W.exmAny K (.ref (He.ga K (excC c))) [.ref c1, .ref c2, .ref c3] = some true
/-- a callee: its name, its function -/
structure FnF (P : Program) (w : World) (K : PySem.W.Frag) (mg : Str → Option Value) (base : Heap) (k : Nat) (x : Str) (h : F1) : Prop where
  ex : ∃ f fd ps, FnG P w K mg base k f fd ps h ∧ (∀ us ph, us.length ≠ ps.length → h us ph = .stk) ∧ mg x = some (.ref f) ∧ PySem.W.keepIn K (.ref f) = true ∧ Binds K fd ps []
inductive FnsF (P : Program) (w : World) (K : PySem.W.Frag) (mg : Str → Option Value) (base : Heap) (k : Nat) : List (Str × Nat) → List F1 → Prop
  | nil : FnsF P w K mg base k [] []
  | cons {x : Str} {n j : Nat} {h : F1} {r : List (Str × Nat)} {s : List F1} : FnF P w K mg base j x h → j ≤ k → FnsF P w K mg base k r s → FnsF P w K mg base k ((x, n) :: r) (h :: s)
/-- a constant: its name, its value -/
structure GlF (P : Program) (w : World) (K : PySem.W.Frag) (mg : Str → Option Value) (x : Str) (v : PV) : Prop where
  ex : ∃ u y, mg x = some u ∧ RelV y u ∧ ∀ Z H mm, Rp P w K Z H mm v y
inductive GlsF (P : Program) (w : World) (K : PySem.W.Frag) (mg : Str → Option Value) : List Str → List PV → Prop
  | nil : GlsF P w K mg [] []
  | cons {x : Str} {v : PV} {r : List Str} {s : List PV} : GlF P w K mg x v → GlsF P w K mg r s → GlsF P w K mg (x :: r) (v :: s)
section
variable {P : Program} {w : World} {K : PySem.W.Frag} {mg : Str → Option Value} {base : Heap} {k : Nat}
theorem FnsF.get : ∀ {l : List (Str × Nat)} {hs : List F1}, FnsF P w K mg base k l hs → ∀ (i : Nat) (x : Str) (n : Nat), l[i]? = some (x, n) → ∃ j h, hs[i]? = some h ∧ j ≤ k ∧ FnF P w K mg base j x h
  | _, _, .nil, i, x, n, e => by simp at e
  | _, _, .cons f hj r, 0, x, n, e => by
    have e1 := Option.some.inj e
    cases e1
    exact ⟨_, _, rfl, hj, f⟩
  | _, _, .cons f hj r, i + 1, x, n, e => r.get i x n e
theorem GlsF.get : ∀ {l : List Str} {vs : List PV}, GlsF P w K mg l vs → ∀ (i : Nat) (x : Str), l[i]? = some x → ∃ v, vs[i]? = some v ∧ GlF P w K mg x v
  | _, _, .nil, i, x, e => by simp at e
  | _, _, .cons f r, 0, x, e => by
    have e1 := Option.some.inj e
    cases e1
    exact ⟨_, rfl, f⟩
  | _, _, .cons f r, i + 1, x, e => r.get i x e
theorem GlsF.len : ∀ {l : List Str} {vs : List PV}, GlsF P w K mg l vs → vs.length = l.length
  | _, _, .nil => rfl
  | _, _, .cons _ r => by simp [r.len]
/-- a constant that is no dict -/
theorem gl_of {h : Heap} {x : Str} {v : PV} (X : K.In h) (G : h.Ns mainGlobals mg) (c : (match PySem.W.nsIn K mainGlobals x with
    | some (some u) => kvB K v u
    | _ => false) = true) : GlF P w K mg x v := by
  split at c
  · rename_i u e
    obtain ⟨y, r, q⟩ := kvB_ok (P := P) (w := w) c
    exact ⟨u, y, PySem.W.mg_of X G e, r, q⟩
  · cases c
theorem gl_dct {x : Str} {ps : List (PV × PV)} {es : Array DictEntry} {n : Nat} (e : mg x = some (.ref (He.ga K x))) (D : KDict K w (He.ga K x) es n) (h : fdcB K (He.ga K x) ps = true) (hn : noTwo (ps.map fun p => kOf p.1) = true) (hl : ps.length ≤ 1000) : GlF P w K mg x (.fdc ps) :=
  ⟨_, .ref _, e, rfl, fdc_ok D h hn hl⟩
/-- a def of the text keeps its code's promise -/
theorem fn_makeG {exs isx : List Nat} {tr : List Tri} {T : Tab} {G : Ctx} {c : Fn} {x ql : Str} {params : Arguments} {body : List Stmt} {sco : Scope} {f : Addr} {fd : FuncData} {ps : List Str} (O : HdOk K mg exs isx tr) (F : FunD K x ql params body sco [] [] f fd)
    (S : FnScope T.N ps sco) (hnp : c.np = ps.length) (hnl : c.nl = T.N.length) (hrep : G.ops = opsX) (hex : G.exs = exs) (hix : T.isx = isx) (hcl : T.cls = exs) (hf : FnsF P w K mg base k T.fns G.fns) (hg : GlsF P w K mg T.glb G.glbs)
    (chk : chkSs T tr sco c.body body = true) (hkw : T.kw = [] := by rfl) (hsd : T.sds = [] := by rfl) : FnG P w K mg base (k + 1) f fd ps (runF G c) := by
  obtain ⟨oc, od, dV, kV, doc, pm, an, cdv, ct, osl, rfl, lk, hcd, _, _⟩ := F.ex
  refine fn_ofG lk hcd S hnp hnl fun A outer s H E hr hgd => ?_
  have o : Ok T G (cxOf (L2.CX P w) P w K mg base T.N ql sco f cdv A outer s H E) :=
    ⟨⟨rfl, S.nd, by have := hr.un; show (A.deeper _).units + 200 < cLine; omega, hgd⟩, rfl, by rw [Ctx.rep, hrep]; rfl, by rw [hrep]; rfl, by rw [hrep]; rfl, O.blt, fun i x n e => by
      obtain ⟨j, h, e1, hj, f', fd', ps', q1, q2, q3, q4, q5⟩ := hf.get i x n e
      exact ⟨j, f', fd', ps', h, q1, q2, e1, hr.mono hj, q3, q4, q5⟩, fun i x e => by
      obtain ⟨v, e1, u, y, e2, e3, e4⟩ := hg.get i x e
      exact ⟨v, u, y, e2, e3, e1, e4⟩, hg.len, by rw [hex]; exact O.exr, by rw [hix, hex]; exact O.isx, fun i x a h => by rw [hkw] at h; cases h⟩
  have tk : Takes (cxOf (L2.CX P w) P w K mg base T.N ql sco f cdv A outer s H E) fun cls d _ H => E cls d H := takes_of rfl rfl rfl rfl
  exact chkSs_ok (T := T) (tr := tr) ⟨o, fun _ => rfl, fun σ => passAt (W := fun cls d _ H => E cls d H) tk σ, tk, passes_of rfl, rfl, rfl, S.kind, hr.mono (Nat.zero_le _), by rw [hcl]; exact O.cls, O.tri, fun i x h => by rw [hsd] at h; cases h⟩ rfl c.body body chk
theorem fn_make {c : Fn} {G : Ctx} {x ql : Str} {params : Arguments} {body : List Stmt} {sco : Scope} {f : Addr} {fd : FuncData} {ps : List Str} (F : FunD K x ql params body sco [] [] f fd) (hnp : c.np = ps.length) (g : FnG P w K mg base k f fd ps (runF G c)) (hm : mg x = some (.ref f)) (hb : Binds K fd ps []) : FnF P w K mg base k x (runF G c) :=
  ⟨f, fd, ps, g, fun us ph h => runF_len (by rw [hnp]; exact h), hm, F.kp, hb⟩
theorem fd_same {x ql : Str} {params : Arguments} {body : List Stmt} {sco : Scope} {f : Addr} {fd fd2 : FuncData} (F : FunD K x ql params body sco [] [] f fd) (F2 : FunD K x ql params body sco [] [] f fd2) : fd = fd2 := by
  obtain ⟨_, _, _, _, _, _, _, _, _, _, _, e, _⟩ := F.ex
  obtain ⟨_, _, _, _, _, _, _, _, _, _, _, e2, _⟩ := F2.ex
  rw [e] at e2
  cases e2; rfl
end
end Ev
end
section
set_option maxRecDepth 100000
set_option maxHeartbeats 2000000
/-! EvSd: a def that calls the lambda it got. -/
namespace Ev
open PySem PySem.Spec PyProof.Rows L2

/-- caught = None; try: deed() except (..) as error: caught = error; rest -/
def saidB (T : Tab) (tr : List Tri) (sc : Scope) (a : Str) (c : Sd) (body : List Stmt) : Bool := match body with
  | .Assign [.Name n1 _] (.Constant .none _ _) _ :: .Try [.Expr (.Call (.Name a' _) [] [] _) _] [.ExceptHandler (some (.Tuple [.Name y1 _, .Name y2 _, .Name y3 _] _ _)) (some n2) [su] _] [] [] _ :: rest =>
    a' == a && T.N.length == 3 && c.nl == 3 && T.N[1]? == some n1 && T.N[2]? == some n2 && locB sc n1 && sc.names.lookup n2 == some .local && (tr.any fun t => t.1 == (y1, y2, y3) && t.2 == c.cs) && glB sc y1 && glB sc y2 && glB sc y3 && plainN y1 && plainN y2 && plainN y3
      && chkH T sc (.cons (.asg (.nm 1) (.var 2)) .nil) [su] && chkSs T tr sc c.rest rest
  | _ => false
section
variable {P : Program} {w : World} {K : PySem.W.Frag} {mg : Str → Option Value} {base : Heap}
/-- a def's context has what the checks want; what it may call lies k deep -/
theorem okS_of {exs isx : List Nat} {tr : List Tri} {T : Tab} {G : Ctx} {ql : Str} {sco : Scope} {f : Addr} {cdv : Value} {ps : List Str} {k : Nat} (O : HdOk K mg exs isx tr) (S : FnScope T.N ps sco) (hrep : G.ops = opsX) (hex : G.exs = exs) (hix : T.isx = isx) (hcl : T.cls = exs) (hf : FnsF P w K mg base k T.fns G.fns) (hg : GlsF P w K mg T.glb G.glbs)
    (hkw : T.kw = []) (hsd : T.sds = []) {A : Around} {outer : List PySem.Env} {s : Shared} {H : Hp} {E : XK} (hr : Room k (A.deeper (envOfC ql sco s.heap.objs.size f cdv))) (hgd : A.guards = some []) :
    OkS T tr G (cxOf (L2.CX P w) P w K mg base T.N ql sco f cdv A outer s H E) E := by
  have o : Ok T G (cxOf (L2.CX P w) P w K mg base T.N ql sco f cdv A outer s H E) :=
    ⟨⟨rfl, S.nd, by have := hr.un; show (A.deeper _).units + 200 < cLine; omega, hgd⟩, rfl, by rw [Ctx.rep, hrep]; rfl, by rw [hrep]; rfl, by rw [hrep]; rfl, O.blt, fun i x n e => by
      obtain ⟨j, h, e1, hj, f', fd', ps', q1, q2, q3, q4, q5⟩ := hf.get i x n e
      exact ⟨j, f', fd', ps', h, q1, q2, e1, hr.mono hj, q3, q4, q5⟩, fun i x e => by
      obtain ⟨v, e1, u, y, e2, e3, e4⟩ := hg.get i x e
      exact ⟨v, u, y, e2, e3, e1, e4⟩, hg.len, by rw [hex]; exact O.exr, by rw [hix, hex]; exact O.isx, fun i x a h => by rw [hkw] at h; cases h⟩
  have tk : Takes (cxOf (L2.CX P w) P w K mg base T.N ql sco f cdv A outer s H E) fun cls d _ H => E cls d H := takes_of rfl rfl rfl rfl
  exact ⟨o, fun _ => rfl, fun σ => passAt (W := fun cls d _ H => E cls d H) tk σ, tk, passes_of rfl, rfl, rfl, S.kind, hr.mono (Nat.zero_le _), by rw [hcl]; exact O.cls, O.tri, fun i x h => by rw [hsd] at h; cases h⟩
/-- the promise of such a def -/
theorem said_make {exs isx : List Nat} {tr : List Tri} {T : Tab} {G : Ctx} {c : Sd} {x ql a : Str} {params : Arguments} {body : List Stmt} {sco : Scope} {g : Addr} {fd : FuncData} {k : Nat} (O : HdOk K mg exs isx tr) (F : FunD K x ql params body sco [] [] g fd)
    (S : FnScope T.N [a] sco) (hrep : G.ops = opsX) (hex : G.exs = exs) (hix : T.isx = isx) (hcl : T.cls = exs) (hf : FnsF P w K mg base 0 T.fns G.fns) (hg : GlsF P w K mg T.glb G.glbs) (hkw : T.kw = []) (hsd : T.sds = [])
    (chk : saidB T tr sco a c body = true) : ∃ cdg, SaidG P w K mg base (k + 2) g fd T.N ql sco cdg a (saidF G c) := by
  obtain ⟨oc, od, dV, kV, doc, pm, an, cdv, ct, osl, rfl, lk, hcd, _, _⟩ := F.ex
  refine ⟨cdv, ⟨fun A outer s H E Q f c' q tl hr hgd e0 hb act hco ⟨Z, mm, ph, d, hrp, hd, hpost⟩ => ?_⟩⟩
  have KX : K.In s.heap := e0.mod.kin.keeps fun b o e => (e0.bs b o e).1
  have nol : s.heap.NoLimit := e0.mod.nolimit.keeps fun b o e => (e0.bs b o e).1
  have knd : ∀ y ∈ [(a, Value.ref f)], sco.names.lookup y.1 = some .local ∨ (sco.names.lookup y.1 = some .cell ∧ ((cellsFrom (s.heap.objs.size + 1) sco.names []).lookup y.1).isSome = true) := fun ⟨n, v⟩ hy => by
    have hn : n = a := by simpa using congrArg Prod.fst (List.mem_singleton.mp hy)
    subst hn
    rcases S.par n (List.mem_singleton.mpr rfl) with q | q
    · exact .inl q
    · exact .inr ⟨q, PySem.W.cellsFrom_some _ _ _ (.inl q)⟩
  refine codeAny_call_function hr.depth (KX _ _ lk) rfl S.co S.gen rfl (PySem.W.codeRec_of KX hcd) (hb _ _ _ _ ?_)
  refine wpAny_newFunctionEnv_cells S.kind knd fun env he s1 xx => ?_
  subst he
  refine ⟨nol.keeps xx.toInCall.keep, codeAny_func ?_⟩
  have hr1 : Room (k + 1) (A.deeper (envOfC ql sco s.heap.objs.size g cdv)) := hr.deeper _
  have ok : OkS T tr G (cxOf (L2.CX P w) P w K mg base T.N ql sco g cdv A outer s H E) E := okS_of O S hrep hex hix hcl hf hg hkw hsd (hr1.mono (Nat.zero_le _)) hgd
  have I : Inv (cxOf (L2.CX P w) P w K mg base T.N ql sco g cdv A outer s H E) [] (L2.start T.N [.ref f]) H s1 := inv_start (ps := [a]) (us := [.ref f]) S hr.hd e0 rfl (.cons rfl .nil) xx
  have fin : ∀ {σ' : L2.St} {H' : Hp} {v : V} {u : Value} {s' : Shared}, Inv (cxOf (L2.CX P w) P w K mg base T.N ql sco g cdv A outer s H E) [] σ' H' s' → RelV v u → Q v H' → L2.CE outer P w H s Q u s' :=
    fun {σ' H' v u s'} J rv q => ⟨v, H', J.os, J.bare, J.base, J.hok, rv, q⟩
  unfold saidB at chk
  split at chk
  case h_2 => cases chk
  rename_i n1 p1 j p2 p3 a' p4 p5 p6 y1 p7 y2 p8 y3 p9 kk tp n2 su p10 p11 rest
  simp only [Bool.and_eq_true] at chk
  obtain ⟨⟨⟨⟨⟨⟨⟨⟨⟨⟨⟨⟨⟨⟨⟨k1, k2⟩, k3⟩, k4⟩, k5⟩, k6⟩, k7⟩, k8⟩, k9⟩, k10⟩, k11⟩, k12⟩, k13⟩, k14⟩, k15⟩, k16⟩ := chk
  have ea := eq_of_beq k1
  subst ea
  obtain ⟨t, ht, ht2⟩ := List.any_eq_true.mp k8
  simp only [Bool.and_eq_true] at ht2
  obtain ⟨e1, e2⟩ := ht2
  have e1 := eq_of_beq e1
  have e2 := eq_of_beq e2
  obtain ⟨c1, c2, c3, m1, m2, m3, hc⟩ := O.tri t ht
  rw [e1] at m1 m2 m3
  rw [e2] at hc
  have hnl : c.nl = 3 := eq_of_beq k3
  have hN3 : T.N.length = 3 := eq_of_beq k2
  have b1 := pss_cons (ps_asg (X := cxOf (L2.CX P w) P w K mg base T.N ql sco g cdv A outer s H E) (pos := p3) (pe_non (j := j) (pos := p2)) (pg_name (pos := p1) S.nd (eq_of_beq k4) (loc_ok k6) (.inl rfl)))
    (pss_cons (ps_catch3 (X := cxOf (L2.CX P w) P w K mg base T.N ql sco g cdv A outer s H E) (pos := p11) (pos' := p10) (tp := tp) (k := kk) (p1 := p7) (p2 := p8) (p3 := p9) (i := 2) (n := n2) (b₀ := su) (suite := []) (ts := fun _ => rdSs P w K E G (.cons (.asg (.nm 1) (.var 2)) .nil))
      (tb := fun W => tDrop fun σZ HZ Q => σZ[0]? = some (some (.ref f)) ∧ HZ c' = some (LamX.CodeO c' q) ∧ tl (WE W σZ) HZ Q)
      rfl rfl S.nd (eq_of_beq k5) (eq_of_beq k7) (eq_of_beq k9) m1 (plain_ok k12).1 (eq_of_beq k10) m2 (plain_ok k13).1 (eq_of_beq k11) m3 (plain_ok k14).1
      (fun W pn xe tk _ => pss_one (ps_expr (pos := p6) (act hr1 W pn xe p4 p5 tk))) (fun a pn => chkH_ok ok rfl k15 a pn)) (chkSs_ok ok rfl c.rest rest k16))
  refine wpAny_mono (b1.run [] s1 (L2.start T.N [.ref f]) H { nx := fun _ H' => Q .non H', rt := Q } I ?_) (fun fl s' hs => ?_) fun e s' hs => hs
  · obtain ⟨N0, N1, N2, hN⟩ : ∃ N0 N1 N2, T.N = [N0, N1, N2] := by
      rcases hh : T.N with _ | ⟨N0, _ | ⟨N1, _ | ⟨N2, _ | ⟨N3, r⟩⟩⟩⟩ <;> rw [hh] at hN3 <;> first | (simp at hN3; done) | exact ⟨N0, N1, N2, rfl⟩
    have est : L2.start T.N [V.ref f] = [some (.ref f), none, none] := by rw [hN]; rfl
    rw [est]
    refine (⟨rfl, hco, hd _ _ ?_⟩ : _ ∧ _ ∧ _)
    -- the rest, from the caught value v on
    have rest_ : ∀ {v : PV} {x : V} {H' : Hp} {m' : List Addr} {h1 : PH} {σ' : L2.St}, Ext H mm H' m' → HRp P w K Z H' m' h1 → SRp P w K Z H' m' [none, some v, none] σ' → PostE P w K Z E H mm Q (saidEnd G c v h1) →
        RSs (cxOf (L2.CX P w) P w K mg base T.N ql sco g cdv A outer s H E) G E c.rest { nx := fun _ H' => Q .non H', rt := Q } σ' H' := fun {v x H' m' h1 σ'} ee h2 sr q => by
      refine ⟨Z, [none, some v, none], h1, m', sr, h2, ?_⟩
      have q1 := PostG.ext q ee
      unfold saidEnd at q1
      rw [hnl] at q1
      exact PostS.of_run q1
    have sr0 : ∀ {H' : Hp} {m' : List Addr} {v : PV} {x : V}, Rp P w K Z H' m' v x → SRp P w K Z H' m' [none, some v, none] [some (.ref f), some x, none] := fun {H' m' v x} r => by
      refine ⟨rfl, fun i u e => ?_⟩
      match i, e with
      | 0, e => cases e
      | 1, e => cases e; exact ⟨x, rfl, r⟩
      | 2, e => cases e
      | i + 3, e => simp at e
    unfold saidF at hpost
    cases e : d ph with
    | stk => rw [e] at hpost; exact hpost
    | ok v h1 =>
      rw [e] at hpost
      intro x H' m' ee h2 r
      exact rest_ (x := .non) ee h2 (sr0 .non) hpost
    | exc c0 u h1 =>
      rw [e] at hpost
      dsimp only at hpost
      intro x dd H' m' ee h2 hdd fz r
      split at hpost
      case isFalse => exact hpost.elim
      rename_i hcc
      refine ⟨_, _, rfl, rfl, hc c0 hcc, fun b hb => ?_⟩
      have la : Ext H' m' (upd H' b (ExcAt (He.ga K (excC c0)) b dd)) m' := Ext.laid hb
      have hdb : dd ≠ b := ne_of_none hdd hb
      have rx : Rp P w K Z (upd H' b (ExcAt (He.ga K (excC c0)) b dd)) m' (.exc c0 u) (.ref b) := .exc (d := dd) (upd_same) (by rw [upd_ne hdb]; exact hdd) (h2.fz hb (h2.notIn hb)) fz (r.wk la.wk)
      have hl2 := h2.laid (o := ExcAt (He.ga K (excC c0)) b dd) hb
      have s1 : SRp P w K Z (upd H' b (ExcAt (He.ga K (excC c0)) b dd)) m' [none, some .non, some (.exc c0 u)] [some (.ref f), some .non, some (.ref b)] := by
        refine ⟨rfl, fun i v e => ?_⟩
        match i, e with
        | 0, e => cases e
        | 1, e => cases e; exact ⟨_, rfl, .non⟩
        | 2, e => cases e; exact ⟨_, rfl, rx⟩
        | i + 3, e => simp at e
      refine ⟨Z, [none, some .non, some (.exc c0 u)], h1, m', s1, hl2, ?_⟩
      have er : evSs G (.cons (.asg (.nm 1) (.var 2)) .nil) [none, some .non, some (.exc c0 u)] h1 = .nx [none, some (.exc c0 u), some (.exc c0 u)] h1 := by
        simp [evSs, evS, evE, stP, R.on]
      rw [er]
      intro σ2 H2 m2 e3 h4 s4
      refine rest_ (x := .non) ((ee.trans la).trans e3) h4 (?_ : SRp P w K Z H2 m2 ([none, some (.exc c0 u), some (.exc c0 u)].set 2 none) (σ2.set 2 none)) hpost
      exact s4.unset 2 none
  · cases fl with
    | ret u =>
      obtain ⟨v, σ', H', J, rv, q⟩ := hs
      exact fin J rv q
    | next =>
      obtain ⟨σ', H', J, q⟩ := hs
      exact fin (v := V.non) (u := Value.none) J rfl q
    | brk =>
      obtain ⟨_, _, _, q⟩ := hs
      exact False.elim q
    | cont =>
      obtain ⟨_, _, _, q⟩ := hs
      exact False.elim q
end
end Ev
end
section
set_option maxRecDepth 100000
set_option maxHeartbeats 2000000
/-! EvSe: a def that hands lambdas, that calls by a keyword; the row's end with a table of code objects. -/
namespace Ev
open PySem PySem.Spec PyProof.Rows L2

/-- a callee of one parameter, called by its name -/
structure KwF (P : Program) (w : World) (K : PySem.W.Frag) (mg : Str → Option Value) (base : Heap) (k : Nat) (x a : Str) (h : F1) : Prop where
  ex : ∃ f fd, FnG P w K mg base k f fd [a] h ∧ (∀ us ph, us.length ≠ 1 → h us ph = .stk) ∧ mg x = some (.ref f) ∧ PySem.W.keepIn K (.ref f) = true ∧ ∀ (s : Shared) (u : Value), K.In s.heap → BindsTo s fd ⟨[], [(a, u)]⟩ [(a, u)]
/-- a callee that calls the lambda it gets -/
structure SdF (P : Program) (w : World) (K : PySem.W.Frag) (mg : Str → Option Value) (base : Heap) (k : Nat) (x : Str) (h : (PH → R PV) → PH → R PV) : Prop where
  ex : ∃ (g : Addr) (fd : FuncData) (Ng : List Str) (sg : Scope) (cdg : Value) (a : Str), SaidG P w K mg base (k + 2) g fd Ng x sg cdg a h ∧ mg x = some (.ref g) ∧ PySem.W.keepIn K (.ref g) = true ∧ L2.Binds K fd [a] [] ∧ Ng[0]? = some a ∧ Vis sg a ∧ plainN a = true
section
variable {P : Program} {w : World} {K : PySem.W.Frag} {mg : Str → Option Value} {base : Heap} {k : Nat}
theorem kw_make {c : Fn} {G : Ctx} {x ql a : Str} {params : Arguments} {body : List Stmt} {sco : Scope} {f : Addr} {fd : FuncData} (F : FunD K x ql params body sco [] [] f fd) (hnp : c.np = 1) (g : FnG P w K mg base k f fd [a] (runF G c)) (hm : mg x = some (.ref f))
    (h : ∀ (kV doc pm : Value) (an : Option Addr) (cdv ct u : Value), bindArgs (PySem.W.fnOf x ql params body sco .none kV doc pm an cdv ct) ⟨[], [(a, u)]⟩ = pure [(a, u)]) : KwF P w K mg base k x a (runF G c) := by
  refine ⟨f, fd, g, fun us ph h => runF_len (by rw [hnp]; exact h), hm, F.kp, fun s u X => ?_⟩
  obtain ⟨oc, od, dV, kV, doc, pm, an, cdv, ct, osl, rfl, lk, hcd, hD, hK⟩ := F.ex
  rcases hD with ⟨_, rfl⟩ | ⟨e, _⟩
  · exact .of_eq (h kV doc pm an cdv ct u)
  · exact absurd rfl e
theorem sd_make {exs isx : List Nat} {tr : List Tri} {T : Tab} {G : Ctx} {c : Sd} {x a : Str} {params : Arguments} {body : List Stmt} {sco : Scope} {g : Addr} {fd : FuncData} (O : HdOk K mg exs isx tr) (F : FunD K x x params body sco [] [] g fd)
    (S : FnScope T.N [a] sco) (hrep : G.ops = opsX) (hex : G.exs = exs) (hix : T.isx = isx) (hcl : T.cls = exs) (hf : T.fns = []) (hf2 : G.fns = []) (hg : T.glb = []) (hg2 : G.glbs = []) (hkw : T.kw = []) (hsd : T.sds = []) (hm : mg x = some (.ref g)) (hN : T.N[0]? = some a) (hv : visB sco a = true) (hp : plainN a = true)
    (hb : L2.Binds K fd [a] []) (chk : saidB T tr sco a c body = true) : SdF P w K mg base k x (saidF G c) := by
  obtain ⟨cdg, S1⟩ := said_make (P := P) (w := w) (base := base) (k := k) O F S hrep hex hix hcl (by rw [hf, hf2]; exact .nil) (by rw [hg, hg2]; exact .nil) hkw hsd chk
  exact ⟨g, fd, T.N, sco, cdg, a, S1, hm, F.kp, hb, hN, vis_ok (env := { scope := sco, locals := 0, globals := 0, cells := [], qual := ⟨#[]⟩, func := none, code := .none, frame := none, builtins := 0 }) hv, hp⟩
theorem fn_makeS {exs isx : List Nat} {tr : List Tri} {T : Tab} {G : Ctx} {c : Fn} {x : Str} {params : Arguments} {body : List Stmt} {sco : Scope} {f : Addr} {fd : FuncData} {ps : List Str} (O : HdOk K mg exs isx tr) (F : FunD K x x params body sco [] [] f fd)
    (S : FnScope T.N ps sco) (hnp : c.np = ps.length) (hnl : c.nl = T.N.length) (hrep : G.ops = opsX) (hex : G.exs = exs) (hix : T.isx = isx) (hcl : T.cls = exs) (hf : FnsF P w K mg base k T.fns G.fns) (hg : GlsF P w K mg T.glb G.glbs)
    (hkw : ∀ i x a, T.kw.contains (i, x, a) = true → ∃ j h, G.fns[i]? = some h ∧ j ≤ k ∧ KwF P w K mg base j x a h) (hsd : ∀ i x, T.sds.contains (i, x) = true → ∃ h, G.saids[i]? = some h ∧ SdF P w K mg base k x h)
    (hme : sT T.me = x) (hX : K.In base) (hG : base.Ns mainGlobals mg) (hm : mg x = some (.ref f)) (TB : T.sds ≠ [] → ∀ c P, PySem.W.tabIn K x = some (c, P) → LamX.TabB base mg c P)
    (chk : chkSs T tr sco c.body body = true) : FnG P w K mg base (k + 3) f fd ps (runF G c) := by
  have hcode : ∀ c0 P0, PySem.W.tabIn K x = some (c0, P0) → fd.code = .ref c0 := fun c0 P0 e => by
    obtain ⟨oc, od, dV, kV, doc, pm, an, cdv, ct, osl, rfl, lk, hcd, _, _⟩ := F.ex
    exact PySem.W.law_code hX hG e hm (hX _ _ lk) rfl
  obtain ⟨oc, od, dV, kV, doc, pm, an, cdv, ct, osl, rfl, lk, hcd, _, _⟩ := F.ex
  refine fn_ofG lk hcd S hnp hnl fun A outer s H E hr hgd => ?_
  have mkOk : ∀ {Y : Cx}, Y.prog = P → Y.w = w → Y.K = K → Y.mg = mg → Y.base = base → Y.N = T.N → Y.calm = true → Y.A.guards = some [] → Room k Y.A → Ok T G Y := fun {Y} e1 e2 e3 e4 e5 e6 e7 e8 hr => by
    subst e1 e2 e3 e4 e5
    exact ⟨⟨e7, by rw [e6]; exact S.nd, by have := hr.un; omega, e8⟩, e6, by rw [Ctx.rep, hrep]; rfl, by rw [hrep]; rfl, by rw [hrep]; rfl, O.blt, fun i x n e => by
      obtain ⟨j, h, e1, hj, f', fd', ps', q1, q2, q3, q4, q5⟩ := hf.get i x n e
      exact ⟨j, f', fd', ps', h, q1, q2, e1, hr.mono hj, q3, q4, q5⟩, fun i x e => by
      obtain ⟨v, e1, u, y, e2, e3, e4⟩ := hg.get i x e
      exact ⟨v, u, y, e2, e3, e1, e4⟩, hg.len, by rw [hex]; exact O.exr, by rw [hix, hex]; exact O.isx, fun i x a h => by
      obtain ⟨j, h, e1, hj, f', fd', q1, q2, q3, q4, q5⟩ := hkw i x a h
      exact ⟨j, f', fd', h, q1, q2, e1, hr.mono hj, q3, q4, q5⟩⟩
  have hr1 : Room k (A.deeper (envOfC x sco s.heap.objs.size f cdv)) := hr.mono (by omega)
  have o : Ok T G (cxOf (L2.CX P w) P w K mg base T.N x sco f cdv A outer s H E) := mkOk rfl rfl rfl rfl rfl rfl rfl hgd hr1
  have tk : Takes (cxOf (L2.CX P w) P w K mg base T.N x sco f cdv A outer s H E) fun cls d _ H => E cls d H := takes_of rfl rfl rfl rfl
  refine chkSs_ok (T := T) (tr := tr) ⟨o, fun _ => rfl, fun σ => passAt (W := fun cls d _ H => E cls d H) tk σ, tk, passes_of rfl, rfl, rfl, S.kind, hr.mono (Nat.zero_le _), by rw [hcl]; exact O.cls, O.tri, fun i y h => ?_⟩ rfl c.body body chk
  obtain ⟨hh, e1, g, fdg, Ng, sg, cdg, a, S1, q1, q2, q3, q4, q5, q6⟩ := hsd i y h
  refine ⟨k, g, fdg, Ng, sg, cdg, a, hh, S1, e1, q1, q2, q3, q4, q5, q6, hr, fun c0 P0 e => ⟨TB (fun z => by rw [z] at h; cases h) c0 P0 (by rw [← hme]; exact e), hcode c0 P0 (by rw [← hme]; exact e)⟩, ?_, fun A2 outer2 s2 H2 E2 scope2 f2 c2 hr2 hg2 => mkOk rfl rfl rfl rfl rfl rfl rfl hg2 hr2⟩
  show (x ++ (".<locals>." : Str)) ++ ("<lambda>" : Str) = lamQ T.me
  unfold lamQ
  rw [hme]
end
end Ev
end
section
set_option maxRecDepth 100000
set_option maxHeartbeats 2000000
/-! EvSf: the row's end, one def's table of code objects among what the law may change. -/
namespace Ev
open PySem PySem.Spec PyProof.Rows L2

/-- a def's table, not held by K -/
def tabB (K : PySem.W.Frag) (x : Str) : Bool := match PySem.W.tabIn K x with
  | some (_, P) => (K.lookup P).isNone
  | none => false
theorem core_callT {P : Program} {w : World} {K : PySem.W.Frag} {mg mb : Str → Option Value} {k : Nat} {fa a c T : Addr} {fd : FuncData} {x : Str} {g : F1} {s1 : Shared} {vs : List Value} {H : Hp}
    (KX : K.In s1.heap) (hns : s1.heap.Ns mainGlobals mg) (hb : s1.heap.Ns builtinsNs mb) (hbb : ∀ x : Str, x ≠ "__name__" → mb x = bootBuiltins x) (hlim : s1.heap.NoLimit) (hg : s1.gens = #[])
    (hT : s1.heap.get? T = some { cls := .none, data := .fields #[] }) (nT : K.lookup T = none) (C : PySem.W.CodeHd s1.heap c T)
    (hbm : ∃ (bm : Addr) (ob : Obj), mg "__builtins__" = some (.ref bm) ∧ bm ≠ builtinsNs ∧ s1.heap.get? bm = some ob ∧ ob.cls = .type "module" ∧ ob.dict = some builtinsNs ∧ ob.data = .plain)
    (ha : s1.heap.get? a = some { cls := .type "list", data := .seq vs.toArray }) (hr : Room k callerA)
    (F : ∀ base : Heap, K.In base → base.Ns mainGlobals mg → LamX.TabB base mg c T → FnG P w K mg base k fa fd [x] g) (hbind : ∀ (s : Shared) (u : Value), BindsTo s fd ⟨[u], []⟩ [(x, u)])
    (hA : ∀ b u, H b = some u → (b = a ∧ K.lookup a = none ∧ ∃ ob xs, u = .frz ob (.lst xs)) ∨ (b = T ∧ u = .tbl #[])) (hHT : H T = some (.tbl #[])) (hok : HOk P w H s1.heap)
    (hsp : spG P w K [x].length g [.ref a] H (fun v _ => v = .bl true) fun _ _ _ => False) :
    codeAny (model P w) callerA (.call (.ref fa) ⟨[.ref a], []⟩) (fun r s' => r = .ok (.ret (.bool true)) ∧ OldK s1.heap s'.heap ∧ s'.os = s1.os ∧ AllBare s'.gens) s1 := by
  -- what is no list and no table is not tracked
  have free : ∀ {b : Addr} {o : Obj}, s1.heap.get? b = some o → (∀ vs n, o.data ≠ .seq vs n) → o.data ≠ .fields #[] → H b = none := by
    intro b o e n1 n2
    rcases q : H b with _ | u
    · rfl
    · rcases hA b u q with ⟨e1, _, _⟩ | ⟨e1, _⟩
      · rw [e1, ha] at e
        cases e
        exact absurd rfl (n1 _ _)
      · rw [e1, hT] at e
        cases e
        exact absurd rfl n2
  have at_ : ∀ {b : Addr} {o : Obj}, s1.heap.get? b = some o → (∀ vs n, o.data ≠ .seq vs n) → o.data ≠ .fields #[] → (hidT s1.heap H).get? b = some o := fun e n1 n2 => hidT_get e (free e n1 n2)
  have nsB : ∀ {b : Addr} {m : Str → Option Value}, s1.heap.Ns b m → (hidT s1.heap H).Ns b m := by
    rintro b m ⟨o, es, ep, e, d, r⟩
    exact ⟨o, es, ep, at_ e (fun vs n z => by rw [d] at z; cases z) (fun z => by rw [d] at z; cases z), d, r⟩
  have kB : K.In (hidT s1.heap H) := by
    intro b o e
    refine hidT_get (KX b o e) ?_
    rcases q : H b with _ | u
    · rfl
    · rcases hA b u q with ⟨e1, e2, _⟩ | ⟨e1, _⟩
      · rw [e1, e2] at e; cases e
      · rw [e1, nT] at e; cases e
  have md : Mod K mg (hidT s1.heap H) := { kin := kB, glob := nsB hns, blt := ⟨mb, nsB hb, hbb⟩, nolimit := by obtain ⟨mc, h1, h2⟩ := hlim; exact ⟨mc, nsB h1, h2⟩ }
  have ev : Env0 P w K mg (hidT s1.heap H) callerA [] s1 H := { frames := rfl, mod := md, bs := fun b o e => of_hidT e, bsz := Nat.le_of_eq (hidT_size _ _), funs := trivial, frf := fun b z => (nomatch (show b ∈ ([] : List Addr) from z)), hok := hok, bare := .of_eq hg }
  have tb : LamX.TabB (hidT s1.heap H) mg c T := by
    refine ⟨?_, ?_, fun z => ?_⟩
    · obtain ⟨o, us, file, tf, flags, tg, inF, text, tt, e1, r1, r2, r3, r4, r5, r6, r7, r8, hne⟩ := C
      refine ⟨o, us, file, tf, flags, tg, inF, text, tt, at_ e1 (fun vs n z => ?_) (fun z => ?_), r1, r2, r3, r4, r5, r6, r7, r8, hne⟩
      · rw [r2] at z; cases z
      · rw [r2] at z; cases z; simp at r3
    · obtain ⟨bm, ob, b1, b2, b3, b4, b5, b6⟩ := hbm
      have nG : bm ≠ mainGlobals := fun q => by
        obtain ⟨o, es, ep, e, hd, _⟩ := hns
        rw [q, e] at b3; cases b3
        rw [hd] at b6; cases b6
      have nP : bm ≠ T := fun q => by
        rw [q, hT] at b3; cases b3
        cases b6
      exact ⟨bm, ob, b1, b2, nG, nP, at_ b3 (fun vs n z => by rw [b6] at z; cases z) (fun z => by rw [b6] at z; cases z), b4, b5, b6⟩
    · obtain ⟨o, es, ep, e, hd, _⟩ := hns
      rw [z, hT] at e; cases e
      cases hd
  have go := (F _ kB (nsB hns) tb).run callerA [] s1 H ⟨[.ref a], []⟩ [.ref a] [.ref a] _ _ hr rfl ev (hbind s1 (.ref a)) (.cons rfl .nil) hsp
  refine codeAny_mono go fun r s' h => ?_
  match r, h with
  | .error e, h => obtain ⟨_, _, _, _, _, _, _, _, _, _, _, _, z⟩ := h; exact False.elim z
  | .ok .next, h => exact False.elim h
  | .ok .brk, h => exact False.elim h
  | .ok .cont, h => exact False.elim h
  | .ok (.ret u), h =>
    obtain ⟨v, H2, os2, br2, un2, ok2, rv2, q2⟩ := h
    have q3 : v = .bl true := q2
    subst q3
    obtain rfl : u = Value.bool true := rv2
    obtain ⟨more, hm0⟩ := un2.tbls T #[] hHT
    have hm := ok2 T _ hm0
    have key : ∀ b o, b ≠ T → s1.heap.get? b = some o → s'.heap.get? b = some o := fun b o nb e => by
      rcases q : H b with _ | u
      · exact un2.keep b o e q (fun z => nomatch (show b ∈ ([] : List Addr) from z)) (by simp)
      · rcases hA b u q with ⟨_, _, ob, xs, e3⟩ | ⟨e1, _⟩
        · subst e3
          have f1 := (hok b _ q).1
          have f2 := (ok2 b _ (un2.frzs b ob _ q)).1
          rw [e] at f1
          cases f1; exact f2
        · exact absurd e1 nb
    refine ⟨rfl, ⟨fun b o e => ?_, fun b o e => ?_⟩, os2, br2⟩
    · by_cases hb : b = T
      · rw [hb] at e ⊢
        rw [hT] at e
        cases e
        exact .inr (.inl ⟨(C.tab hT).isCodeTable, rfl, #[], _, rfl, hm⟩)
      · exact .inl (key b o hb e)
    · by_cases hb : b = T
      · rw [hb]; exact ⟨_, hm⟩
      · exact ⟨o, key b o hb e⟩
theorem law_callGT {P : Program} {w : World} {K : PySem.W.Frag} {mg mb : Str → Option Value} {k : Nat} {fa a c T : Addr} {fd : FuncData} {x : Str} {y : Tx} {g : F1} {s1 : Shared} {vs : List Value} {ns : List Int}
    (KX : K.In s1.heap) (hns : s1.heap.Ns mainGlobals mg) (hb : s1.heap.Ns builtinsNs mb) (hbb : ∀ x : Str, x ≠ "__name__" → mb x = bootBuiltins x) (hlim : s1.heap.NoLimit) (hg : s1.gens = #[])
    (hT : s1.heap.get? T = some { cls := .none, data := .fields #[] }) (nT : K.lookup T = none) (C : PySem.W.CodeHd s1.heap c T) (ht : PySem.W.tabIn K (sT y) = some (c, T))
    (hbm : ∃ (bm : Addr) (ob : Obj), mg "__builtins__" = some (.ref bm) ∧ bm ≠ builtinsNs ∧ s1.heap.get? bm = some ob ∧ ob.cls = .type "module" ∧ ob.dict = some builtinsNs ∧ ob.data = .plain)
    (ha : s1.heap.get? a = some { cls := .type "list", data := .seq vs.toArray }) (hi : IntsAre vs ns) (hl : ns.length ≤ sizeLine) (hr : Room k callerA)
    (F : ∀ base : Heap, K.In base → base.Ns mainGlobals mg → LamX.TabB base mg c T → FnG P w K mg base k fa fd [x] g) (hbind : ∀ (s : Shared) (u : Value), BindsTo s fd ⟨[u], []⟩ [(x, u)])
    (hgood : ∃ ph, g [.fls (ns.map PV.int)] [.tbl y] = .ok (.bl true) ph) :
    codeAny (model P w) callerA (.call (.ref fa) ⟨[.ref a], []⟩) (fun r s' => r = .ok (.ret (.bool true)) ∧ OldK s1.heap s'.heap ∧ s'.os = s1.os ∧ AllBare s'.gens) s1 := by
  have rv := vals_ints hi
  obtain ⟨ph, eg⟩ := hgood
  have aT : a ≠ T := fun z => by
    rw [z, hT] at ha; cases ha
  have lst : ∀ (H : Hp) (l : List Int), Rps P w K (fun _ => False) H [T] (l.map PV.int) (l.map V.int) := by
    intro H l
    induction l with
    | nil => exact .nil
    | cons i r ih => exact .cons (.int i) ih
  have sp : ∀ H : Hp, H T = some (.tbl #[]) → Rp P w K (fun _ => False) H [T] (.fls (ns.map PV.int)) (.ref a) → spG P w K [x].length g [.ref a] H (fun v _ => v = .bl true) fun _ _ _ => False := by
    intro H hH r
    refine ⟨rfl, fun _ => False, [.tbl y], [T], [.fls (ns.map PV.int)], ⟨rfl, by simp, fun n o a h1 h2 => ?_, fun _ z => z.elim⟩, .cons r .nil, ?_⟩
    · cases n with
      | zero =>
        simp at h1 h2
        subst h1 h2
        exact .tbl ht ⟨#[], hH, True.intro, fun pos cv hc => by
          have z : codeAmong pos [] = some cv := hc
          simp [codeAmong] at z⟩
      | succ n => simp at h1
    · rw [eg]
      exact fun y H' mm' _ _ ry => ry.bl_
  rcases hk : K.lookup a with _ | o
  · refine core_callT (H := fun b => if b = a then some (.frz { cls := .type "list", data := .seq vs.toArray } (.lst (ns.map V.int))) else if b = T then some (.tbl #[]) else none) KX hns hb hbb hlim hg hT nT C hbm ha hr F hbind (fun b u z => ?_) ((if_neg (fun z => aT z.symm)).trans (if_pos rfl)) (fun b u z => ?_)
      (sp _ ((if_neg (fun z => aT z.symm)).trans (if_pos rfl)) (.fls (.inr ⟨_, if_pos rfl⟩) ⟨by simpa using aT, fun z => z⟩ (lst _ ns)))
    · by_cases hb : b = a
      · rw [if_pos hb] at z; cases z
        exact .inl ⟨hb, hk, _, _, rfl⟩
      · rw [if_neg hb] at z
        by_cases hb2 : b = T
        · rw [if_pos hb2] at z; cases z
          exact .inr ⟨hb2, rfl⟩
        · rw [if_neg hb2] at z; cases z
    · dsimp only at z
      by_cases hb : b = a
      · rw [if_pos hb] at z; cases z
        subst hb
        exact ⟨ha, by rw [List.length_map]; exact hl, vs, _, rv, ha⟩
      · rw [if_neg hb] at z
        by_cases hb2 : b = T
        · rw [if_pos hb2] at z; cases z
          subst hb2
          exact hT
        · rw [if_neg hb2] at z; cases z
  · have e := KX a o hk
    rw [ha] at e
    cases e
    have hlen := hi.length
    refine core_callT (H := fun b => if b = T then some (.tbl #[]) else none) KX hns hb hbb hlim hg hT nT C hbm ha hr F hbind (fun b u z => ?_) (if_pos rfl) (fun b u z => ?_)
      (sp _ (if_pos rfl) (.flsK ⟨_, vs.toArray, _, hk, rfl, rfl, rfl, by rw [List.size_toArray, hlen]; exact hl, by simpa using rv⟩ (lst _ ns)))
    · by_cases hb2 : b = T
      · rw [if_pos hb2] at z; cases z
        exact .inr ⟨hb2, rfl⟩
      · rw [if_neg hb2] at z; cases z
    · dsimp only at z
      by_cases hb2 : b = T
      · rw [if_pos hb2] at z; cases z
        subst hb2
        exact hT
      · rw [if_neg hb2] at z; cases z
/-- the row's goal, one table among the evaluator's objects -/
theorem walk_ofGT {l : PySem.W.OpenLaw} {n k : Nat} {q : Program} {loose : List Str} {XP : (Str → Option Value) → Heap → Prop} {YP : World → Heap → Prop} {d dE : DefRec} {x : Str} (y : Tx)
    (hn : l.most = some n) (hn2 : n ≤ sizeLine) (hdf : d.params.defaults = []) (hr : Room k callerA) (hrec : (recsOf q).find? (fun e => e.name == sT y) = some dE)
    (F : ∀ (w : World) (mg : Str → Option Value) (fa : Addr) (h : Heap), YP w h → h.Ns mainGlobals mg → mg d.name = some (.ref fa) →
      ∃ (K : PySem.W.Frag) (fd : FuncData) (g : F1), K.In h ∧ tabB K (sT y) = true ∧ (∀ (s : Shared) (u : Value), BindsTo s fd ⟨[u], []⟩ [(x, u)]) ∧ (∀ ns : List Int, ns.length ≤ n → ∃ ph, g [.fls (ns.map PV.int)] [.tbl y] = .ok (.bl true) ph) ∧
        ∀ base : Heap, K.In base → base.Ns mainGlobals mg → (∀ c P, PySem.W.tabIn K (sT y) = some (c, P) → LamX.TabB base mg c P) → FnG l.prog w K mg base k fa fd [x] g) :
    PySem.W.WalkO q loose XP YP l.row.toRowW d [] (fun f vs => PySem.call f vs) := by
  refine Att.attach_call hn hdf fun w s0 s1 mg mb fa o pm cd doc a vs ns G Y ho hd hcd hmg hobj hints hlen hg => ?_
  obtain ⟨K, fd, g, KX, hB, hb, hgood, hF⟩ := F w mg fa _ Y G.T.g hmg
  unfold tabB at hB
  split at hB
  · rename_i c T ht
    obtain ⟨C, hT⟩ := PySem.W.tab_of G.T KX hrec ht
    have nT : K.lookup T = none := by simpa using hB
    exact law_callGT (y := y) KX G.T.g G.T.b G.T.builtins G.T.nolimit hg hT nT C ht G.T.bmain hobj hints (Nat.le_trans hlen hn2) hr (fun base h1 h2 h3 => hF base h1 h2 fun c' P' e => by
      rw [ht] at e; cases e; exact h3) hb (hgood ns hlen)
  · cases hB
end Ev
end
section
namespace Ev
def x_node : Tx := [110, 111, 100, 101]
def x_end : Tx := [101, 110, 100]
def x_mode : Tx := [109, 111, 100, 101]
def x_insert : Tx := [105, 110, 115, 101, 114, 116]
def x_bit : Tx := [98, 105, 116]
def x_great : Tx := [103, 114, 101, 97, 116]
def x_small : Tx := [115, 109, 97, 108, 108]
def x_at : Tx := [97, 116]
def x_99_97_110_99_101_108_71 : Tx := [99, 97, 110, 99, 101, 108, 32, 99, 108, 101, 97, 114, 32, 99, 114, 111, 115, 115, 101, 100, 32, 100, 114, 111, 112, 32, 102, 117, 115, 101, 32, 105, 110, 115, 101, 114, 116, 32, 112, 105, 118, 111, 116, 32, 112, 108, 97, 105, 110, 32, 114, 101, 99, 111, 108, 111, 114, 32, 114, 101, 110, 97, 109, 101, 32, 117, 110, 108, 111, 111, 112]
def x_letters : Tx := [97, 98, 99, 100, 101, 102, 103, 104, 105, 106, 107, 108, 109, 110, 111, 112, 113, 114, 115, 116, 117, 118, 119, 120, 121, 122]
def x_crossed : Tx := [99, 114, 111, 115, 115, 101, 100]
def x_plain : Tx := [112, 108, 97, 105, 110]
def x_recolor : Tx := [114, 101, 99, 111, 108, 111, 114]
def x_fuse : Tx := [102, 117, 115, 101]
def x_drop : Tx := [100, 114, 111, 112]
def x_unloop : Tx := [117, 110, 108, 111, 111, 112]
def x_cancel : Tx := [99, 97, 110, 99, 101, 108]
def x_evaluate : Tx := [101, 118, 97, 108, 117, 97, 116, 101]
def x_complement : Tx := [99, 111, 109, 112, 108, 101, 109, 101, 110, 116]
def x_pivot : Tx := [112, 105, 118, 111, 116]
def x_rename : Tx := [114, 101, 110, 97, 109, 101]
def x_clear : Tx := [99, 108, 101, 97, 114]
def x_10 : Tx := [49, 48]
def x_abcdefghi : Tx := [97, 98, 99, 100, 101, 102, 103, 104, 105]
def x_steps : Tx := [115, 116, 101, 112, 115]
def x_115_116_101_112_32 : Tx := [115, 116, 101, 112, 32]
def x_index : Tx := [105, 110, 100, 101, 120]
def x_108_105_110_101_32 : Tx := [108, 105, 110, 101, 32]
def x_line : Tx := [108, 105, 110, 101]
def x_other : Tx := [111, 116, 104, 101, 114]
def x_95_108_97_119_95_101_17 : Tx := [95, 108, 97, 119, 95, 101, 114, 114, 111, 114, 115, 95, 114, 105, 103, 104, 116]
def x_115_116_101_112_32_48 : Tx := [115, 116, 101, 112, 32, 48]
def x_108_105_110_101_32_48 : Tx := [108, 105, 110, 101, 32, 48]
def x_0123456789 : Tx := [48, 49, 50, 51, 52, 53, 54, 55, 56, 57]
def g_MAX_PORTS : PV := (.int 8)
def g_LETTERS : PV := (.str x_letters)
def g_MAX_NAME : PV := (.int 8)
def g_MODES : PV := (.ftp [(.str x_crossed), (.str x_plain)])
def g_STEP_ITEMS : PV := (.fdc [((.str x_recolor), (.ftp [(.str x_node)])), ((.str x_fuse), (.ftp [(.str x_node), (.str x_node)])), ((.str x_drop), (.ftp [(.str x_node)])), ((.str x_insert), (.ftp [(.str x_end), (.str x_end), (.str x_mode), (.str x_node), (.str x_bit)])), ((.str x_unloop), (.ftp [(.str x_node), (.str x_mode)])), ((.str x_cancel), (.ftp [(.str x_node), (.str x_node)])), ((.str x_evaluate), (.ftp [(.str x_node)])), ((.str x_complement), (.ftp [(.str x_node)])), ((.str x_pivot), (.ftp [(.str x_node), (.str x_node)])), ((.str x_rename), (.ftp [(.str x_node), (.str x_node)])), ((.str x_clear), (.ftp []))])
def g_DIGITS : PV := (.str x_0123456789)
def g_MAX_DIGITS : PV := (.int 4)
def c_is_integer : Fn := ⟨1, 1, .pure, (.cons (.ret (.and (.prim (.isa [.tint]) (.cons (.var 0) .nil)) (.not (.prim (.isa [.tbool]) (.cons (.var 0) .nil)))))
  .nil)⟩
abbrev G_is_integer (o : Ops) : Ctx := ⟨[], [], [], [], o, 1000000, [10, 14], []⟩
def F_is_integer (o : Ops) : F1 := runF (G_is_integer o) c_is_integer
def c_is_node_name : Fn := ⟨1, 2, .pure, (.cons (.ife (.or (.not (.prim (.isa [.tstr]) (.cons (.var 0) .nil))) (.not (.chn .le .le (.cst (.int 1)) (.prim .len (.cons (.var 0) .nil)) (.glb 0)))) (.cons (.ret (.cst (.bl false)))
  .nil) .nil)
  (.cons (.ret (.prim .all (.cons (.lc false [1] (.nm 1) (.val (.var 0)) (.cst (.bl true)) (.cmp .inn (.var 1) (.glb 1))) .nil)))
  .nil))⟩
abbrev G_is_node_name (o : Ops) : Ctx := ⟨[], [], [], [g_MAX_NAME, g_LETTERS], o, 1000000, [10, 14], []⟩
def F_is_node_name (o : Ops) : F1 := runF (G_is_node_name o) c_is_node_name
def c_is_end : Fn := ⟨1, 1, .pure, (.cons (.ife (.call 0 (.cons (.var 0) .nil)) (.cons (.ret (.cst (.bl true)))
  .nil) .nil)
  (.cons (.ret (.and (.prim (.isa [.tstr]) (.cons (.var 0) .nil)) (.and (.cmp .eq (.prim .len (.cons (.var 0) .nil)) (.cst (.int 1))) (.cmp .inn (.var 0) (.slc false (.glb 0) (.cst .non) (.glb 1))))))
  .nil))⟩
abbrev G_is_end (o : Ops) : Ctx := ⟨[F_is_node_name o], [], [], [g_DIGITS, g_MAX_PORTS], o, 1000000, [10, 14], []⟩
def F_is_end (o : Ops) : F1 := runF (G_is_end o) c_is_end
def c_fits : Fn := ⟨2, 2, .pure, (.cons (.ife (.cmp .eq (.var 0) (.cst (.str x_node))) (.cons (.ret (.call 0 (.cons (.var 1) .nil)))
  .nil) .nil)
  (.cons (.ife (.cmp .eq (.var 0) (.cst (.str x_end))) (.cons (.ret (.call 1 (.cons (.var 1) .nil)))
  .nil) .nil)
  (.cons (.ife (.cmp .eq (.var 0) (.cst (.str x_mode))) (.cons (.ret (.and (.prim (.isa [.tstr]) (.cons (.var 1) .nil)) (.cmp .inn (.var 1) (.glb 0))))
  .nil) .nil)
  (.cons (.ret (.and (.call 2 (.cons (.var 1) .nil)) (.chn .le .le (.cst (.int 0)) (.var 1) (.cst (.int 1)))))
  .nil))))⟩
abbrev G_fits (o : Ops) : Ctx := ⟨[F_is_node_name o, F_is_end o, F_is_integer o], [], [], [g_MODES], o, 1000000, [10, 14], []⟩
def F_fits (o : Ops) : F1 := runF (G_fits o) c_fits
def c_is_well_formed : Fn := ⟨1, 4, .pure, (.cons (.ife (.or (.not (.prim (.isa [.ttup]) (.cons (.var 0) .nil))) (.or (.cmp .eq (.var 0) (.tup .nil)) (.or (.not (.prim (.isa [.tstr]) (.cons (.ix (.var 0) (.cst (.int 0))) .nil))) (.cmp .nin (.ix (.var 0) (.cst (.int 0))) (.glb 0))))) (.cons (.ret (.cst (.bl false)))
  .nil) .nil)
  (.cons (.asg (.nm 1) (.ix (.glb 0) (.ix (.var 0) (.cst (.int 0)))))
  (.cons (.ife (.or (.cmp .ne (.prim .len (.cons (.var 0) .nil)) (.bin .add false (.prim .len (.cons (.var 1) .nil)) (.cst (.int 1)))) (.not (.prim .all (.cons (.lc false [2, 3] (.tp [(.nm 2), (.nm 3)]) (.zip (.var 1) (.slc false (.var 0) (.cst (.int 1)) (.cst .non))) (.cst (.bl true)) (.call 0 (.cons (.var 2) (.cons (.var 3) .nil)))) .nil)))) (.cons (.ret (.cst (.bl false)))
  .nil) .nil)
  (.cons (.ret (.or (.cmp .ne (.ix (.var 0) (.cst (.int 0))) (.cst (.str x_insert))) (.cmp .le (.ix (.var 0) (.cst (.int 1))) (.ix (.var 0) (.cst (.int 2))))))
  .nil))))⟩
abbrev G_is_well_formed (o : Ops) : Ctx := ⟨[F_fits o], [], [], [g_STEP_ITEMS], o, 1000000, [10, 14], []⟩
def F_is_well_formed (o : Ops) : F1 := runF (G_is_well_formed o) c_is_well_formed
def c_line_of : Fn := ⟨1, 2, .pure, (.cons (.ret (.mth .join (.cst (.str [32])) (.cons (.lc false [1] (.nm 1) (.val (.var 0)) (.cst (.bl true)) (.prim .str (.cons (.var 1) .nil))) .nil)))
  .nil)⟩
abbrev G_line_of (o : Ops) : Ctx := ⟨[], [], [], [], o, 1000000, [10, 14], []⟩
def F_line_of (o : Ops) : F1 := runF (G_line_of o) c_line_of
def c_steps_text : Fn := ⟨1, 3, .pure, (.cons (.ife (.not (.prim (.isa [.ttup, .tlst]) (.cons (.var 0) .nil))) (.cons (.raise 10 (.cst (.int 0)))
  .nil) .nil)
  (.cons (.for_ (.tp [(.nm 1), (.nm 2)]) (.enm (.var 0) 0) (.cons (.ife (.not (.call 0 (.cons (.var 2) .nil))) (.cons (.raise 10 (.var 1))
  .nil) .nil)
  .nil))
  (.cons (.ret (.mth .join (.cst (.str [10])) (.cons (.lc false [2] (.nm 2) (.val (.var 0)) (.cst (.bl true)) (.call 1 (.cons (.var 2) .nil))) .nil)))
  .nil)))⟩
abbrev G_steps_text (o : Ops) : Ctx := ⟨[F_is_well_formed o, F_line_of o], [], [], [], o, 1000000, [10, 14], []⟩
def F_steps_text (o : Ops) : F1 := runF (G_steps_text o) c_steps_text
def c_parsed_integer : Fn := ⟨1, 3, .pure, (.cons (.asg (.nm 1) (.ite (.cmp .eq (.slc false (.var 0) (.cst .non) (.cst (.int 1))) (.cst (.str [45]))) (.slc false (.var 0) (.cst (.int 1)) (.cst .non)) (.var 0)))
  (.cons (.ife (.or (.not (.chn .le .le (.cst (.int 1)) (.prim .len (.cons (.var 1) .nil)) (.glb 0))) (.not (.prim .all (.cons (.lc false [2] (.nm 2) (.val (.var 1)) (.cst (.bl true)) (.cmp .inn (.var 2) (.glb 1))) .nil)))) (.cons (.ret (.cst .non))
  .nil) .nil)
  (.cons (.ife (.and (.cmp .eq (.ix (.var 1) (.cst (.int 0))) (.cst (.str [48]))) (.cmp .ne (.var 0) (.cst (.str [48])))) (.cons (.ret (.cst .non))
  .nil) .nil)
  (.cons (.ret (.prim .int (.cons (.var 0) .nil)))
  .nil))))⟩
abbrev G_parsed_integer (o : Ops) : Ctx := ⟨[], [], [], [g_MAX_DIGITS, g_DIGITS], o, 1000000, [10, 14], []⟩
def F_parsed_integer (o : Ops) : F1 := runF (G_parsed_integer o) c_parsed_integer
def c_need_text : Fn := ⟨1, 1, .pure, (.cons (.ife (.not (.prim (.isa [.tstr]) (.cons (.var 0) .nil))) (.cons (.raise 14 (.cst (.int 0)))
  .nil) .nil)
  .nil)⟩
abbrev G_need_text (o : Ops) : Ctx := ⟨[], [], [], [], o, 1000000, [10, 14], []⟩
def F_need_text (o : Ops) : F1 := runF (G_need_text o) c_need_text
def c_parsed_step : Fn := ⟨1, 6, .pure, (.cons (.asg (.nm 1) (.mth .get (.glb 0) (.cons (.ix (.var 0) (.cst (.int 0))) (.cons (.cst .non) .nil))))
  (.cons (.ife (.or (.cmp .isN (.var 1) (.cst .non)) (.cmp .ne (.prim .len (.cons (.var 0) .nil)) (.bin .add false (.prim .len (.cons (.var 1) .nil)) (.cst (.int 1))))) (.cons (.ret (.cst .non))
  .nil) .nil)
  (.cons (.asg (.nm 2) (.lc false [3, 4] (.tp [(.nm 3), (.nm 4)]) (.zipM (.var 1) (.slc false (.var 0) (.cst (.int 1)) (.cst .non))) (.cst (.bl true)) (.ite (.cmp .eq (.var 3) (.cst (.str x_bit))) (.call 0 (.cons (.var 4) .nil)) (.var 4))))
  (.cons (.asg (.nm 5) (.bin .add false (.tup (.cons (.ix (.var 0) (.cst (.int 0))) .nil)) (.prim .tuple (.cons (.var 2) .nil))))
  (.cons (.ret (.ite (.call 1 (.cons (.var 5) .nil)) (.var 5) (.cst .non)))
  .nil)))))⟩
abbrev G_parsed_step (o : Ops) : Ctx := ⟨[F_parsed_integer o, F_is_well_formed o], [], [], [g_STEP_ITEMS], o, 1000000, [10, 14], []⟩
def F_parsed_step (o : Ops) : F1 := runF (G_parsed_step o) c_parsed_step
def c_read_steps : Fn := ⟨1, 5, .pure, (.cons (.expr (.call 0 (.cons (.var 0) .nil)))
  (.cons (.asg (.nm 1) (.lst true .nil))
  (.cons (.for_ (.tp [(.nm 2), (.nm 3)]) (.enm (.ite (.cmp .ne (.var 0) (.cst (.str []))) (.mth (.split false) (.var 0) (.cons (.cst (.str [10])) .nil)) (.lst false .nil)) 1) (.cons (.asg (.nm 4) (.call 1 (.cons (.mth (.split false) (.var 3) (.cons (.cst (.str [32])) .nil)) .nil)))
  (.cons (.ife (.cmp .isN (.var 4) (.cst .non)) (.cons (.raise 14 (.var 2))
  .nil) .nil)
  (.cons (.expr (.mth .append (.var 1) (.cons (.var 4) .nil)))
  .nil))))
  (.cons (.ret (.prim .tuple (.cons (.var 1) .nil)))
  .nil))))⟩
abbrev G_read_steps (o : Ops) : Ctx := ⟨[F_need_text o, F_parsed_step o], [], [], [], o, 1000000, [10, 14], []⟩
def F_read_steps (o : Ops) : F1 := runF (G_read_steps o) c_read_steps
def c__law_begun : Fn := ⟨1, 3, .opn, (.cons (.asg (.nm 1) (.dct true false (.cons (.cst (.str x_great)) (.cons (.lc true [2] (.nm 2) (.val (.var 0)) (.cmp .ge (.var 2) (.bin .pow false (.cst (.int 10)) (.cst (.int 18)))) (.var 2)) (.cons (.cst (.str x_small)) (.cons (.cst (.int 0)) (.cons (.cst (.str x_at)) (.cons (.cst (.int 0)) .nil))))))))
  (.cons (.for_ (.nm 2) (.val (.var 0)) (.cons (.ife (.cmp .lt (.var 2) (.bin .pow false (.cst (.int 10)) (.cst (.int 18)))) (.cons (.asg (.sub (.var 1) (.cst (.str x_small))) (.bin .add false (.bin .add false (.bin .mul false (.ix (.var 1) (.cst (.str x_small))) (.bin .pow false (.cst (.int 10)) (.cst (.int 18)))) (.bin .mod false (.var 2) (.bin .pow false (.cst (.int 10)) (.cst (.int 18))))) (.cst (.int 1))))
  (.cons (.asg (.sub (.var 1) (.cst (.str x_small))) (.bin .mod false (.ix (.var 1) (.cst (.str x_small))) (.bin .mul false (.bin .sub false (.bin .pow false (.cst (.int 2)) (.cst (.int 61))) (.cst (.int 1))) (.bin .sub false (.bin .pow false (.cst (.int 2)) (.cst (.int 31))) (.cst (.int 1))))))
  .nil)) .nil)
  .nil))
  (.cons (.ret (.var 1))
  .nil)))⟩
abbrev G__law_begun (o : Ops) : Ctx := ⟨[], [], [], [], o, 1000000, [10, 14], []⟩
def F__law_begun (o : Ops) : F1 := runF (G__law_begun o) c__law_begun
def c__law_draw : Fn := ⟨2, 7, .opn, (.cons (.asg (.nm 2) (.ix (.var 0) (.cst (.str x_at))))
  (.cons (.asg (.sub (.var 0) (.cst (.str x_at))) (.bin .add false (.var 2) (.cst (.int 1))))
  (.cons (.ife (.cmp .ne (.ix (.var 0) (.cst (.str x_great))) (.lst false .nil)) (.cons (.asg (.nm 3) (.bin .mod false (.var 2) (.prim .len (.cons (.ix (.var 0) (.cst (.str x_great))) .nil))))
  (.cons (.asg (.nm 4) (.ix (.ix (.var 0) (.cst (.str x_great))) (.var 3)))
  (.cons (.ife (.cmp .gt (.var 4) (.cst (.int 0))) (.cons (.asg (.sub (.ix (.var 0) (.cst (.str x_great))) (.var 3)) (.bin .fdiv false (.var 4) (.var 1)))
  (.cons (.ret (.bin .mod false (.var 4) (.var 1)))
  .nil)) .nil)
  .nil))) .nil)
  (.cons (.asg (.nm 5) (.lst false (.cons (.cst (.int 2147483647)) (.cons (.cst (.int 2147483629)) (.cons (.cst (.int 2147483587)) (.cons (.cst (.int 2147483579)) (.cons (.cst (.int 2147483563)) (.cons (.cst (.int 2147483549)) (.cons (.cst (.int 2147483543)) (.cons (.cst (.int 2147483497)) .nil))))))))))
  (.cons (.asg (.nm 6) (.bin .mod false (.bin .add false (.bin .add false (.ix (.var 0) (.cst (.str x_small))) (.bin .mul false (.cst (.int 7919)) (.var 2))) (.cst (.int 17))) (.ix (.var 5) (.bin .mod false (.var 2) (.cst (.int 8))))))
  (.cons (.asg (.nm 6) (.bin .mod false (.bin .add false (.bin .mul false (.var 6) (.bin .add false (.cst (.int 48271)) (.bin .mul false (.cst (.int 2)) (.var 2)))) (.bin .mul false (.cst (.int 104729)) (.var 2))) (.ix (.var 5) (.bin .mod false (.var 2) (.cst (.int 8))))))
  (.cons (.ret (.bin .mod false (.bin .fdiv false (.bin .mod false (.bin .mul false (.bin .mul false (.var 6) (.var 6)) (.var 6)) (.ix (.var 5) (.bin .mod false (.var 2) (.cst (.int 8))))) (.cst (.int 7))) (.var 1)))
  .nil)))))))⟩
abbrev G__law_draw (o : Ops) : Ctx := ⟨[], [], [], [], o, 1000000, [10, 14], []⟩
def F__law_draw (o : Ops) : F1 := runF (G__law_draw o) c__law_draw
def c__law_name : Fn := ⟨1, 6, .opn, (.cons (.asg (.nm 1) (.mth (.split false) (.cst (.str x_99_97_110_99_101_108_71)) (.cons (.cst (.str [32])) .nil)))
  (.cons (.asg (.tp [(.nm 2), (.nm 3)]) (.tup (.cons (.call 0 (.cons (.var 0) (.cons (.cst (.int 3)) .nil))) (.cons (.bin .add false (.cst (.int 1)) (.call 0 (.cons (.var 0) (.cons (.cst (.int 8)) .nil)))) .nil))))
  (.cons (.asg (.nm 4) (.mth .join (.cst (.str [])) (.cons (.lc false [5] (.nm 5) (.rng (.cons (.var 3) .nil)) (.cst (.bl true)) (.ix (.cst (.str x_letters)) (.call 0 (.cons (.var 0) (.cons (.cst (.int 26)) .nil))))) .nil)))
  (.cons (.ret (.ite (.cmp .eq (.var 2) (.cst (.int 0))) (.ix (.var 1) (.call 0 (.cons (.var 0) (.cons (.cst (.int 11)) .nil)))) (.var 4)))
  .nil))))⟩
abbrev G__law_name (o : Ops) : Ctx := ⟨[F__law_draw o], [], [], [], o, 1000000, [10, 14], []⟩
def F__law_name (o : Ops) : F1 := runF (G__law_name o) c__law_name
def c__law_end : Fn := ⟨1, 3, .opn, (.cons (.asg (.tp [(.nm 1), (.nm 2)]) (.tup (.cons (.call 0 (.cons (.var 0) .nil)) (.cons (.prim .str (.cons (.call 1 (.cons (.var 0) (.cons (.cst (.int 8)) .nil))) .nil)) .nil))))
  (.cons (.ret (.ite (.cmp .eq (.call 1 (.cons (.var 0) (.cons (.cst (.int 2)) .nil))) (.cst (.int 0))) (.var 2) (.var 1)))
  .nil))⟩
abbrev G__law_end (o : Ops) : Ctx := ⟨[F__law_name o, F__law_draw o], [], [], [], o, 1000000, [10, 14], []⟩
def F__law_end (o : Ops) : F1 := runF (G__law_end o) c__law_end
def c__law_step : Fn := ⟨1, 7, .opn, (.cons (.asg (.tp [(.nm 1), (.nm 2), (.nm 3)]) (.tup (.cons (.call 0 (.cons (.var 0) .nil)) (.cons (.call 0 (.cons (.var 0) .nil)) (.cons (.ix (.lst false (.cons (.cst (.str x_crossed)) (.cons (.cst (.str x_plain)) .nil))) (.call 1 (.cons (.var 0) (.cons (.cst (.int 2)) .nil)))) .nil)))))
  (.cons (.asg (.tp [(.nm 4), (.nm 5)]) (.tup (.cons (.prim (.sorted false) (.cons (.lst false (.cons (.call 2 (.cons (.var 0) .nil)) (.cons (.call 2 (.cons (.var 0) .nil)) .nil))) .nil)) (.cons (.call 1 (.cons (.var 0) (.cons (.cst (.int 2)) .nil))) .nil))))
  (.cons (.asg (.nm 6) (.lst false (.cons (.tup (.cons (.cst (.str x_recolor)) (.cons (.var 1) .nil))) (.cons (.tup (.cons (.cst (.str x_fuse)) (.cons (.var 1) (.cons (.var 2) .nil)))) (.cons (.tup (.cons (.cst (.str x_drop)) (.cons (.var 2) .nil))) (.cons (.tup (.cons (.cst (.str x_insert)) (.cons (.ix (.var 4) (.cst (.int 0))) (.cons (.ix (.var 4) (.cst (.int 1))) (.cons (.var 3) (.cons (.var 2) (.cons (.var 5) .nil))))))) .nil))))))
  (.cons (.asg (.nm 6) (.bin .add false (.var 6) (.lst false (.cons (.tup (.cons (.cst (.str x_unloop)) (.cons (.var 1) (.cons (.var 3) .nil)))) (.cons (.tup (.cons (.cst (.str x_cancel)) (.cons (.var 2) (.cons (.var 1) .nil)))) (.cons (.tup (.cons (.cst (.str x_evaluate)) (.cons (.var 2) .nil))) (.cons (.tup (.cons (.cst (.str x_complement)) (.cons (.var 1) .nil))) .nil)))))))
  (.cons (.asg (.nm 6) (.bin .add false (.var 6) (.lst false (.cons (.tup (.cons (.cst (.str x_pivot)) (.cons (.var 1) (.cons (.var 1) .nil)))) (.cons (.tup (.cons (.cst (.str x_rename)) (.cons (.var 2) (.cons (.var 2) .nil)))) (.cons (.tup (.cons (.cst (.str x_clear)) .nil)) .nil))))))
  (.cons (.ret (.ix (.var 6) (.call 1 (.cons (.var 0) (.cons (.cst (.int 11)) .nil)))))
  .nil))))))⟩
abbrev G__law_step (o : Ops) : Ctx := ⟨[F__law_name o, F__law_draw o, F__law_end o], [], [], [], o, 1000000, [10, 14], []⟩
def F__law_step (o : Ops) : F1 := runF (G__law_step o) c__law_step
def c__law_bent : Fn := ⟨2, 7, .opn, (.cons (.asg (.tp [(.nm 2), (.nm 3)]) (.tup (.cons (.call 0 (.cons (.var 0) (.cons (.cst (.int 7)) .nil))) (.cons (.bin .mod false (.call 0 (.cons (.var 0) (.cons (.cst (.int 6)) .nil))) (.prim .len (.cons (.var 1) .nil))) .nil))))
  (.cons (.asg (.nm 4) (.lst false (.cons (.cst .non) (.cons (.cst (.bl true)) (.cons (.cst (.int 0)) (.cons (.bin .sub false (.cst (.int 0)) (.cst (.int 1))) (.cons (.cst (.int 2)) (.cons (.cst (.str [])) (.cons (.cst (.str [65])) (.cons (.cst (.str [97])) (.cons (.cst (.str [56])) (.cons (.cst (.str [57])) (.cons (.cst (.str x_10)) (.cons (.cst (.str x_abcdefghi)) (.cons (.cst (.str x_clear)) (.cons (.cst (.str x_steps)) (.cons (.cst (.str x_plain)) (.cons (.tup .nil) (.cons (.lst false .nil) (.cons (.dct false false .nil) .nil))))))))))))))))))))
  (.cons (.asg (.nm 5) (.ix (.var 4) (.call 0 (.cons (.var 0) (.cons (.cst (.int 18)) .nil)))))
  (.cons (.asg (.nm 6) (.lst false (.cons (.bin .add false (.bin .add false (.slc false (.var 1) (.cst .non) (.var 3)) (.tup (.cons (.var 5) .nil))) (.slc false (.var 1) (.bin .add false (.var 3) (.cst (.int 1))) (.cst .non))) (.cons (.bin .add false (.slc false (.var 1) (.cst .non) (.var 3)) (.slc false (.var 1) (.bin .add false (.var 3) (.cst (.int 1))) (.cst .non))) (.cons (.bin .add false (.bin .add false (.slc false (.var 1) (.cst .non) (.var 3)) (.tup (.cons (.var 5) .nil))) (.slc false (.var 1) (.var 3) (.cst .non))) .nil)))))
  (.cons (.ret (.ix (.bin .add false (.var 6) (.lst false (.cons (.prim (.list false) (.cons (.var 1) .nil)) (.cons (.rev false (.var 1)) (.cons (.var 5) (.cons (.bin .add false (.bin .add false (.bin .add false (.slc false (.var 1) (.cst .non) (.cst (.int 1))) (.slc false (.var 1) (.cst (.int 2)) (.cst (.int 3)))) (.slc false (.var 1) (.cst (.int 1)) (.cst (.int 2)))) (.slc false (.var 1) (.cst (.int 3)) (.cst .non))) .nil)))))) (.var 2)))
  .nil)))))⟩
abbrev G__law_bent (o : Ops) : Ctx := ⟨[F__law_draw o], [], [], [], o, 1000000, [10, 14], []⟩
def F__law_bent (o : Ops) : F1 := runF (G__law_bent o) c__law_bent
def c__law_is_name : Fn := ⟨1, 2, .pure, (.cons (.ife (.or (.not (.prim (.isa [.tstr]) (.cons (.var 0) .nil))) (.not (.chn .lt .lt (.cst (.int 0)) (.prim .len (.cons (.var 0) .nil)) (.cst (.int 9))))) (.cons (.ret (.cst (.bl false)))
  .nil) .nil)
  (.cons (.ret (.cmp .eq (.lc false [1] (.nm 1) (.val (.var 0)) (.cmp .nin (.var 1) (.cst (.str x_letters))) (.var 1)) (.lst false .nil)))
  .nil))⟩
abbrev G__law_is_name (o : Ops) : Ctx := ⟨[], [], [], [], o, 1000000, [10, 14], []⟩
def F__law_is_name (o : Ops) : F1 := runF (G__law_is_name o) c__law_is_name
def c__law_is_mode : Fn := ⟨1, 1, .pure, (.cons (.ret (.and (.prim (.isa [.tstr]) (.cons (.var 0) .nil)) (.cmp .inn (.var 0) (.tup (.cons (.cst (.str x_crossed)) (.cons (.cst (.str x_plain)) .nil))))))
  .nil)⟩
abbrev G__law_is_mode (o : Ops) : Ctx := ⟨[], [], [], [], o, 1000000, [10, 14], []⟩
def F__law_is_mode (o : Ops) : F1 := runF (G__law_is_mode o) c__law_is_mode
def c__law_is_end : Fn := ⟨1, 1, .pure, (.cons (.ret (.or (.call 0 (.cons (.var 0) .nil)) (.and (.prim (.isa [.tstr]) (.cons (.var 0) .nil)) (.cmp .inn (.var 0) (.tup (.cons (.cst (.str [48])) (.cons (.cst (.str [49])) (.cons (.cst (.str [50])) (.cons (.cst (.str [51])) (.cons (.cst (.str [52])) (.cons (.cst (.str [53])) (.cons (.cst (.str [54])) (.cons (.cst (.str [55])) .nil)))))))))))))
  .nil)⟩
abbrev G__law_is_end (o : Ops) : Ctx := ⟨[F__law_is_name o], [], [], [], o, 1000000, [10, 14], []⟩
def F__law_is_end (o : Ops) : F1 := runF (G__law_is_end o) c__law_is_end
def c__law_is_well_formed : Fn := ⟨1, 4, .pure, (.cons (.ife (.or (.not (.prim (.isa [.ttup]) (.cons (.var 0) .nil))) (.or (.cmp .eq (.var 0) (.tup .nil)) (.not (.prim (.isa [.tstr]) (.cons (.ix (.var 0) (.cst (.int 0))) .nil))))) (.cons (.ret (.cst (.bl false)))
  .nil) .nil)
  (.cons (.asg (.tp [(.nm 1), (.nm 2)]) (.tup (.cons (.ix (.var 0) (.cst (.int 0))) (.cons (.slc false (.var 0) (.cst (.int 1)) (.cst .non)) .nil))))
  (.cons (.ife (.cmp .inn (.var 1) (.tup (.cons (.cst (.str x_recolor)) (.cons (.cst (.str x_drop)) (.cons (.cst (.str x_evaluate)) (.cons (.cst (.str x_complement)) .nil)))))) (.cons (.ret (.and (.cmp .eq (.prim .len (.cons (.var 2) .nil)) (.cst (.int 1))) (.call 0 (.cons (.ix (.var 2) (.cst (.int 0))) .nil))))
  .nil) .nil)
  (.cons (.ife (.cmp .inn (.var 1) (.tup (.cons (.cst (.str x_fuse)) (.cons (.cst (.str x_cancel)) (.cons (.cst (.str x_pivot)) (.cons (.cst (.str x_rename)) .nil)))))) (.cons (.ret (.and (.cmp .eq (.prim .len (.cons (.var 2) .nil)) (.cst (.int 2))) (.and (.call 0 (.cons (.ix (.var 2) (.cst (.int 0))) .nil)) (.call 0 (.cons (.ix (.var 2) (.cst (.int 1))) .nil)))))
  .nil) .nil)
  (.cons (.ife (.cmp .eq (.var 1) (.cst (.str x_unloop))) (.cons (.ret (.and (.cmp .eq (.prim .len (.cons (.var 2) .nil)) (.cst (.int 2))) (.and (.call 0 (.cons (.ix (.var 2) (.cst (.int 0))) .nil)) (.call 1 (.cons (.ix (.var 2) (.cst (.int 1))) .nil)))))
  .nil) .nil)
  (.cons (.ife (.or (.cmp .ne (.var 1) (.cst (.str x_insert))) (.cmp .ne (.prim .len (.cons (.var 2) .nil)) (.cst (.int 5)))) (.cons (.ret (.cmp .eq (.var 0) (.tup (.cons (.cst (.str x_clear)) .nil))))
  .nil) .nil)
  (.cons (.ife (.or (.not (.call 2 (.cons (.ix (.var 2) (.cst (.int 0))) .nil))) (.or (.not (.call 2 (.cons (.ix (.var 2) (.cst (.int 1))) .nil))) (.or (.not (.call 1 (.cons (.ix (.var 2) (.cst (.int 2))) .nil))) (.not (.call 0 (.cons (.ix (.var 2) (.cst (.int 3))) .nil)))))) (.cons (.ret (.cst (.bl false)))
  .nil) .nil)
  (.cons (.asg (.nm 3) (.ix (.var 2) (.cst (.int 4))))
  (.cons (.ret (.and (.cmp .le (.ix (.var 2) (.cst (.int 0))) (.ix (.var 2) (.cst (.int 1)))) (.and (.prim (.isa [.tint]) (.cons (.var 3) .nil)) (.and (.not (.prim (.isa [.tbool]) (.cons (.var 3) .nil))) (.cmp .inn (.var 3) (.tup (.cons (.cst (.int 0)) (.cons (.cst (.int 1)) .nil))))))))
  .nil)))))))))⟩
abbrev G__law_is_well_formed (o : Ops) : Ctx := ⟨[F__law_is_name o, F__law_is_mode o, F__law_is_end o], [], [], [], o, 1000000, [10, 14], []⟩
def F__law_is_well_formed (o : Ops) : F1 := runF (G__law_is_well_formed o) c__law_is_well_formed
def c__law_said : Sd := ⟨3, [10, 14], (.cons (.ife (.cmp .isN (.var 1) (.cst .non)) (.cons (.ret (.cst (.str [])))
  .nil) .nil)
  (.cons (.ife (.isx (.var 1) [10]) (.cons (.ret (.bin .add false (.cst (.str x_115_116_101_112_32)) (.prim .str (.cons (.xfld (.var 1) x_index) .nil))))
  .nil) .nil)
  (.cons (.ret (.ite (.isx (.var 1) [14]) (.bin .add false (.cst (.str x_108_105_110_101_32)) (.prim .str (.cons (.xfld (.var 1) x_line) .nil))) (.cst (.str x_other))))
  .nil)))⟩
abbrev G__law_said (o : Ops) : Ctx := ⟨[], [], [], [], o, 1000000, [10, 14], []⟩
def F__law_said (o : Ops) : (PH → R PV) → PH → R PV := saidF (G__law_said o) c__law_said
def c__law_errors_right : Fn := ⟨2, 11, .trim, (.cons (.asg (.nm 2) (.call 0 (.cons (.var 0) (.cons (.bin .add false (.prim .len (.cons (.var 1) .nil)) (.cst (.int 1))) .nil))))
  (.cons (.asg (.nm 3) (.ite (.cmp .lt (.var 2) (.prim .len (.cons (.var 1) .nil))) (.ix (.var 1) (.var 2)) (.tup (.cons (.cst (.str x_drop)) (.cons (.cst (.str [97])) .nil)))))
  (.cons (.asg (.nm 4) (.bin .add false (.bin .add false (.slc false (.var 1) (.cst .non) (.var 2)) (.tup (.cons (.call 1 (.cons (.var 0) (.cons (.var 3) .nil))) .nil))) (.slc false (.var 1) (.var 2) (.cst .non))))
  (.cons (.asg (.nm 5) (.lc false [6, 7] (.tp [(.nm 6), (.nm 7)]) (.enm (.var 4) 0) (.not (.call 2 (.cons (.var 7) .nil))) (.var 6)))
  (.cons (.asg (.nm 8) (.ite (.cmp .ne (.var 5) (.lst false .nil)) (.bin .add false (.cst (.str x_115_116_101_112_32)) (.prim .str (.cons (.ix (.var 5) (.cst (.int 0))) .nil))) (.cst (.str []))))
  (.cons (.asg (.nm 9) (.ix (.lst false (.cons (.cst .non) (.cons (.cst (.int 5)) (.cons (.cst (.bl true)) (.cons (.cst (.str x_clear)) (.cons (.dct false false .nil) (.cons (.cst (.str [])) (.cons (.bin .pow false (.cst (.int 10)) (.cst (.int 30))) .nil)))))))) (.call 0 (.cons (.var 0) (.cons (.cst (.int 7)) .nil)))))
  (.cons (.say (.asg (.nm 10) (.lst true (.cons (.said 0 x_95_108_97_119_95_101_17 (.call 3 (.cons (.var 4) .nil))) .nil))))
  (.cons (.say (.expr (.mth .append (.var 10) (.cons (.said 0 x_95_108_97_119_95_101_17 (.call 3 (.cons (.prim (.list false) (.cons (.var 4) .nil)) .nil))) .nil))))
  (.cons (.say (.expr (.mth .append (.var 10) (.cons (.said 0 x_95_108_97_119_95_101_17 (.call 3 (.cons (.var 9) .nil))) .nil))))
  (.cons (.say (.expr (.mth .append (.var 10) (.cons (.said 0 x_95_108_97_119_95_101_17 (.call 4 (.cons (.ix (.lst false (.cons (.cst .non) (.cons (.cst (.int 5)) (.cons (.cst (.bl true)) (.cons (.lst false (.cons (.cst (.str x_clear)) .nil)) (.cons (.tup (.cons (.cst (.str x_clear)) .nil)) (.cons (.dct false false .nil) (.cons (.var 1) .nil)))))))) (.bin .mod false (.var 2) (.cst (.int 7)))) .nil))) .nil))))
  (.cons (.ret (.cmp .eq (.var 10) (.lst false (.cons (.var 8) (.cons (.var 8) (.cons (.cst (.str x_115_116_101_112_32_48)) (.cons (.cst (.str x_108_105_110_101_32_48)) .nil)))))))
  .nil)))))))))))⟩
abbrev G__law_errors_right (o : Ops) : Ctx := ⟨[F__law_draw o, F__law_bent o, F__law_is_well_formed o, F_steps_text o, F_read_steps o], [], [], [], o, 1000000, [10, 14], [F__law_said o]⟩
def F__law_errors_right (o : Ops) : F1 := runF (G__law_errors_right o) c__law_errors_right
def c_law : Fn := ⟨1, 9, .opn, (.cons (.asg (.nm 1) (.call 0 (.cons (.var 0) .nil)))
  (.cons (.for_ (.nm 2) (.rng (.cons (.cst (.int 8)) .nil)) (.cons (.asg (.nm 3) (.prim .tuple (.cons (.lc false [4] (.nm 4) (.rng (.cons (.call 1 (.cons (.var 1) (.cons (.cst (.int 9)) .nil))) .nil)) (.cst (.bl true)) (.call 2 (.cons (.var 1) .nil))) .nil)))
  (.cons (.asg (.tp [(.nm 5), (.nm 6)]) (.tup (.cons (.prim .repr (.cons (.var 3) .nil)) (.cons (.mth .join (.cst (.str [10])) (.cons (.lc false [8] (.nm 8) (.val (.var 3)) (.cst (.bl true)) (.mth .join (.cst (.str [32])) (.cons (.lc false [7] (.nm 7) (.val (.var 8)) (.cst (.bl true)) (.prim .str (.cons (.var 7) .nil))) .nil))) .nil)) .nil))))
  (.cons (.ife (.cmp .ne (.lst false (.cons (.call 3 (.cons (.var 3) .nil)) (.cons (.call 3 (.cons (.prim (.list false) (.cons (.var 3) .nil)) .nil)) (.cons (.call 3 (.cons (.var 3) .nil)) .nil)))) (.bin .mul false (.lst false (.cons (.var 6) .nil)) (.cst (.int 3)))) (.cons (.ret (.cst (.bl false)))
  .nil) .nil)
  (.cons (.ife (.cmp .ne (.lst false (.cons (.prim .repr (.cons (.call 4 (.cons (.var 6) .nil)) .nil)) (.cons (.prim .repr (.cons (.call 4 (.cons (.var 6) .nil)) .nil)) .nil))) (.bin .mul false (.lst false (.cons (.var 5) .nil)) (.cst (.int 2)))) (.cons (.ret (.cst (.bl false)))
  .nil) .nil)
  (.cons (.ife (.or (.not (.call 5 (.cons (.var 1) (.cons (.var 3) .nil)))) (.cmp .ne (.prim .repr (.cons (.var 3) .nil)) (.var 5))) (.cons (.ret (.cst (.bl false)))
  .nil) .nil)
  .nil))))))
  (.cons (.ret (.cst (.bl true)))
  .nil)))⟩
abbrev G_law (o : Ops) : Ctx := ⟨[F__law_begun o, F__law_draw o, F__law_step o, F_steps_text o, F_read_steps o, F__law_errors_right o], [], [], [], o, 1000000, [10, 14], []⟩
def F_law (o : Ops) : F1 := runF (G_law o) c_law
end Ev
end
section
set_option maxRecDepth 10000
/-! PkA: running the evaluator by simp: equations, and combinators that stand still until they are decided. -/
namespace Ev
section
variable {α β : Type}
@[simp] theorem R.bind_ok {a : α} {h : PH} {f : α → PH → R β} : (R.ok a h).bind f = f a h := rfl
@[simp] theorem R.bind_exc {c : Nat} {a : PV} {h : PH} {f : α → PH → R β} : (R.exc c a h : R α).bind f = .exc c a h := rfl
@[simp] theorem R.bind_stk {f : α → PH → R β} : (R.stk : R α).bind f = .stk := rfl
@[simp] theorem R.on_ok {a : α} {h : PH} {f : α → PH → RS} : (R.ok a h).on f = f a h := rfl
@[simp] theorem R.on_exc {c : Nat} {a : PV} {h : PH} {f : α → PH → RS} : (R.exc c a h : R α).on f = .exc c a h := rfl
@[simp] theorem R.onT_ok {b : Bool} {h : PH} {f : Bool → PH → RS} : (R.ok (.bl b) h).onT f = f b h := rfl
@[simp] theorem R.test_ok {b : Bool} {h : PH} {f : Bool → PH → R α} : (R.ok (.bl b) h).test f = f b h := rfl
@[simp] theorem R.calm_ok {a : α} {h : PH} : (R.ok a h).calm = .ok a h := rfl
theorem R.bind_congr {r r' : R α} {f : α → PH → R β} (h : r = r') : r.bind f = r'.bind f := by rw [h]
theorem R.on_congr {r r' : R α} {f : α → PH → RS} (h : r = r') : r.on f = r'.on f := by rw [h]
theorem R.onT_congr {r r' : R PV} {f : Bool → PH → RS} (h : r = r') : r.onT f = r'.onT f := by rw [h]
theorem R.test_congr {r r' : R PV} {f : Bool → PH → R α} (h : r = r') : r.test f = r'.test f := by rw [h]
end
/-- a choice that waits -/
def ifc {α : Type} (b : Bool) (x y : α) : α := if b then x else y
@[simp] theorem ifc_t {α : Type} {x y : α} : ifc true x y = x := rfl
@[simp] theorem ifc_f {α : Type} {x y : α} : ifc false x y = y := rfl
theorem ifc_congr {α : Type} {b b' : Bool} {x y : α} (h : b = b') : ifc b x y = ifc b' x y := by rw [h]
theorem ifc_eq {α : Type} (b : Bool) (x y : α) : (if b = true then x else y) = ifc b x y := rfl
/-- what may be done only if it may -/
def gate {α : Type} (p : Prop) [Decidable p] (x y : α) : α := if p then x else y
theorem gate_t {α : Type} {p : Prop} [Decidable p] {x y : α} (h : p) : gate p x y = x := if_pos h
theorem gate_f {α : Type} {p : Prop} [Decidable p] {x y : α} (h : ¬ p) : gate p x y = y := if_neg h
def RS.seq (r : RS) (f : Env → PH → RS) : RS := match r with
  | .nx ρ h => f ρ h
  | r => r
@[simp] theorem RS.seq_nx {ρ : Env} {h : PH} {f : Env → PH → RS} : (RS.nx ρ h).seq f = f ρ h := rfl
@[simp] theorem RS.seq_ret {v : PV} {h : PH} {f : Env → PH → RS} : (RS.ret v h).seq f = .ret v h := rfl
@[simp] theorem RS.seq_exc {c : Nat} {v : PV} {h : PH} {f : Env → PH → RS} : (RS.exc c v h).seq f = .exc c v h := rfl
theorem RS.seq_congr {r r' : RS} {f : Env → PH → RS} (h : r = r') : r.seq f = r'.seq f := by rw [h]
def RS.toR : RS → R PV
  | .ret v h1 => .ok v h1
  | .nx _ h1 => .ok .non h1
  | .exc c a h1 => .exc c a h1
  | _ => .stk
@[simp] theorem RS.toR_ret {v : PV} {h : PH} : (RS.ret v h).toR = .ok v h := rfl
@[simp] theorem RS.toR_nx {ρ : Env} {h : PH} : (RS.nx ρ h).toR = .ok .non h := rfl
@[simp] theorem RS.toR_exc {c : Nat} {v : PV} {h : PH} : (RS.exc c v h).toR = .exc c v h := rfl
section
variable {G : Ctx} {ρ : Env} {h : PH}
def look (ρ : Env) (i : Nat) (h : PH) : R PV := match ρ[i]? with
  | some (some v) => .ok v h
  | _ => .stk
@[simp] theorem look_some {v : PV} {i : Nat} (e : ρ[i]? = some (some v)) : look ρ i h = .ok v h := by simp [look, e]
@[simp] theorem ev_var {i : Nat} : evE G (.var i) ρ h = look ρ i h := by rw [evE]; rfl
@[simp] theorem ev_cst {v : PV} : evE G (.cst v) ρ h = .ok v h := by rw [evE]
def lookG (l : List PV) (i : Nat) (h : PH) : R PV := match l[i]? with
  | some v => .ok v h
  | none => .stk
@[simp] theorem ev_glb {i : Nat} : evE G (.glb i) ρ h = lookG G.glbs i h := by rw [evE]; rfl
@[simp] theorem lookG_some {v : PV} {l : List PV} {i : Nat} (e : l[i]? = some v) : lookG l i h = .ok v h := by simp [lookG, e]
@[simp] theorem ev_bin {op : Op} {mu : Bool} {a b : CE} : evE G (.bin op mu a b) ρ h = (evE G a ρ h).bind fun x h1 => (evE G b ρ h1).bind fun y h2 => binop op mu x y h2 := by rw [evE]
@[simp] theorem ev_cmp {op : Cm} {a b : CE} : evE G (.cmp op a b) ρ h = (evE G a ρ h).bind fun x h1 => (evE G b ρ h1).bind fun y h2 => ofB (cmpop op x y h2) h2 := by rw [evE]
def chn2 (o : Option Bool) (h2 : PH) (k : R PV) : R PV := match o with
  | some true => k
  | some false => .ok (.bl false) h2
  | none => .stk
@[simp] theorem chn2_some {b : Bool} {k : R PV} : chn2 (some b) h k = ifc b k (.ok (.bl false) h) := by cases b <;> rfl
theorem chn2_congr {o o' : Option Bool} {k : R PV} (e : o = o') : chn2 o h k = chn2 o' h k := by rw [e]
@[simp] theorem ev_chn {op op' : Cm} {a b c : CE} : evE G (.chn op op' a b c) ρ h = (evE G a ρ h).bind fun x h1 => (evE G b ρ h1).bind fun y h2 => chn2 (cmpop op x y h2) h2 ((evE G c ρ h2).bind fun z h3 => ofB (cmpop op' y z h3) h3) := by
  rw [evE]; rfl
@[simp] theorem ev_and {a b : CE} : evE G (.and a b) ρ h = (evE G a ρ h).test fun t h1 => ifc t ((evE G b ρ h1).test fun u h2 => .ok (.bl u) h2) (.ok (.bl false) h1) := by rw [evE]; rfl
@[simp] theorem ev_or {a b : CE} : evE G (.or a b) ρ h = (evE G a ρ h).test fun t h1 => ifc t (.ok (.bl true) h1) ((evE G b ρ h1).test fun u h2 => .ok (.bl u) h2) := by rw [evE]; rfl
@[simp] theorem ev_not {a : CE} : evE G (.not a) ρ h = (evE G a ρ h).test fun t h1 => .ok (.bl (!t)) h1 := by rw [evE]
@[simp] theorem ev_ite {c a b : CE} : evE G (.ite c a b) ρ h = (evE G c ρ h).test fun t h1 => ifc t (evE G a ρ h1) (evE G b ρ h1) := by rw [evE]; rfl
@[simp] theorem ev_tup {es : CEs} : evE G (.tup es) ρ h = (evL G es ρ h).bind fun vs h1 => gate (vs.length ≤ 16777216) (.ok (.tup vs) h1) .stk := by rw [evE]; rfl
@[simp] theorem ev_lst {mu : Bool} {es : CEs} : evE G (.lst mu es) ρ h = (evL G es ρ h).bind fun vs h1 => gate (vs.length ≤ 16777216) (newLst mu vs h1) .stk := by rw [evE]; rfl
@[simp] theorem newLst_f {xs : List PV} : newLst false xs h = .ok (.lst xs) h := rfl
@[simp] theorem newLst_t {xs : List PV} : newLst true xs h = .ok (.ref h.length) (h ++ [.lst xs]) := rfl
@[simp] theorem newDct_f {tk : Bool} {xs : List (PV × PV)} : newDct false tk xs h = .ok (.dct tk xs) h := rfl
@[simp] theorem newDct_t {tk : Bool} {xs : List (PV × PV)} : newDct true tk xs h = .ok (.ref h.length) (h ++ [.dct tk xs]) := rfl
@[simp] theorem ev_ix {a b : CE} : evE G (.ix a b) ρ h = (evE G a ρ h).bind fun x h1 => (evE G b ρ h1).bind fun y h2 => ixop x y h2 := by rw [evE]
@[simp] theorem ev_slc {mu : Bool} {a lo hi : CE} : evE G (.slc mu a lo hi) ρ h = (evE G a ρ h).bind fun x h1 => (evE G lo ρ h1).bind fun y h2 => ifc (isPart y) ((evE G hi ρ h2).bind fun z h3 => slcop mu x y z h3) .stk := by rw [evE]; rfl
@[simp] theorem ev_call {f : Nat} {es : CEs} : evE G (.call f es) ρ h = (evL G es ρ h).bind fun vs h1 => match G.fns[f]? with
    | some g => g vs h1
    | none => .stk := by rw [evE] <;> rfl
@[simp] theorem ev_prim {p : Pr} {es : CEs} : evE G (.prim p es) ρ h = (evL G es ρ h).bind fun vs h1 => primop G.rep p vs h1 := by rw [evE]
@[simp] theorem ev_mth {p : Pr} {o : CE} {es : CEs} : evE G (.mth p o es) ρ h = (evE G o ρ h).bind fun x h1 => ifc (recvOk p (kind h1 x)) ((evL G es ρ h1).bind fun vs h2 => mthop p x vs h2) .stk := by rw [evE]; rfl
@[simp] theorem ev_rpl {one : Bool} {a : CE} {y z : Tx} : evE G (.rpl one a y z) ρ h = (evE G a ρ h).bind fun x h1 => match x with
    | .str x => gate (x.length + (x.length + 1) * z.length ≤ 16777216) (.ok (.str (G.ops.rpl one x y z)) h1) .stk
    | _ => .stk := by rw [evE]; rfl
@[simp] theorem ev_xfld {a : CE} {f : Tx} {c : Nat} {u : PV} (e : evE G a ρ h = .ok (.exc c u) h) (hc : (G.exs.contains c && decide (exFld c = f)) = true) : evE G (.xfld a f) ρ h = .ok u h := by
  rw [evE, e]
  exact if_pos hc
theorem ev_isx {a : CE} {cs : List Nat} {c : Nat} {u : PV} (e : evE G a ρ h = .ok (.exc c u) h) (hc : G.exs.contains c = true) : evE G (.isx a cs) ρ h = .ok (.bl (cs.contains c)) h := by
  rw [evE, e]
  exact if_pos hc
@[simp] theorem evL_nil : evL G .nil ρ h = .ok [] h := by rw [evL]
@[simp] theorem evL_one {e : CE} : evL G (.cons e .nil) ρ h = (evE G e ρ h).bind fun v h1 => .ok [v] h1 := by rw [evL]; simp
@[simp] theorem evL_two {e f : CE} {es : CEs} : evL G (.cons e (.cons f es)) ρ h = (evE G e ρ h).bind fun v h1 => (evL G (.cons f es) ρ h1).bind fun vs h2 => .ok (v :: vs) h2 := by rw [evL]
@[simp] theorem evI_val {e : CE} : evI G (.val e) ρ h = (evE G e ρ h).bind fun v h1 => match itemsOf h1 v with
    | some xs => .ok ⟨xs, lockOf v, newOf h1 v⟩ h1
    | none => .stk := by rw [evI] <;> rfl
@[simp] theorem evI_rng {es : CEs} : evI G (.rng es) ρ h = (evL G es ρ h).bind fun vs h1 => rngop vs h1 := by rw [evI]
@[simp] theorem evI_enm {e : CE} {st : Int} : evI G (.enm e st) ρ h = (evE G e ρ h).bind fun v h1 => enmOp st v h1 := by rw [evI]
@[simp] theorem evI_zip' {a b : CE} : evI G (.zip a b) ρ h = (evE G a ρ h).bind fun v h1 => (evE G b ρ h1).bind fun u h2 => zipOp v u h2 := by rw [evI]
@[simp] theorem evI_zipM' {a b : CE} : evI G (.zipM a b) ρ h = (evE G a ρ h).bind fun v h1 => (evE G b ρ h1).bind fun u h2 => zipMop v u h2 := by rw [evI]
/-! statements -/
@[simp] theorem evSs_nil : evSs G .nil ρ h = .nx ρ h := by rw [evSs]
@[simp] theorem evSs_cons {s : CS} {ss : CSs} : evSs G (.cons s ss) ρ h = (evS G s ρ h).seq (evSs G ss) := by rw [evSs]; rfl
@[simp] theorem evS_expr {e : CE} : evS G (.expr e) ρ h = (evE G e ρ h).on fun _ h1 => .nx ρ h1 := by rw [evS]
@[simp] theorem evS_asg {t : Pl} {e : CE} : evS G (.asg t e) ρ h = (evE G e ρ h).on fun v h1 => stP G t v ρ h1 := by rw [evS]
@[simp] theorem evS_ret {e : CE} : evS G (.ret e) ρ h = (evE G e ρ h).on fun v h1 => .ret v h1 := by rw [evS]
@[simp] theorem evS_ife {c : CE} {a b : CSs} : evS G (.ife c a b) ρ h = (evE G c ρ h).onT fun t h1 => ifc t (evSs G a ρ h1) (evSs G b ρ h1) := by rw [evS]; rfl
@[simp] theorem evS_raise {c : Nat} {e : CE} : evS G (.raise c e) ρ h = (evE G e ρ h).on fun v h1 => .exc c v h1 := by rw [evS]
@[simp] theorem evS_pass : evS G .pass ρ h = .nx ρ h := by rw [evS]
@[simp] theorem stP_nm {i : Nat} {v : PV} : stP G (.nm i) v ρ h = gate (i < ρ.length) (.nx (ρ.set i (some v)) h) .stk := by rw [stP]; rfl
theorem stP_tup {ts : List Pl} {vs : List PV} (e : vs.length = ts.length) : stP G (.tp ts) (.tup vs) ρ h = stPs G ts vs ρ h := by rw [stP]; simp [see, e]
@[simp] theorem stPs_nil : stPs G [] [] ρ h = .nx ρ h := by rw [stPs]
@[simp] theorem stPs_cons {t : Pl} {ts : List Pl} {v : PV} {vs : List PV} : stPs G (t :: ts) (v :: vs) ρ h = (stP G t v ρ h).seq fun ρ1 h1 => stPs G ts vs ρ1 h1 := by rw [stPs]; rfl
@[simp] theorem stP_sub {o i : CE} {v : PV} : stP G (.sub o i) v ρ h = (evE G o ρ h).on fun x h1 => (evE G i ρ h1).on fun y h2 => match setIx x y v h2 with
    | some h3 => .nx ρ h3
    | none => .stk := by rw [stP] <;> rfl
end
theorem runB_eq {G : Ctx} {f : Fn} {vs : List PV} {h : PH} : runB G f vs h = (evSs G f.body (vs.map some ++ List.replicate (f.nl - f.np) none) h).toR := by
  unfold runB RS.toR; rfl
/-! ### leaving a pure def -/
theorem runPure_ok {G : Ctx} {f : Fn} {vs : List PV} {h h1 : PH} {v : PV} (hm : f.mode = .pure) (hn : vs.length = f.np) (hc : PV.closedL 0 vs = true) (e : runB G f vs [] = .ok v h1) (hv : v.closed 0 = true) : runF G f vs h = .ok v h := by
  unfold runF
  rw [if_pos hn, hm]
  dsimp only
  rw [if_pos hc, e]
  simp [leave, frz, hv, back]
theorem pure_exc {G : Ctx} {f : Fn} {vs : List PV} {h h1 : PH} {c : Nat} {v : PV} (hm : f.mode = .pure) (hn : vs.length = f.np) (hc : PV.closedL 0 vs = true) (e : runB G f vs [] = .exc c v h1) (hv : v.closed 0 = true) : runF G f vs h = .exc c v h := by
  unfold runF
  rw [if_pos hn, hm]
  dsimp only
  rw [if_pos hc, e]
  simp [leave, hv, back]
theorem opn_eq {G : Ctx} {f : Fn} {vs : List PV} {h : PH} (hm : f.mode = .opn) (hn : vs.length = f.np) : runF G f vs h = runB G f vs h := by
  unfold runF
  rw [if_pos hn, hm]
/-! ### comprehensions -/
theorem held_nil (h0 h : PH) : held h0 [] h = true := rfl
theorem lcLoop_map {ck : PH → Bool} {tn : PV → PH → R (Option PV)} {f : PV → PV} {h : PH} : ∀ {xs acc : List PV}, (∀ x ∈ xs, tn x h = .ok (some (f x)) h) → ck h = true → acc.length + xs.length ≤ 16777216 → lcLoop ck tn xs acc h = .ok (acc ++ xs.map f) h
  | [], acc, _, hc, _ => by simp [lcLoop, hc]
  | x :: xs, acc, ht, hc, hl => by
    have h1 := ht x (by simp)
    simp only [lcLoop, hc, if_true, h1, R.bind]
    have : acc.length < 16777216 := by simp at hl; omega
    rw [if_pos this, lcLoop_map (fun y hy => ht y (by simp [hy])) hc (by simp at hl ⊢; omega)]
    simp
theorem lcLoop_filter {ck : PH → Bool} {tn : PV → PH → R (Option PV)} {p : PV → Bool} {h : PH} : ∀ {xs acc : List PV}, (∀ x ∈ xs, tn x h = .ok (if p x then some x else none) h) → ck h = true → acc.length + xs.length ≤ 16777216 → lcLoop ck tn xs acc h = .ok (acc ++ xs.filter p) h
  | [], acc, _, hc, _ => by simp [lcLoop, hc]
  | x :: xs, acc, ht, hc, hl => by
    have h1 := ht x (by simp)
    simp only [lcLoop, hc, if_true, h1, R.bind]
    have : acc.length < 16777216 := by simp at hl; omega
    cases hp : p x with
    | true =>
      simp only [if_true]
      rw [if_pos this, lcLoop_filter (fun y hy => ht y (by simp [hy])) hc (by simp at hl ⊢; omega)]
      simp [hp]
    | false =>
      simp only [Bool.false_eq_true, if_false]
      rw [lcLoop_filter (fun y hy => ht y (by simp [hy])) hc (by simp at hl ⊢; omega)]
      simp [hp]
end Ev
end
section
set_option maxRecDepth 10000
/-! PkB: running the evaluator by simp: operations on known kinds. -/
namespace Ev
variable {h : PH} {rep : PV → Tx}
@[simp] theorem gate_i {α : Type} {p : Prop} [Decidable p] {x y : α} (h : p) : gate p x y = x := if_pos h
@[simp] theorem ofB_some {b : Bool} : ofB (some b) h = .ok (.bl b) h := rfl
@[simp] theorem isPart_int {i : Int} : isPart (.int i) = true := rfl
@[simp] theorem isPart_non : isPart .non = true := rfl
@[simp] theorem ifc_bl {b x y : Bool} : ifc b (R.ok (PV.bl x) h) (R.ok (PV.bl y) h) = .ok (.bl (ifc b x y)) h := by cases b <;> rfl
@[simp] theorem ifc_tf {b : Bool} : ifc b true false = b := by cases b <;> rfl
@[simp] theorem ifc_ft {b : Bool} : ifc b false true = !b := by cases b <;> rfl
@[simp] theorem ifc_xf {b x : Bool} : ifc b x false = (b && x) := by cases b <;> rfl
@[simp] theorem ifc_tx {b x : Bool} : ifc b true x = (b || x) := by cases b <;> rfl
theorem ifc_true {α : Type} {b : Bool} {x y : α} (e : b = true) : ifc b x y = x := by rw [e]; rfl
theorem ifc_false {α : Type} {b : Bool} {x y : α} (e : b = false) : ifc b x y = y := by rw [e]; rfl
/-! isinstance -/
@[simp] theorem isa_str {ts : List Ty} {x : Tx} : primop rep (.isa ts) [.str x] h = .ok (.bl (ts.any fun t => tyIs t .str)) h := rfl
@[simp] theorem isa_int {ts : List Ty} {x : Int} : primop rep (.isa ts) [.int x] h = .ok (.bl (ts.any fun t => tyIs t .int)) h := rfl
@[simp] theorem isa_bl {ts : List Ty} {x : Bool} : primop rep (.isa ts) [.bl x] h = .ok (.bl (ts.any fun t => tyIs t .bool)) h := rfl
@[simp] theorem isa_non {ts : List Ty} : primop rep (.isa ts) [.non] h = .ok (.bl (ts.any fun t => tyIs t .non)) h := rfl
@[simp] theorem isa_tup {ts : List Ty} {x : List PV} : primop rep (.isa ts) [.tup x] h = .ok (.bl (ts.any fun t => tyIs t .tup)) h := rfl
@[simp] theorem isa_lst {ts : List Ty} {x : List PV} : primop rep (.isa ts) [.lst x] h = .ok (.bl (ts.any fun t => tyIs t .lst)) h := rfl

/-! len -/
@[simp] theorem len_str {x : Tx} : primop rep .len [.str x] h = gate (x.length ≤ 16777216) (.ok (.int x.length) h) .stk := rfl
@[simp] theorem len_lst {x : List PV} : primop rep .len [.lst x] h = .ok (.int x.length) h := rfl
@[simp] theorem len_tup {x : List PV} : primop rep .len [.tup x] h = .ok (.int x.length) h := rfl
@[simp] theorem len_ftp {x : List PV} : primop rep .len [.ftp x] h = .ok (.int x.length) h := rfl
/-! comparisons -/
@[simp] theorem lt_int {i j : Int} : cmpop .lt (.int i) (.int j) h = some (decide (i < j)) := by simp [cmpop, see, ltOk, PV.plain, PV.like, isNon, PV.depth, PV.lt]
@[simp] theorem gt_int {i j : Int} : cmpop .gt (.int i) (.int j) h = some (decide (j < i)) := by simp [cmpop, see, ltOk, PV.plain, PV.like, isNon, PV.depth, PV.lt]
@[simp] theorem le_int {i j : Int} : cmpop .le (.int i) (.int j) h = some (decide (i ≤ j)) := by
  simp [cmpop, see, ltOk, PV.plain, PV.like, isNon, PV.depth, PV.lt]
  by_cases q : j < i <;> simp [q] <;> omega
@[simp] theorem ge_int {i j : Int} : cmpop .ge (.int i) (.int j) h = some (decide (j ≤ i)) := by
  simp [cmpop, see, ltOk, PV.plain, PV.like, isNon, PV.depth, PV.lt]
  by_cases q : i < j <;> simp [q] <;> omega
@[simp] theorem eq_int {i j : Int} : cmpop .eq (.int i) (.int j) h = some (i == j) := by simp [cmpop, see, eqOk, PV.plain, PV.depth, PV.eqv]
@[simp] theorem ne_int {i j : Int} : cmpop .ne (.int i) (.int j) h = some (!(i == j)) := by simp [cmpop, see, eqOk, PV.plain, PV.depth, PV.eqv]
@[simp] theorem eq_str {i j : Tx} : cmpop .eq (.str i) (.str j) h = some (i == j) := by simp [cmpop, see, eqOk, PV.plain, PV.depth, PV.eqv]
@[simp] theorem ne_str {i j : Tx} : cmpop .ne (.str i) (.str j) h = some (!(i == j)) := by simp [cmpop, see, eqOk, PV.plain, PV.depth, PV.eqv]
@[simp] theorem eq_bl {i j : Bool} : cmpop .eq (.bl i) (.bl j) h = some (i == j) := by simp [cmpop, see, eqOk, PV.plain, PV.depth, PV.eqv]
@[simp] theorem ne_bl {i j : Bool} : cmpop .ne (.bl i) (.bl j) h = some (!(i == j)) := by simp [cmpop, see, eqOk, PV.plain, PV.depth, PV.eqv]
@[simp] theorem le_str {i j : Tx} : cmpop .le (.str i) (.str j) h = some (!ltT j i) := by simp [cmpop, see, ltOk, PV.plain, PV.like, isNon, PV.depth, PV.lt]
@[simp] theorem gt_str {i j : Tx} : cmpop .gt (.str i) (.str j) h = some (ltT j i) := by simp [cmpop, see, ltOk, PV.plain, PV.like, isNon, PV.depth, PV.lt]
@[simp] theorem lt_str {i j : Tx} : cmpop .lt (.str i) (.str j) h = some (ltT i j) := by simp [cmpop, see, ltOk, PV.plain, PV.like, isNon, PV.depth, PV.lt]
@[simp] theorem isN_eq {x : PV} : cmpop .isN x .non h = some (isNon x) := rfl
@[simp] theorem notN_eq {x : PV} : cmpop .notN x .non h = some (!isNon x) := rfl
@[simp] theorem isNon_non : isNon .non = true := rfl
@[simp] theorem isNon_int {i : Int} : isNon (.int i) = false := rfl
@[simp] theorem isNon_str {i : Tx} : isNon (.str i) = false := rfl
@[simp] theorem isNon_tup {i : List PV} : isNon (.tup i) = false := rfl
@[simp] theorem isNon_ftp {i : List PV} : isNon (.ftp i) = false := rfl
@[simp] theorem isNon_exc {c : Nat} {i : PV} : isNon (.exc c i) = false := rfl
theorem in_chr {c : Nat} {t : Tx} : cmpop .inn (.str [c]) (.str t) h = some (t.contains c) := rfl
theorem nin_chr {c : Nat} {t : Tx} : cmpop .nin (.str [c]) (.str t) h = some (!t.contains c) := rfl
/-! lists of texts -/
theorem plainL_str : ∀ xs : List Tx, PV.plainL (xs.map PV.str) = true
  | [] => rfl
  | x :: xs => by simp [PV.plainL, PV.plain, plainL_str xs]
theorem eqvL_str : ∀ xs ys : List Tx, PV.eqvL (xs.map PV.str) (ys.map PV.str) = (xs == ys)
  | [], [] => rfl
  | [], _ :: _ => rfl
  | _ :: _, [] => rfl
  | x :: xs, y :: ys => by
    simp only [List.map_cons, PV.eqvL, PV.eqv, eqvL_str xs ys]
    rfl
theorem depthL_str : ∀ xs : List Tx, PV.depthL (xs.map PV.str) = 0
  | [] => rfl
  | x :: xs => by simp [PV.depthL, PV.depth, depthL_str xs]
theorem closedL_str {n : Nat} : ∀ xs : List Tx, PV.closedL n (xs.map PV.str) = true
  | [] => rfl
  | x :: xs => by simp [PV.closedL, PV.closed, closedL_str xs]
theorem txtsL_str : ∀ xs : List Tx, txtsL (xs.map PV.str) = some xs
  | [] => rfl
  | x :: xs => by simp [txtsL, txtsL_str xs]
theorem boolsL_bl : ∀ xs : List Bool, boolsL (xs.map PV.bl) = some xs
  | [] => rfl
  | x :: xs => by simp [boolsL, boolsL_bl xs]
theorem any_eqv_str (x : Tx) : ∀ xs : List Tx, ((xs.map PV.str).any fun z => z.eqv (.str x)) = xs.contains x
  | [] => rfl
  | y :: ys => by
    rw [List.map_cons, List.any_cons, any_eqv_str x ys, List.contains_cons]
    simp only [PV.eqv]
    rw [BEq.comm]
theorem in_tup {x : Tx} {xs : List Tx} : cmpop .inn (.str x) (.tup (xs.map PV.str)) h = some (xs.contains x) := by
  simp only [cmpop, isIn, see, plainL_str, PV.plain, PV.depth, any_eqv_str]
  rfl
theorem nin_tup {x : Tx} {xs : List Tx} : cmpop .nin (.str x) (.tup (xs.map PV.str)) h = some (!xs.contains x) := by
  simp only [cmpop, isIn, see, plainL_str, PV.plain, PV.depth, any_eqv_str]
  rfl
theorem in_ftp {x : Tx} {xs : List Tx} : cmpop .inn (.str x) (.ftp (xs.map PV.str)) h = some (xs.contains x) := by
  simp only [cmpop, isIn, see, plainL_str, PV.plain, PV.depth, any_eqv_str]
  rfl
theorem eq_lst {xs ys : List Tx} : cmpop .eq (.lst (xs.map PV.str)) (.lst (ys.map PV.str)) h = some (xs == ys) := by simp [cmpop, see, eqOk, PV.plain, plainL_str, PV.depth, depthL_str, PV.eqv, eqvL_str]
theorem ne_lst {xs ys : List Tx} : cmpop .ne (.lst (xs.map PV.str)) (.lst (ys.map PV.str)) h = some (!(xs == ys)) := by simp [cmpop, see, eqOk, PV.plain, plainL_str, PV.depth, depthL_str, PV.eqv, eqvL_str]
@[simp] theorem all_lst {bs : List Bool} : primop rep .all [.lst (bs.map PV.bl)] h = .ok (.bl (bs.all id)) h := by simp [primop, lstOf, see, boolsL_bl]
@[simp] theorem all_zip {α β : Type} {xs : List α} {ys : List β} {p : α → β → Bool} : primop rep .all [.lst (List.zipWith (fun a b => PV.bl (p a b)) xs ys)] h = .ok (.bl ((List.zipWith p xs ys).all id)) h := by
  have e : List.zipWith (fun a b => PV.bl (p a b)) xs ys = (List.zipWith p xs ys).map PV.bl := by rw [List.map_zipWith]
  rw [e, all_lst]
@[simp] theorem all_comp {α : Type} {xs : List α} {p : α → Bool} : primop rep .all [.lst (xs.map (PV.bl ∘ p))] h = .ok (.bl (xs.all p)) h := by
  rw [← List.map_map, all_lst]
  simp
/-! slices -/
def sE (n : Nat) (v : Int) : Nat := if v < 0 then (v + (n : Int)).toNat else min v.toNat n
theorem sE_nat (n k : Nat) : sE n (k : Int) = min k n := by
  unfold sE
  rw [if_neg (by omega)]
  simp
@[simp] theorem slc_str_ni {mu : Bool} {x : Tx} {j : Int} : slcop mu (.str x) .non (.int j) h = gate (x.length ≤ 16777216) (.ok (.str (cut x 0 (sE x.length j))) h) .stk := rfl
@[simp] theorem slc_str_in {mu : Bool} {x : Tx} {i : Int} : slcop mu (.str x) (.int i) .non h = gate (x.length ≤ 16777216) (.ok (.str (cut x (sE x.length i) x.length)) h) .stk := rfl
@[simp] theorem slc_lst_ni {mu : Bool} {x : List PV} {j : Int} : slcop mu (.lst x) .non (.int j) h = newLst mu (cut x 0 (sE x.length j)) h := rfl
@[simp] theorem slc_lst_in {mu : Bool} {x : List PV} {i : Int} : slcop mu (.lst x) (.int i) .non h = newLst mu (cut x (sE x.length i) x.length) h := rfl
@[simp] theorem slc_lst_ii {mu : Bool} {x : List PV} {i j : Int} : slcop mu (.lst x) (.int i) (.int j) h = newLst mu (cut x (sE x.length i) (sE x.length j)) h := rfl
@[simp] theorem slc_tup_ni {mu : Bool} {x : List PV} {j : Int} : slcop mu (.tup x) .non (.int j) h = .ok (.tup (cut x 0 (sE x.length j))) h := rfl
@[simp] theorem slc_tup_in {mu : Bool} {x : List PV} {i : Int} : slcop mu (.tup x) (.int i) .non h = .ok (.tup (cut x (sE x.length i) x.length)) h := rfl
/-! items -/
theorem ix_lst {x : List PV} {i : Int} {n : Nat} {v : PV} (e : i = (n : Int)) (hv : x[n]? = some v) : ixop (.lst x) (.int i) h = .ok v h := by
  subst e
  have hn : n < x.length := (List.getElem?_eq_some_iff.mp hv).1
  have q : ixN x.length (n : Int) = some n := by unfold ixN; rw [if_pos (Int.natCast_nonneg n), if_pos (by omega)]; simp
  simp [ixop, see, q, hv]
@[simp] theorem ix_lst0 {x : PV} {r : List PV} : ixop (.lst (x :: r)) (.int 0) h = .ok x h := ix_lst (n := 0) rfl rfl
@[simp] theorem ix_lst1 {x y : PV} {r : List PV} : ixop (.lst (x :: y :: r)) (.int 1) h = .ok y h := ix_lst (n := 1) rfl rfl
@[simp] theorem ix_lst2 {x y z : PV} {r : List PV} : ixop (.lst (x :: y :: z :: r)) (.int 2) h = .ok z h := ix_lst (n := 2) rfl rfl
@[simp] theorem ix_lst3 {x y z u : PV} {r : List PV} : ixop (.lst (x :: y :: z :: u :: r)) (.int 3) h = .ok u h := ix_lst (n := 3) rfl rfl
@[simp] theorem ix_lst4 {x y z u v : PV} {r : List PV} : ixop (.lst (x :: y :: z :: u :: v :: r)) (.int 4) h = .ok v h := ix_lst (n := 4) rfl rfl
@[simp] theorem ix_lst5 {x y z u v w : PV} {r : List PV} : ixop (.lst (x :: y :: z :: u :: v :: w :: r)) (.int 5) h = .ok w h := ix_lst (n := 5) rfl rfl
theorem ix_tup {x : List PV} {i : Int} {n : Nat} {v : PV} (e : i = (n : Int)) (hv : x[n]? = some v) : ixop (.tup x) (.int i) h = .ok v h := by
  subst e
  have hn : n < x.length := (List.getElem?_eq_some_iff.mp hv).1
  have q : ixN x.length (n : Int) = some n := by unfold ixN; rw [if_pos (Int.natCast_nonneg n), if_pos (by omega)]; simp
  simp [ixop, see, q, hv]
@[simp] theorem ix_tup0 {x : PV} {r : List PV} : ixop (.tup (x :: r)) (.int 0) h = .ok x h := ix_tup (n := 0) rfl rfl
@[simp] theorem ix_tup1 {x y : PV} {r : List PV} : ixop (.tup (x :: y :: r)) (.int 1) h = .ok y h := ix_tup (n := 1) rfl rfl
@[simp] theorem ix_tup2 {x y z : PV} {r : List PV} : ixop (.tup (x :: y :: z :: r)) (.int 2) h = .ok z h := ix_tup (n := 2) rfl rfl
theorem ix_str {x : Tx} {i : Int} {n c : Nat} (e : i = (n : Int)) (hv : x[n]? = some c) (hl : x.length ≤ 16777216) : ixop (.str x) (.int i) h = .ok (.str [c]) h := by
  subst e
  have hn : n < x.length := (List.getElem?_eq_some_iff.mp hv).1
  have q : ixN x.length (n : Int) = some n := by unfold ixN; rw [if_pos (Int.natCast_nonneg n), if_pos (by omega)]; simp
  simp [ixop, see, q, hv, hl]
@[simp] theorem bin_add_int {mu : Bool} {i j : Int} : binop .add mu (.int i) (.int j) h = .ok (.int (i + j)) h := rfl
@[simp] theorem bin_sub_int {mu : Bool} {i j : Int} : binop .sub mu (.int i) (.int j) h = .ok (.int (i - j)) h := rfl
@[simp] theorem bin_add_str {mu : Bool} {i j : Tx} : binop .add mu (.str i) (.str j) h = gate (i.length + j.length ≤ 16777216) (.ok (.str (i ++ j)) h) .stk := rfl
@[simp] theorem bin_add_lst {mu : Bool} {i j : List PV} : binop .add mu (.lst i) (.lst j) h = gate (i.length + j.length ≤ 16777216) (newLst mu (i ++ j) h) .stk := rfl
@[simp] theorem bin_add_tup {mu : Bool} {i j : List PV} : binop .add mu (.tup i) (.tup j) h = gate (i.length + j.length ≤ 16777216) (.ok (.tup (i ++ j)) h) .stk := rfl
@[simp] theorem tuple_lst {xs : List PV} : primop rep .tuple [.lst xs] h = .ok (.tup xs) h := rfl
@[simp] theorem str_int {i : Int} : primop rep .str [.int i] h = gate (small i = true) (.ok (.str (intL i)) h) .stk := rfl
@[simp] theorem str_str {x : Tx} : primop rep .str [.str x] h = .ok (.str x) h := rfl
@[simp] theorem recv_split {mu : Bool} {x : Tx} : recvOk (.split mu) (kind h (.str x)) = true := rfl
@[simp] theorem recv_join {x : Tx} : recvOk .join (kind h (.str x)) = true := rfl
@[simp] theorem mth_split {mu : Bool} {x y : Tx} : mthop (.split mu) (.str x) [.str y] h = gate (((!y.isEmpty) && y.all (fun c => decide (c < 256)) && decide (x.length + 2 ≤ 16777216)) = true) (newLst mu ((spl y 0 [] x).map PV.str) h) .stk := rfl
theorem join_lst {y : Tx} {xs : List Tx} : mthop .join (.str y) [.lst (xs.map PV.str)] h = gate (tlen xs y ≤ 16777216) (.ok (.str (joinL y xs)) h) .stk := by
  simp only [mthop, seqOf, see, Option.bind, txtsL_str]
  rfl
/-! turns -/
theorem turn_nm {G : Ctx} {ρ : Env} {own : List Nat} {i : Nat} {cc ce : CE} {x : PV} (hi : i < (wipe ρ own).length) : lcTurn G (.nm i) ρ own cc ce x h =
    ((evE G cc ((wipe ρ own).set i (some x)) h).test fun b h3 => ifc b ((evE G ce ((wipe ρ own).set i (some x)) h3).bind fun v h4 => .ok (some v) h4) (.ok none h3)).calm := by
  unfold lcTurn
  rw [asg, if_pos hi]
  rfl
@[simp] theorem itemsOf_str {x : Tx} : itemsOf h (.str x) = some (x.map fun c => .str [c]) := rfl
@[simp] theorem itemsOf_lst {x : List PV} : itemsOf h (.lst x) = some x := rfl
@[simp] theorem itemsOf_tup {x : List PV} : itemsOf h (.tup x) = some x := rfl
@[simp] theorem lockOf_str {x : Tx} : lockOf (.str x) = [] := rfl
@[simp] theorem lockOf_lst {x : List PV} : lockOf (.lst x) = [] := rfl
@[simp] theorem lockOf_fls {x : List PV} : lockOf (.fls x) = [] := rfl
@[simp] theorem lockOf_tup {x : List PV} : lockOf (.tup x) = [] := rfl
@[simp] theorem newOf_str {x : Tx} : newOf h (.str x) = [] := rfl
@[simp] theorem newOf_lst {x : List PV} : newOf h (.lst x) = [] := rfl
@[simp] theorem newOf_fls {x : List PV} : newOf h (.fls x) = [] := rfl
@[simp] theorem newOf_ftp {x : List PV} : newOf h (.ftp x) = [] := rfl
@[simp] theorem lockOf_ftp {x : List PV} : lockOf (.ftp x) = [] := rfl
@[simp] theorem newOf_tup {x : List PV} : newOf h (.tup x) = [] := rfl
@[simp] theorem lstOf_lst {x : List PV} : lstOf h (.lst x) = some x := rfl
@[simp] theorem lstOf_fls {x : List PV} : lstOf h (.fls x) = some x := rfl
@[simp] theorem tupOf_tup {x : List PV} : tupOf (.tup x) = some x := rfl
@[simp] theorem tupOf_ftp {x : List PV} : tupOf (.ftp x) = some x := rfl
@[simp] theorem enmOp_lst {st : Int} {x : List PV} : enmOp st (.lst x) h = .ok ⟨enmT st x, [], []⟩ h := rfl
@[simp] theorem enmOp_tup {x : List PV} : enmOp 0 (.tup x) h = .ok ⟨enmT 0 x, [], []⟩ h := rfl
@[simp] theorem lockH_nil : lockH h [] = h := rfl
@[simp] theorem unlockH_nil : unlockH h [] = h := rfl
end Ev
namespace Ev
variable {h : PH} {rep : PV → Tx}
theorem turn_tp2 {G : Ctx} {ρ : Env} {own : List Nat} {i j : Nat} {cc ce : CE} {x y : PV} (hi : i < (wipe ρ own).length) (hj : j < (wipe ρ own).length) : lcTurn G (.tp [.nm i, .nm j]) ρ own cc ce (.tup [x, y]) h =
    ((evE G cc (((wipe ρ own).set i (some x)).set j (some y)) h).test fun b h3 => ifc b ((evE G ce (((wipe ρ own).set i (some x)).set j (some y)) h3).bind fun v h4 => .ok (some v) h4) (.ok none h3)).calm := by
  have e : asg (.tp [.nm i, .nm j]) (.tup [x, y]) h (wipe ρ own) = some (((wipe ρ own).set i (some x)).set j (some y)) := by
    simp [asg, asgL, see, hi, hj]
  unfold lcTurn
  rw [e]
  rfl
theorem lc_zip {ck : PH → Bool} {tn : PV → PH → R (Option PV)} {α β : Type} {a : α → PV} {b : β → PV} {p : α → β → PV} : ∀ {xs : List α} {ys : List β} {acc : List PV}, (∀ q ∈ xs.zip ys, tn (.tup [a q.1, b q.2]) h = .ok (some (p q.1 q.2)) h) → ck h = true → acc.length + xs.length ≤ 16777216 →
    lcLoop ck tn (zipT (xs.map a) (ys.map b)) acc h = .ok (acc ++ List.zipWith p xs ys) h
  | [], _, acc, _, hc, _ => by simp [zipT, lcLoop, hc]
  | _ :: _, [], acc, _, hc, _ => by simp [zipT, lcLoop, hc]
  | x :: xs, y :: ys, acc, ht, hc, hl => by
    have h1 := ht (x, y) (by simp)
    simp only [List.map_cons, zipT, lcLoop, hc, if_true, h1, R.bind]
    have : acc.length < 16777216 := by simp at hl; omega
    rw [if_pos this, lc_zip (fun q hq => ht q (by simp [hq])) hc (by simp at hl ⊢; omega)]
    simp
theorem closedL_append {n : Nat} : ∀ xs ys : List PV, PV.closedL n (xs ++ ys) = (PV.closedL n xs && PV.closedL n ys)
  | [], ys => by simp [PV.closedL]
  | x :: xs, ys => by simp [PV.closedL, closedL_append xs ys, Bool.and_assoc]
theorem cut_map {α β : Type} (f : α → β) (xs : List α) (i j : Nat) : cut (xs.map f) i j = (cut xs i j).map f := by
  unfold cut
  rw [List.map_take, List.map_drop]
theorem cut_tail {α : Type} (x : α) (r : List α) : cut (x :: r) (sE (r.length + 1) 1) (r.length + 1) = r := by
  have e : sE (r.length + 1) 1 = 1 := by
    have q : sE (r.length + 1) ((1 : Nat) : Int) = min 1 (r.length + 1) := sE_nat (r.length + 1) 1
    have q2 : sE (r.length + 1) 1 = min 1 (r.length + 1) := q
    rw [q2]; omega
  rw [e]
  simp [cut]
end Ev
namespace Ev
/-! loops -/
section
variable {ck : PH → Bool} {b : PV → Env → PH → RS} {x : PV} {xs : List PV} {ρ ρ1 : Env} {h h1 : PH}
theorem for_nil (hc : ck h = true) : forLoop ck b [] ρ h = .nx ρ h := by simp [forLoop, hc]
theorem for_nx (hc : ck h = true) (e : b x ρ h = .nx ρ1 h1) : forLoop ck b (x :: xs) ρ h = forLoop ck b xs ρ1 h1 := by simp [forLoop, hc, e]
theorem for_cnt (hc : ck h = true) (e : b x ρ h = .cnt ρ1 h1) : forLoop ck b (x :: xs) ρ h = forLoop ck b xs ρ1 h1 := by simp [forLoop, hc, e]
theorem for_ret {v : PV} (hc : ck h = true) (e : b x ρ h = .ret v h1) (hc1 : ck h1 = true) : forLoop ck b (x :: xs) ρ h = .ret v h1 := by simp [forLoop, hc, e, hc1]
theorem for_exc {c : Nat} {v : PV} (hc : ck h = true) (e : b x ρ h = .exc c v h1) (hc1 : ck h1 = true) : forLoop ck b (x :: xs) ρ h = .exc c v h1 := by simp [forLoop, hc, e, hc1]
theorem fTurn_nm {G : Ctx} {i : Nat} {c : CSs} (hi : i < ρ.length) : fTurn G (.nm i) c x ρ h = evSs G c (ρ.set i (some x)) h := by
  unfold fTurn
  rw [asg, if_pos hi]
theorem fTurn_tp2 {G : Ctx} {i j : Nat} {c : CSs} {y z : PV} (hi : i < ρ.length) (hj : j < ρ.length) : fTurn G (.tp [.nm i, .nm j]) c (.tup [y, z]) ρ h = evSs G c ((ρ.set i (some y)).set j (some z)) h := by
  have e : asg (.tp [.nm i, .nm j]) (.tup [y, z]) h ρ = some ((ρ.set i (some y)).set j (some z)) := by simp [asg, asgL, see, hi, hj]
  unfold fTurn
  rw [e]
@[simp] theorem mapH_nx {f : PH → PH} : (RS.nx ρ h).mapH f = .nx ρ (f h) := rfl
@[simp] theorem mapH_ret {f : PH → PH} {v : PV} : (RS.ret v h).mapH f = .ret v (f h) := rfl
@[simp] theorem mapH_exc {f : PH → PH} {c : Nat} {v : PV} : (RS.exc c v h).mapH f = .exc c v (f h) := rfl
end
/-! splitting at one sign -/
section
variable {c : Nat}
theorem spl_hit {acc r : Tx} : spl [c] 0 acc (c :: r) = acc :: spl [c] 0 [] r := by
  rw [spl]
  have e : pre [c] (c :: r) = true := by simp [pre]
  rw [if_pos e]; rfl
theorem spl_miss {acc r : Tx} {a : Nat} (h : a ≠ c) : spl [c] 0 acc (a :: r) = spl [c] 0 (acc ++ [a]) r := by
  rw [spl]
  have e : pre [c] (a :: r) = false := by simp [pre, h]
  rw [if_neg (by rw [e]; simp)]
theorem spl_ne : ∀ (x acc : Tx), spl [c] 0 acc x ≠ []
  | [], acc => by simp [spl]
  | a :: r, acc => by
    by_cases h : a = c
    · rw [h, spl_hit]; simp
    · rw [spl_miss h]; exact spl_ne r _
theorem join_spl : ∀ (x acc : Tx), joinL [c] (spl [c] 0 acc x) = acc ++ x
  | [], acc => by simp [spl, joinL]
  | a :: r, acc => by
    by_cases h : a = c
    · rw [h, spl_hit]
      have ih := join_spl r []
      cases e : spl [c] 0 [] r with
      | nil => exact absurd e (spl_ne r [])
      | cons y ys =>
        rw [e] at ih
        rw [joinL, ih]; simp
    · rw [spl_miss h, join_spl r (acc ++ [a])]; simp
theorem spl_free : ∀ (x acc : Tx), c ∉ x → spl [c] 0 acc x = [acc ++ x]
  | [], acc, _ => by simp [spl]
  | a :: r, acc, h => by
    have h1 : a ≠ c := fun e => h (by simp [e])
    rw [spl_miss h1, spl_free r _ (fun e => h (by simp [e]))]; simp
theorem spl_parts : ∀ (x acc : Tx), c ∉ acc → ∀ p ∈ spl [c] 0 acc x, c ∉ p ∧ p.length ≤ acc.length + x.length ∧ ∀ a ∈ p, a ∈ acc ∨ a ∈ x
  | [], acc, h, p, hp => by
    simp [spl] at hp
    subst hp
    exact ⟨h, by simp, fun a ha => .inl ha⟩
  | a :: r, acc, h, p, hp => by
    by_cases e : a = c
    · rw [e, spl_hit, List.mem_cons] at hp
      rcases hp with rfl | hp
      · exact ⟨h, by simp, fun a ha => .inl ha⟩
      · obtain ⟨h1, h2, h3⟩ := spl_parts r [] (by simp) p hp
        exact ⟨h1, by simp at h2 ⊢; omega, fun b hb => .inr (by
          rcases h3 b hb with z | z
          · simp at z
          · simp [z])⟩
    · rw [spl_miss e] at hp
      obtain ⟨h1, h2, h3⟩ := spl_parts r (acc ++ [a]) (by simp [h]; exact fun q => e q.symm) p hp
      refine ⟨h1, by simp at h2 ⊢; omega, fun b hb => ?_⟩
      rcases h3 b hb with z | z
      · rcases List.mem_append.mp z with z | z
        · exact .inl z
        · exact .inr (by simp at z; simp [z])
      · exact .inr (by simp [z])
theorem spl_len : ∀ (x acc : Tx), (spl [c] 0 acc x).length ≤ x.length + 1
  | [], acc => by simp [spl]
  | a :: r, acc => by
    by_cases h : a = c
    · rw [h, spl_hit]; have := spl_len r []; simp; omega
    · rw [spl_miss h]; have := spl_len r (acc ++ [a]); simp; omega
end
end Ev
end
section
set_option maxRecDepth 10000
/-! PkC: names, ends, steps of words. -/
namespace Ev
def isLow (x : Tx) : Bool := x.all fun c => decide (97 ≤ c) && decide (c ≤ 122)
def isNm (x : Tx) : Bool := decide (1 ≤ x.length) && (decide (x.length ≤ 8) && isLow x)
theorem letters_in (c : Nat) : x_letters.contains c = (decide (97 ≤ c) && decide (c ≤ 122)) := by
  unfold x_letters
  rw [Bool.eq_iff_iff]
  simp only [List.contains_eq_mem, List.mem_cons, List.not_mem_nil, or_false, decide_eq_true_eq, Bool.and_eq_true]
  omega
theorem digits_in (c : Nat) : x_0123456789.contains c = (decide (48 ≤ c) && decide (c ≤ 57)) := by
  unfold x_0123456789
  rw [Bool.eq_iff_iff]
  simp only [List.contains_eq_mem, List.mem_cons, List.not_mem_nil, or_false, decide_eq_true_eq, Bool.and_eq_true]
  omega
@[simp] theorem letters_mem {h : PH} (c : Nat) : cmpop .inn (.str [c]) (.str x_letters) h = some (decide (97 ≤ c) && decide (c ≤ 122)) := by rw [in_chr, letters_in]
@[simp] theorem letters_nmem {h : PH} (c : Nat) : cmpop .nin (.str [c]) (.str x_letters) h = some (!(decide (97 ≤ c) && decide (c ≤ 122))) := by rw [nin_chr, letters_in]
@[simp] theorem digits_mem {h : PH} (c : Nat) : cmpop .inn (.str [c]) (.str x_0123456789) h = some (decide (48 ≤ c) && decide (c ≤ 57)) := by rw [in_chr, digits_in]
/-- a comprehension over a text, a truth value a sign -/
theorem lc_chars {ck : PH → Bool} {tn : PV → PH → R (Option PV)} {p : Nat → Bool} {h : PH} {x : Tx} (ht : ∀ c ∈ x, tn (.str [c]) h = .ok (some (.bl (p c))) h) (hc : ck h = true) (hl : x.length ≤ 16777216) : lcLoop ck tn (x.map fun c => .str [c]) [] h = .ok ((x.map p).map PV.bl) h := by
  rw [lcLoop_map (f := fun v => match v with | .str [c] => .bl (p c) | _ => .non) _ hc (by simp; exact hl)]
  · simp [Function.comp_def]
  · intro y hy
    obtain ⟨c, hm, rfl⟩ := List.mem_map.mp hy
    exact ht c hm
theorem F_is_integer_int (o) (i : Int) (h : PH) : F_is_integer o [.int i] h = .ok (.bl true) h := by
  refine runPure_ok (h1 := []) rfl rfl rfl ?_ rfl
  rw [runB_eq]
  simp [c_is_integer, tyIs]
theorem F_is_integer_non (o) (h : PH) : F_is_integer o [.non] h = .ok (.bl false) h := by
  refine runPure_ok (h1 := []) rfl rfl rfl ?_ rfl
  rw [runB_eq]
  simp [c_is_integer, tyIs]
theorem F_is_integer_str (o) (x : Tx) (h : PH) : F_is_integer o [.str x] h = .ok (.bl false) h := by
  refine runPure_ok (h1 := []) rfl rfl rfl ?_ rfl
  rw [runB_eq]
  simp [c_is_integer, tyIs]
theorem F_is_node_name_ok (o) (x : Tx) (h : PH) (hx : x.length ≤ 16777216) : F_is_node_name o [.str x] h = .ok (.bl (isNm x)) h := by
  refine runPure_ok (h1 := []) rfl rfl rfl ?_ rfl
  rw [runB_eq]
  simp [c_is_node_name, hx, tyIs, g_MAX_NAME, lc_eq]
  unfold ifc
  split
  · rename_i q
    simp at q ⊢
    unfold isNm
    cases x with
    | nil => rfl
    | cons a r =>
      simp at q ⊢
      omega
  · rename_i q
    simp at q
    simp [lc_eq]
    rw [lc_chars (p := fun c => decide (97 ≤ c) && decide (c ≤ 122))]
    · have q1 : 1 ≤ x.length := by omega
      have q2 : x.length ≤ 8 := by omega
      simp [isNm, isLow, q1, q2]
    · intro c hc
      rw [turn_nm (by simp [wipe])]
      simp [wipe, g_LETTERS]
    · rfl
    · omega
theorem F_is_node_name_non (o) (h : PH) : F_is_node_name o [.non] h = .ok (.bl false) h := by
  refine runPure_ok (h1 := []) rfl rfl rfl ?_ rfl
  rw [runB_eq]
  simp [c_is_node_name, tyIs]
/-- one of the eight port names -/
def isPt (x : Tx) : Bool := match x with
  | [c] => decide (48 ≤ c) && decide (c ≤ 55)
  | _ => false
def isEnd (x : Tx) : Bool := isNm x || isPt x
theorem F_is_end_ok (o) (x : Tx) (h : PH) (hx : x.length ≤ 16777216) : F_is_end o [.str x] h = .ok (.bl (isEnd x)) h := by
  refine runPure_ok (h1 := []) rfl rfl rfl ?_ rfl
  rw [runB_eq]
  simp [c_is_end, hx, F_is_node_name_ok]
  unfold ifc
  split
  · rename_i q
    simp [isEnd, q]
  · rename_i q
    have q' : isNm x = false := by simpa using q
    simp [tyIs, hx, g_DIGITS, g_MAX_PORTS]
    unfold ifc
    split
    · rename_i q2
      have q3 : x.length = 1 := by
        have q4 : (x.length : Int) = 1 := by simpa using q2
        omega
      match x, q3 with
      | [c], _ =>
        simp [sE, cut, x_0123456789, isEnd, isPt, q', in_chr]
        rw [Bool.eq_iff_iff]
        simp
        omega
    · rename_i q2
      have q3 : ¬ x.length = 1 := by
        have q4 : ¬ (x.length : Int) = 1 := by simpa using q2
        omega
      simp [isEnd, q']
      unfold isPt
      split
      · simp at q3
      · rfl
end Ev
end
section
set_option maxRecDepth 10000
/-! PkD: steps of words. -/
namespace Ev
def tbl : List (Tx × List Tx) := [(x_recolor, [x_node]), (x_fuse, [x_node, x_node]), (x_drop, [x_node]), (x_insert, [x_end, x_end, x_mode, x_node, x_bit]), (x_unloop, [x_node, x_mode]), (x_cancel, [x_node, x_node]), (x_evaluate, [x_node]), (x_complement, [x_node]), (x_pivot, [x_node, x_node]), (x_rename, [x_node, x_node]), (x_clear, [])]
theorem items_tbl : g_STEP_ITEMS = .fdc (tbl.map fun p => (.str p.1, .ftp (p.2.map PV.str))) := rfl
def kinds (w : Tx) : Option (List Tx) := (tbl.find? fun p => p.1 == w).map (·.2)
theorem dget_tbl (w : Tx) : ∀ t : List (Tx × List Tx), dget (t.map fun p => (PV.str p.1, PV.ftp (p.2.map PV.str))) (.str w) = ((t.find? fun p => p.1 == w).map (·.2)).map fun ks => .ftp (ks.map PV.str)
  | [] => rfl
  | p :: t => by
    have ih := dget_tbl w t
    unfold dget at ih ⊢
    rw [List.map_cons, List.find?_cons, List.find?_cons]
    have e : keyEq (PV.str p.1) (.str w) = (p.1 == w) := rfl
    rw [e]
    cases p.1 == w with
    | true => rfl
    | false => exact ih
theorem get_items {h : PH} {w : Tx} : getop h g_STEP_ITEMS (.str w) .non = .ok (((kinds w).map fun ks => PV.ftp (ks.map PV.str)).getD .non) h := by
  rw [items_tbl]
  simp only [getop, see, keyOk, flatK]
  rw [dget_tbl]; rfl
theorem in_items {h : PH} {w : Tx} : cmpop .nin (.str w) g_STEP_ITEMS h = some (!(kinds w).isSome) := by
  rw [items_tbl]
  simp only [cmpop, isIn, see, keyOk, flatK]
  rw [dget_tbl]
  unfold kinds
  cases List.find? (fun p => p.1 == w) tbl <;> rfl
theorem ix_items {h : PH} {w : Tx} {ks : List Tx} (e : kinds w = some ks) : ixop g_STEP_ITEMS (.str w) h = .ok (.ftp (ks.map PV.str)) h := by
  rw [items_tbl]
  simp only [ixop, see, keyOk, flatK]
  rw [dget_tbl]
  unfold kinds at e
  rw [e]; rfl
/-- an item of a step -/
inductive It0 where
  | s (x : Tx) | i (k : Int) | n
def It0.v : It0 → PV
  | .s x => .str x
  | .i k => .int k
  | .n => .non
def isMode (x : Tx) : Bool := x == x_crossed || x == x_plain
def fitB (k : Tx) (v : It0) : Bool := match v with
  | .s x => if k = x_node then isNm x else if k = x_end then isEnd x else if k = x_mode then isMode x else false
  | .i j => if k = x_node then false else if k = x_end then false else if k = x_mode then false else decide (0 ≤ j) && decide (j ≤ 1)
  | .n => false
/-- a kind's item, as it comes -/
def ItK (k : Tx) (v : It0) : Prop := match v with
  | .s x => x.length ≤ 16777216 ∧ (k = x_node ∨ k = x_end ∨ k = x_mode)
  | .i _ => k = x_bit
  | .n => k = x_bit
theorem F_fits_ok (o) (k : Tx) (v : It0) (h : PH) (hv : ItK k v) : F_fits o [.str k, v.v] h = .ok (.bl (fitB k v)) h := by
  refine runPure_ok (h1 := []) rfl rfl (by cases v <;> rfl) ?_ rfl
  rw [runB_eq]
  have n1 : (x_end == x_node) = false := by decide
  have n2 : (x_mode == x_node) = false := by decide
  have n3 : (x_mode == x_end) = false := by decide
  have n4 : (x_bit == x_node) = false := by decide
  have n5 : (x_bit == x_end) = false := by decide
  have n6 : (x_bit == x_mode) = false := by decide
  cases v with
  | s x =>
    obtain ⟨hl, e | e | e⟩ := hv
    · subst e
      simp [c_fits, It0.v, F_is_node_name_ok o x [] hl, fitB]
    · subst e
      have n1' : ¬ x_end = x_node := by decide
      simp [c_fits, It0.v, F_is_end_ok o x [] hl, fitB, n1, n1']
    · subst e
      have n2' : ¬ x_mode = x_node := by decide
      have n3' : ¬ x_mode = x_end := by decide
      have e2 : g_MODES = .ftp ([x_crossed, x_plain].map PV.str) := rfl
      simp only [c_fits, It0.v, fitB, n2, n3, if_neg n2', if_neg n3']
      simp [n2, n3, tyIs]
      rw [e2, in_ftp]
      simp [isMode]
      rw [Bool.eq_iff_iff]
      simp
  | i j =>
    have e : k = x_bit := hv
    subst e
    have n4' : ¬ x_bit = x_node := by decide
    have n5' : ¬ x_bit = x_end := by decide
    have n6' : ¬ x_bit = x_mode := by decide
    simp [c_fits, It0.v, n4, n5, n6, F_is_integer_int, fitB, n4', n5', n6']
  | n =>
    have e : k = x_bit := hv
    subst e
    simp [c_fits, It0.v, n4, n5, n6, F_is_integer_non, fitB]

def wfB (w : Tx) (its : List It0) : Bool := match kinds w with
  | none => false
  | some ks => its.length == ks.length && ((List.zipWith fitB ks its).all id && (!(w == x_insert) || (match its with
    | .s a :: .s b :: _ => !ltT b a
    | _ => false)))
theorem plainL_it : ∀ its : List It0, PV.plainL (its.map It0.v) = true
  | [] => rfl
  | .s x :: r => by simp [PV.plainL, PV.plain, It0.v, plainL_it r]
  | .i x :: r => by simp [PV.plainL, PV.plain, It0.v, plainL_it r]
  | .n :: r => by simp [PV.plainL, PV.plain, It0.v, plainL_it r]
theorem closedL_it {n : Nat} : ∀ its : List It0, PV.closedL n (its.map It0.v) = true
  | [] => rfl
  | .s x :: r => by simp [PV.closedL, PV.closed, It0.v, closedL_it r]
  | .i x :: r => by simp [PV.closedL, PV.closed, It0.v, closedL_it r]
  | .n :: r => by simp [PV.closedL, PV.closed, It0.v, closedL_it r]
theorem depthL_it : ∀ its : List It0, PV.depthL (its.map It0.v) = 0
  | [] => rfl
  | .s x :: r => by simp [PV.depthL, PV.depth, It0.v, depthL_it r]
  | .i x :: r => by simp [PV.depthL, PV.depth, It0.v, depthL_it r]
  | .n :: r => by simp [PV.depthL, PV.depth, It0.v, depthL_it r]
/-- the items of a step as they come -/
def ItsK : List Tx → List It0 → Prop
  | [], [] => True
  | k :: ks, v :: vs => ItK k v ∧ ItsK ks vs
  | _, _ => False
theorem ItsK.len : ∀ {ks : List Tx} {its : List It0}, ItsK ks its → its.length = ks.length
  | [], [], _ => rfl
  | [], _ :: _, h => h.elim
  | _ :: _, [], h => h.elim
  | _ :: ks, _ :: its, h => by simp [ItsK.len h.2]
theorem ItsK.mem : ∀ {ks : List Tx} {its : List It0}, ItsK ks its → ∀ q ∈ ks.zip its, ItK q.1 q.2
  | [], [], _, q, hq => by simp at hq
  | [], _ :: _, h, _, _ => h.elim
  | _ :: _, [], h, _, _ => h.elim
  | k :: ks, v :: its, h, q, hq => by
    rw [List.zip_cons_cons, List.mem_cons] at hq
    rcases hq with rfl | hq
    · exact h.1
    · exact ItsK.mem h.2 q hq
theorem ne_tup0 {h : PH} {x : PV} {r : List PV} (hp : PV.plainL (x :: r) = true) : cmpop .eq (.tup (x :: r)) (.tup []) h = some false := by
  have e : eqOk (.tup (x :: r)) (.tup []) = true := by
    unfold eqOk
    rw [show (PV.tup (x :: r)).plain = PV.plainL (x :: r) from rfl, hp]
    simp [PV.plain, PV.plainL, PV.depth, PV.depthL]
  simp only [cmpop, see]
  rw [if_pos e]
  rfl
theorem F_is_well_formed_ok (o) (w : Tx) (its : List It0) (h : PH) (hi : ∀ ks, kinds w = some ks → ItsK ks its) (hl : its.length ≤ 1000)
    (hins : w = x_insert → ∃ a b r, its = .s a :: .s b :: r) : F_is_well_formed o [.tup (.str w :: its.map It0.v)] h = .ok (.bl (wfB w its)) h := by
  refine runPure_ok (h1 := []) rfl rfl (by simp [PV.closedL, PV.closed, closedL_it]) ?_ rfl
  rw [runB_eq]
  have e0 := ne_tup0 (h := []) (x := .str w) (r := its.map It0.v) (by simp [PV.plainL, PV.plain, plainL_it])
  simp only [c_is_well_formed]
  simp [tyIs, e0, in_items]
  cases hk : kinds w with
  | none =>
    simp [wfB, hk]
  | some ks =>
    have hI := hi ks hk
    have hlen := hI.len
    simp [ix_items hk, hlen, lc_eq, zipOp, lstOf, see]
    have ct : cut (PV.str w :: its.map It0.v) (sE (ks.length + 1) 1) (ks.length + 1) = its.map It0.v := by
      have q := cut_tail (PV.str w) (its.map It0.v)
      simp only [List.length_map, hlen] at q
      exact q
    rw [ct, lc_zip (p := fun k v => .bl (fitB k v)) _ rfl (by simp; omega)]
    · simp
      unfold ifc
      cases hf : (List.zipWith fitB ks its).all id with
      | false => simp [wfB, hk, hlen, hf]
      | true =>
        by_cases hw : w = x_insert
        · obtain ⟨a, b, r, rfl⟩ := hins hw
          subst hw
          have hlen' : (It0.s a :: It0.s b :: r).length = ks.length := hlen
          simp [wfB, hk, hlen', hf, It0.v]
        · have hw' : (w == x_insert) = false := by simpa using hw
          simp [wfB, hk, hlen, hf, hw']
    · intro q hq
      rw [turn_tp2 (by simp [wipe]) (by simp [wipe])]
      simp [wipe, F_fits_ok o q.1 q.2 [] (hI.mem q hq)]
end Ev
end
section
set_option maxRecDepth 10000
/-! PkE: integers of words; steps of lines. -/
namespace Ev
def optI : Option Int → PV
  | some i => .int i
  | none => .non
def dg (w : Tx) : Tx := match w with
  | 45 :: r => r
  | w => w
def pintD (w d : Tx) : Option Int := if (decide (1 ≤ d.length) && (decide (d.length ≤ 4) && d.all isDig)) = true then (if (d.head? == some 48 && !(w == [48])) = true then none else intOf w) else none
def pint (w : Tx) : Option Int := pintD w (dg w)
theorem digits_mem' {h : PH} (c : Nat) : cmpop .inn (.str [c]) (.str x_0123456789) h = some (isDig c) := by rw [digits_mem]; rfl
theorem F_parsed_integer_ok (o) (w : Tx) (h : PH) (hw : w.length ≤ 16777216) : F_parsed_integer o [.str w] h = .ok (optI (pint w)) h := by
  refine runPure_ok (h1 := []) rfl rfl rfl ?_ (by unfold optI; cases pint w <;> rfl)
  rw [runB_eq]
  have key : ∀ d : Tx, d.length ≤ w.length → (d = w ∨ w = 45 :: d) → (evSs (G_parsed_integer o) (CSs.cons (.ife (.or (.not (.chn .le .le (.cst (.int 1)) (.prim .len (.cons (.var 1) .nil)) (.glb 0))) (.not (.prim .all (.cons (.lc false [2] (.nm 2) (.val (.var 1)) (.cst (.bl true)) (.cmp .inn (.var 2) (.glb 1))) .nil)))) (.cons (.ret (.cst .non))
  .nil) .nil)
  (.cons (.ife (.and (.cmp .eq (.ix (.var 1) (.cst (.int 0))) (.cst (.str [48]))) (.cmp .ne (.var 0) (.cst (.str [48])))) (.cons (.ret (.cst .non))
  .nil) .nil)
  (.cons (.ret (.prim .int (.cons (.var 0) .nil)))
  .nil))) [some (.str w), some (.str d), none] []).toR = .ok (optI (pintD w d)) [] := by
    intro d hd hdw
    have hd' : d.length ≤ 16777216 := by omega
    simp [hd', g_MAX_DIGITS, lc_eq]
    by_cases h1 : (1 ≤ d.length ∧ d.length ≤ 4)
    · have q1 : (1 : Int) ≤ d.length := by omega
      have q2 : (d.length : Int) ≤ 4 := by omega
      simp [q1, q2]
      rw [lc_chars (p := isDig) _ rfl hd']
      · simp
        unfold ifc
        cases ha : d.all isDig with
        | false => simp [pintD, ha, optI]
        | true =>
          cases d with
          | nil => simp at h1
          | cons c r =>
            have ix : ixop (.str (c :: r)) (.int 0) [] = .ok (.str [c]) [] := ix_str (n := 0) rfl rfl hd'
            simp [ix]
            by_cases hc : (c = 48 ∧ ¬ w = [48])
            · have e : (c == 48 && !w == [48]) = true := by simp [hc.1, hc.2]
              rw [ifc_true e]
              simp [pintD, h1, ha, hc, optI]
            · have e : (c == 48 && !w == [48]) = false := by
                by_cases h48 : c = 48
                · simp [h48] at hc ⊢; exact hc
                · simp [h48]
              rw [ifc_false e]
              have hint : ∃ i, intOf w = some i := by
                rcases hdw with rfl | rfl
                · by_cases h45 : c = 45
                  · subst h45; simp [isDig] at ha
                  · have e2 : intOf (c :: r) = if ((c :: r).all isDig) = true then some (digitsV (c :: r) : Int) else none := by
                      unfold intOf
                      split
                      · rename_i q; cases q
                      · rename_i q; cases q; exact absurd rfl h45
                      · rfl
                    rw [e2, if_pos ha]; exact ⟨_, rfl⟩
                · refine ⟨-(digitsV (c :: r) : Int), ?_⟩
                  unfold intOf
                  simp only [List.isEmpty_cons, Bool.false_eq_true, if_false]
                  rw [if_pos ha]
              obtain ⟨i, hi⟩ := hint
              have hw600 : w.length ≤ 600 := by
                rcases hdw with e | e
                · rw [← e]; omega
                · rw [e]; simp at h1 ⊢; omega
              simp [primop, hi, hw600]
              have h12 : r.length + 1 ≤ 4 := by simpa using h1.2
              have e3 : pintD w (c :: r) = some i := by
                unfold pintD
                have ha' := ha
                have e4 : (decide (1 ≤ (c :: r).length) && (decide ((c :: r).length ≤ 4) && (c :: r).all isDig)) = true := by
                  rw [ha]; simp; omega
                rw [if_pos e4]
                have e5 : ((c :: r).head? == some 48 && !w == [48]) = false := by
                  by_cases h48 : c = 48
                  · simp [h48] at hc ⊢; exact hc
                  · simp [h48]
                rw [if_neg (by rw [e5]; simp), hi]
              rw [e3]; rfl
      · intro c hc
        rw [turn_nm (by simp [wipe])]
        simp [wipe, g_DIGITS]
        rfl
    · have e : pintD w d = none := by
        unfold pintD
        rw [if_neg]
        simp only [Bool.and_eq_true, decide_eq_true_eq]
        omega
      rw [e]
      unfold ifc
      by_cases q1 : (1 : Int) ≤ d.length
      · have q2 : ¬ (d.length : Int) ≤ 4 := by omega
        simp [q1, q2, optI]
      · simp [q1, optI]
  have hpre : ∀ d, dg w = d → (evS (G_parsed_integer o) (.asg (.nm 1) (.ite (.cmp .eq (.slc false (.var 0) (.cst .non) (.cst (.int 1))) (.cst (.str [45]))) (.slc false (.var 0) (.cst (.int 1)) (.cst .non)) (.var 0))) [some (.str w), none, none] []) = .nx [some (.str w), some (.str d), none] [] := by
    intro d e
    subst e
    simp [hw]
    cases w with
    | nil => rfl
    | cons c r =>
      have e1 : cut (c :: r) 0 (sE (r.length + 1) 1) = [c] := by
        have q : sE (r.length + 1) ((1 : Nat) : Int) = min 1 (r.length + 1) := sE_nat (r.length + 1) 1
        have q2 : sE (r.length + 1) 1 = min 1 (r.length + 1) := q
        rw [q2]
        have : min 1 (r.length + 1) = 1 := by omega
        rw [this]; simp [cut]
      simp only [List.length_cons, e1]
      unfold ifc
      by_cases h45 : c = 45
      · subst h45
        have ct := cut_tail 45 r
        simp [ct, dg]
      · have e2 : ([c] == [45]) = false := by simp [h45]
        have e3 : dg (c :: r) = c :: r := by
          unfold dg
          split
          · rename_i q; cases q; exact absurd rfl h45
          · rfl
        simp [e2, e3]
  have h3 := hpre _ rfl
  show ((evSs (G_parsed_integer o) c_parsed_integer.body [some (.str w), none, none] []).toR) = _
  unfold c_parsed_integer
  rw [evSs_cons, h3]
  have h4 : (dg w).length ≤ w.length := by
    unfold dg
    split <;> simp
  have h5 : dg w = w ∨ w = 45 :: dg w := by
    unfold dg
    split
    · exact .inr rfl
    · exact .inl rfl
  exact key _ h4 h5

theorem kinds_all {w : Tx} {ks : List Tx} (h : kinds w = some ks) : ∀ k ∈ ks, k = x_node ∨ k = x_end ∨ k = x_mode ∨ k = x_bit := by
  unfold kinds at h
  cases e : tbl.find? fun p => p.1 == w with
  | none => rw [e] at h; cases h
  | some p =>
    rw [e] at h
    cases h
    have hm := List.mem_of_find?_eq_some e
    have q : (tbl.all fun p => p.2.all fun k => k == x_node || (k == x_end || (k == x_mode || k == x_bit))) = true := by decide
    intro k hk
    have q1 := List.all_eq_true.mp (List.all_eq_true.mp q p hm) k hk
    simpa using q1
def conv (k x : Tx) : It0 := if k == x_bit then (match pint x with
  | some i => .i i
  | none => .n) else .s x
theorem conv_v (k x : Tx) : (conv k x).v = if k == x_bit then optI (pint x) else .str x := by
  unfold conv
  cases k == x_bit with
  | true => cases pint x <;> rfl
  | false => rfl
theorem conv_K {k x : Tx} (hk : k = x_node ∨ k = x_end ∨ k = x_mode ∨ k = x_bit) (hx : x.length ≤ 16777216) : ItK k (conv k x) := by
  unfold conv
  rcases hk with e | e | e | e
  · subst e; exact ⟨hx, .inl rfl⟩
  · subst e; exact ⟨hx, .inr (.inl rfl)⟩
  · subst e; exact ⟨hx, .inr (.inr rfl)⟩
  · subst e
    rw [if_pos (by simp)]
    cases pint x <;> rfl
theorem conv_all : ∀ {ks : List Tx} {r : List Tx}, (∀ k ∈ ks, k = x_node ∨ k = x_end ∨ k = x_mode ∨ k = x_bit) → (∀ x ∈ r, x.length ≤ 16777216) → r.length = ks.length → ItsK ks (List.zipWith conv ks r)
  | [], [], _, _, _ => trivial
  | [], _ :: _, _, _, h => by cases h
  | _ :: _, [], _, _, h => by cases h
  | k :: ks, x :: r, hk, hx, h => ⟨conv_K (hk k (by simp)) (hx x (by simp)), conv_all (fun k' h' => hk k' (by simp [h'])) (fun x' h' => hx x' (by simp [h'])) (by simpa using h)⟩
/-- the step of a line's words -/
def stepI (ws : List Tx) : Option (Tx × List It0) := match ws with
  | [] => none
  | w :: r => match kinds w with
    | none => none
    | some ks => if r.length = ks.length then (if wfB w (List.zipWith conv ks r) = true then some (w, List.zipWith conv ks r) else none) else none
def stV (s : Tx × List It0) : PV := .tup (.str s.1 :: s.2.map It0.v)
def optS : Option (Tx × List It0) → PV
  | some s => stV s
  | none => .non
theorem closed_stV {n : Nat} (s : Tx × List It0) : (stV s).closed n = true := by simp [stV, PV.closed, PV.closedL, closedL_it]
theorem kinds_insert {ks : List Tx} (h : kinds x_insert = some ks) : ks = [x_end, x_end, x_mode, x_node, x_bit] := by
  have e : kinds x_insert = some [x_end, x_end, x_mode, x_node, x_bit] := by decide
  rw [e] at h; cases h; rfl
theorem F_parsed_step_ok (o) (w : Tx) (r : List Tx) (h : PH) (hl : ∀ x ∈ w :: r, x.length ≤ 16777216) (hr : r.length ≤ 16777200) : F_parsed_step o [.lst ((w :: r).map PV.str)] h = .ok (optS (stepI (w :: r))) h := by
  refine runPure_ok (h1 := []) rfl rfl (by simp [PV.closedL, PV.closed, closedL_str]) ?_ (by cases stepI (w :: r) <;> first | rfl | exact closed_stV _)
  rw [runB_eq]
  simp [c_parsed_step]
  have rc : recvOk .get (kind [] g_STEP_ITEMS) = true := rfl
  have mg : ∀ k, mthop .get g_STEP_ITEMS [k, .non] [] = getop [] g_STEP_ITEMS k .non := fun k => rfl
  simp [rc, mg, get_items]
  cases hk : kinds w with
  | none => simp [stepI, hk, optS]
  | some ks =>
    have hkk := kinds_all hk
    simp
    unfold ifc
    by_cases hlen : r.length = ks.length
    · have hI := conv_all hkk (fun x hx => hl x (by simp [hx])) hlen
      have hks : ks.length ≤ 1000 := by
        unfold kinds at hk
        cases e : tbl.find? fun p => p.1 == w with
        | none => rw [e] at hk; cases hk
        | some p =>
          rw [e] at hk
          cases hk
          have q : (tbl.all fun p => decide (p.2.length ≤ 1000)) = true := by decide
          exact of_decide_eq_true (List.all_eq_true.mp q p (List.mem_of_find?_eq_some e))
      simp [hlen, lc_eq, zipMop]
      have ct : cut (PV.str w :: r.map PV.str) (sE (ks.length + 1) 1) (ks.length + 1) = r.map PV.str := by
        have q := cut_tail (PV.str w) (r.map PV.str)
        simp only [List.length_map, hlen] at q
        exact q
      rw [ct, lc_zip (p := fun k x => (conv k x).v) _ rfl (by simp; omega)]
      · have e1 : List.zipWith (fun k x => (conv k x).v) ks r = (List.zipWith conv ks r).map It0.v := by rw [List.map_zipWith]
        simp only [List.nil_append, e1]
        have hz : (List.zipWith conv ks r).length ≤ 1000 := by rw [hI.len]; exact hks
        have hst : stepI (w :: r) = if wfB w (List.zipWith conv ks r) = true then some (w, List.zipWith conv ks r) else none := by simp [stepI, hk, hlen]
        rw [hst]
        have hle : (List.zipWith conv ks r).length ≤ 1000 := by rw [hI.len]; exact hks
        have hwf := F_is_well_formed_ok o w (List.zipWith conv ks r) [] (fun ks' h' => by rw [hk] at h'; cases h'; exact hI) hle (fun e => by
          subst e
          have hks := kinds_insert hk
          subst hks
          match r, hlen with
          | [a, b, c, d, e], _ => exact ⟨a, b, _, rfl⟩)
        clear hst hle e1 hI ct
        generalize List.zipWith conv ks r = its at *
        have hz2 : 1 + its.length ≤ 16777216 := by omega
        simp [hz2, hwf]
        unfold ifc
        cases hb : wfB w its with
        | true => simp [optS, stV]
        | false => simp [optS]
      · intro q hq
        rw [turn_tp2 (by simp [wipe]) (by simp [wipe])]
        have hx : q.2.length ≤ 16777216 := hl q.2 (by
          have := (List.of_mem_zip hq).2
          simp [this])
        simp [wipe, F_parsed_integer_ok o q.2 _ hx, conv_v]
        by_cases hb : q.1 = x_bit <;> simp [hb, ifc]
    · have hne : ¬ ((r.length : Int) + 1 = (ks.length : Int) + 1) := by omega
      simp [stepI, hk, hlen, hne, optS]
end Ev
end
section
set_option maxRecDepth 10000
/-! PkF: reading and writing rows of steps. -/
namespace Ev
abbrev St0 := Tx × List It0
def words (l : Tx) : List Tx := spl [32] 0 [] l
def lines (x : Tx) : List Tx := if x = [] then [] else spl [10] 0 [] x
inductive Rr where
  | ok (ss : List St0) | bad (n : Int)
def readL : List Tx → Int → List St0 → Rr
  | [], _, acc => .ok acc
  | l :: ls, n, acc => match stepI (words l) with
    | none => .bad n
    | some s => readL ls (n + 1) (acc ++ [s])
theorem F_need_text_ok (o) (x : Tx) (h : PH) : F_need_text o [.str x] h = .ok .non h := by
  refine runPure_ok (h1 := []) rfl rfl rfl ?_ rfl
  rw [runB_eq]
  simp [c_need_text, tyIs]
def rdBody : CSs := (.cons (.asg (.nm 4) (.call 1 (.cons (.mth (.split false) (.var 3) (.cons (.cst (.str [32])) .nil)) .nil)))
  (.cons (.ife (.cmp .isN (.var 4) (.cst .non)) (.cons (.raise 14 (.var 2))
  .nil) .nil)
  (.cons (.expr (.mth .append (.var 1) (.cons (.var 4) .nil)))
  .nil)))
theorem parsed_words (o) (l : Tx) (h : PH) (hl : l.length ≤ 16000000) : F_parsed_step o [.lst ((words l).map PV.str)] h = .ok (optS (stepI (words l))) h := by
  have hp := spl_parts (c := 32) l [] (by simp)
  have hn := spl_len (c := 32) l []
  unfold words
  cases e : spl [32] 0 [] l with
  | nil => exact absurd e (spl_ne l [])
  | cons w r =>
    rw [e] at hp hn
    exact F_parsed_step_ok o w r h (fun x hx => by have := (hp x hx).2.1; simp at this; omega) (by simp at hn; omega)
theorem read_loop (o) (x : Tx) : ∀ (ls : List Tx) (n : Int) (acc : List St0) (a b c : Option PV), (∀ l ∈ ls, l.length ≤ 16000000) → acc.length + ls.length ≤ 16000000 →
    ∃ a' b' c' h', forLoop (held [.lst (acc.map stV)] []) (fTurn (G_read_steps o) (.tp [.nm 2, .nm 3]) rdBody) (enmT n (ls.map PV.str)) [some (.str x), some (.ref 0), a, b, c] [.lst (acc.map stV)] =
      match readL ls n acc with
      | .ok ss => .nx [some (.str x), some (.ref 0), a', b', c'] [.lst (ss.map stV)]
      | .bad k => .exc 14 (.int k) h'
  | [], n, acc, a, b, c, _, _ => ⟨a, b, c, [], by simp [enmT, readL, for_nil (ck := held [PO.lst (acc.map stV)] []) rfl]⟩
  | l :: ls, n, acc, a, b, c, hl, hn => by
    have hll := hl l (by simp)
    have ht : fTurn (G_read_steps o) (.tp [.nm 2, .nm 3]) rdBody (.tup [.int n, .str l]) [some (.str x), some (.ref 0), a, b, c] [.lst (acc.map stV)] =
        match stepI (words l) with
        | none => .exc 14 (.int n) [.lst (acc.map stV)]
        | some s => .nx [some (.str x), some (.ref 0), some (.int n), some (.str l), some (stV s)] [.lst ((acc ++ [s]).map stV)] := by
      rw [fTurn_tp2 (by simp) (by simp)]
      have hw : l.length ≤ 16777214 := by omega
      have hp := parsed_words o l [.lst (acc.map stV)] hll
      unfold words at hp
      simp [rdBody, hw]
      rw [show List.map PV.str (spl [32] 0 [] l) = List.map PV.str (words l) from rfl, parsed_words o l _ hll]
      cases stepI (words l) with
      | none => simp [optS]
      | some s =>
        have hacc : acc.length < 16777216 := by simp at hn; omega
        have rc : recvOk .append (kind [.lst (acc.map stV)] (.ref 0)) = true := rfl
        have isn : isNon (stV s) = false := rfl
        simp [optS, isn, rc, mthop, hacc, upH]
    simp only [List.map_cons, enmT]
    cases e : stepI (words l) with
    | none =>
      rw [e] at ht
      exact ⟨a, b, c, [.lst (acc.map stV)], by rw [for_exc rfl ht rfl]; simp [readL, e]⟩
    | some s =>
      rw [e] at ht
      obtain ⟨a', b', c', h', ih⟩ := read_loop o x ls (n + 1) (acc ++ [s]) (some (.int n)) (some (.str l)) (some (stV s)) (fun y hy => hl y (by simp [hy])) (by simp at hn ⊢; omega)
      refine ⟨a', b', c', h', ?_⟩
      rw [for_nx rfl ht]
      simp only [readL, e]
      exact ih
theorem closed_sts {n : Nat} : ∀ ss : List St0, PV.closedL n (ss.map stV) = true
  | [] => rfl
  | s :: ss => by simp [PV.closedL, closed_stV, closed_sts ss]
theorem F_read_steps_ok (o) (x : Tx) (h : PH) (hx : x.length ≤ 15000000) : F_read_steps o [.str x] h = match readL (lines x) 1 [] with
    | .ok ss => .ok (.tup (ss.map stV)) h
    | .bad k => .exc 14 (.int k) h := by
  have hlines : ∀ l ∈ lines x, l.length ≤ 16000000 := by
    intro l hl
    unfold lines at hl
    split at hl
    · simp at hl
    · have := (spl_parts (c := 10) x [] (by simp) l hl).2.1
      simp at this; omega
  have hcount : (lines x).length ≤ 16000000 := by
    unfold lines
    split
    · simp
    · have := spl_len (c := 10) x []; omega
  have hrun : ∃ h1, runB (G_read_steps o) c_read_steps [.str x] [] = match readL (lines x) 1 [] with
    | .ok ss => .ok (.tup (ss.map stV)) h1
    | .bad k => .exc 14 (.int k) h1 := by
    obtain ⟨a', b', c', h', e⟩ := read_loop o x (lines x) 1 [] none none none hlines (by simpa using hcount)
    have e2 : evS (G_read_steps o) (.for_ (.tp [(.nm 2), (.nm 3)]) (.enm (.ite (.cmp .ne (.var 0) (.cst (.str []))) (.mth (.split false) (.var 0) (.cons (.cst (.str [10])) .nil)) (.lst false .nil)) 1) rdBody) [some (.str x), some (.ref 0), none, none, none] [.lst []] =
        match readL (lines x) 1 [] with
        | .ok ss => .nx [some (.str x), some (.ref 0), a', b', c'] [.lst (ss.map stV)]
        | .bad k => .exc 14 (.int k) h' := by
      rw [for_eq]
      have hw : x.length ≤ 16777214 := by omega
      have ei : evI (G_read_steps o) (.enm (.ite (.cmp .ne (.var 0) (.cst (.str []))) (.mth (.split false) (.var 0) (.cons (.cst (.str [10])) .nil)) (.lst false .nil)) 1) [some (.str x), some (.ref 0), none, none, none] [.lst []] = .ok ⟨enmT 1 ((lines x).map PV.str), [], []⟩ [.lst []] := by
        simp
        unfold ifc
        by_cases hx0 : x = []
        · subst hx0; simp [lines]
        · simp [hx0, hw, lines]
      rw [ei]
      simp only [R.on_ok, lockH_nil]
      have e' := e
      simp only [List.map_nil] at e'
      rw [e']
      cases readL (lines x) 1 [] <;> rfl
    refine ⟨match readL (lines x) 1 [] with
      | .ok ss => [.lst (ss.map stV)]
      | .bad k => h', ?_⟩
    rw [runB_eq]
    show (evSs (G_read_steps o) (.cons (.expr (.call 0 (.cons (.var 0) .nil))) (.cons (.asg (.nm 1) (.lst true .nil)) (.cons (.for_ (.tp [(.nm 2), (.nm 3)]) (.enm (.ite (.cmp .ne (.var 0) (.cst (.str []))) (.mth (.split false) (.var 0) (.cons (.cst (.str [10])) .nil)) (.lst false .nil)) 1) rdBody) (.cons (.ret (.prim .tuple (.cons (.var 1) .nil))) .nil)))) [some (.str x), none, none, none, none] []).toR = _
    simp [F_need_text_ok]
    rw [e2]
    cases readL (lines x) 1 [] with
    | ok ss => simp [primop, see, PO.see]
    | bad k => simp
  obtain ⟨h1, e⟩ := hrun
  cases er : readL (lines x) 1 [] with
  | ok ss =>
    rw [er] at e
    exact runPure_ok rfl rfl rfl e (by simp [PV.closed, closed_sts])
  | bad k =>
    rw [er] at e
    exact pure_exc rfl rfl rfl e rfl
end Ev
end
section
set_option maxRecDepth 10000
/-! PkG: the text of a step. -/
namespace Ev
theorem digit_cases {c : Nat} (h : isDig c = true) : 48 ≤ c ∧ c ≤ 57 := by simpa [isDig] using h
/-- a word for 0 or 1 -/
theorem pint01 {x : Tx} {i : Int} (h : pint x = some i) (h0 : 0 ≤ i) (h1 : i ≤ 1) : intL i = x := by
  unfold pint pintD at h
  split at h
  · rename_i q
    simp only [Bool.and_eq_true, decide_eq_true_eq] at q
    obtain ⟨q1, q2, q3⟩ := q
    split at h
    · cases h
    · rename_i q4
      have q4' : ((dg x).head? == some 48 && !(x == [48])) = false := by simpa using q4
      have neg : ∀ r : Tx, x = 45 :: r → False := by
        intro r e
        subst e
        have ed : dg (45 :: r) = r := rfl
        rw [ed] at q1 q2 q3 q4'
        have hne : r.isEmpty = false := by cases r <;> simp at q1 ⊢
        have ei : intOf (45 :: r) = some (-(digitsV r : Int)) := by
          unfold intOf
          simp only [hne, Bool.false_eq_true, if_false]
          rw [if_pos q3]
        rw [ei] at h
        have hi : i = -(digitsV r : Int) := (Option.some.inj h).symm
        match r, q1, q2, q3, q4', hi with
        | [a], _, _, q3, q4', hi =>
          have a1 := digit_cases (List.all_eq_true.mp q3 a (by simp))
          have a2 : a ≠ 48 := by intro e; subst e; simp at q4'
          simp [digitsV] at hi; omega
        | [a, b], _, _, q3, q4', hi =>
          have a1 := digit_cases (List.all_eq_true.mp q3 a (by simp))
          have a2 : a ≠ 48 := by intro e; subst e; simp at q4'
          simp [digitsV] at hi; omega
        | [a, b, c], _, _, q3, q4', hi =>
          have a1 := digit_cases (List.all_eq_true.mp q3 a (by simp))
          have a2 : a ≠ 48 := by intro e; subst e; simp at q4'
          simp [digitsV] at hi; omega
        | [a, b, c, d], _, _, q3, q4', hi =>
          have a1 := digit_cases (List.all_eq_true.mp q3 a (by simp))
          have a2 : a ≠ 48 := by intro e; subst e; simp at q4'
          simp [digitsV] at hi; omega
        | _ :: _ :: _ :: _ :: _ :: _, _, q2, _, _, _ => simp at q2
      have ed : dg x = x := by
        unfold dg
        split
        · rename_i r; exact (neg r rfl).elim
        · rfl
      rw [ed] at q1 q2 q3 q4'
      have ei : intOf x = some (digitsV x : Int) := by
        unfold intOf
        split
        · simp at q1
        · rename_i r; exact (neg r rfl).elim
        · rw [if_pos q3]
      rw [ei] at h
      have hi : i = (digitsV x : Int) := (Option.some.inj h).symm
      match x, q1, q2, q3, q4', hi with
      | [a], _, _, q3, _, hi =>
        have a1 := digit_cases (List.all_eq_true.mp q3 a (by simp))
        simp [digitsV] at hi
        have : a = 48 ∨ a = 49 := by omega
        rcases this with e | e
        · subst e; subst hi; rfl
        · subst e; subst hi; rfl
      | [a, b], _, _, q3, q4', hi =>
        have a1 := digit_cases (List.all_eq_true.mp q3 a (by simp))
        have a2 : a ≠ 48 := by intro e; subst e; simp at q4'
        simp [digitsV] at hi; omega
      | [a, b, c], _, _, q3, q4', hi =>
        have a1 := digit_cases (List.all_eq_true.mp q3 a (by simp))
        have a2 : a ≠ 48 := by intro e; subst e; simp at q4'
        simp [digitsV] at hi; omega
      | [a, b, c, d], _, _, q3, q4', hi =>
        have a1 := digit_cases (List.all_eq_true.mp q3 a (by simp))
        have a2 : a ≠ 48 := by intro e; subst e; simp at q4'
        simp [digitsV] at hi; omega
      | _ :: _ :: _ :: _ :: _ :: _, _, q2, _, _, _ => simp at q2
  · cases h
def txt : It0 → Tx
  | .s x => x
  | .i k => intL k
  | .n => []
def lineT (s : St0) : Tx := joinL [32] (s.1 :: s.2.map txt)
/-- an item that may be written -/
def wrt : It0 → Prop
  | .s _ => True
  | .i k => 0 ≤ k ∧ k ≤ 1
  | .n => False
theorem fit_txt {k x : Tx} (hk : k = x_node ∨ k = x_end ∨ k = x_mode ∨ k = x_bit) (h : fitB k (conv k x) = true) : txt (conv k x) = x ∧ wrt (conv k x) := by
  unfold conv at h ⊢
  by_cases e : k = x_bit
  · subst e
    rw [if_pos (by simp)] at h ⊢
    cases ep : pint x with
    | none => rw [ep] at h; simp [fitB] at h
    | some i =>
      rw [ep] at h
      have n1 : ¬ x_bit = x_node := by decide
      have n2 : ¬ x_bit = x_end := by decide
      have n3 : ¬ x_bit = x_mode := by decide
      simp [fitB, n1, n2, n3] at h
      exact ⟨pint01 ep h.1 h.2, h⟩
  · rw [if_neg (by simpa using e)] at h ⊢
    exact ⟨rfl, trivial⟩
theorem fits_txt : ∀ {ks r : List Tx}, (∀ k ∈ ks, k = x_node ∨ k = x_end ∨ k = x_mode ∨ k = x_bit) → r.length = ks.length → (List.zipWith fitB ks (List.zipWith conv ks r)).all id = true → (List.zipWith conv ks r).map txt = r ∧ ∀ v ∈ List.zipWith conv ks r, wrt v
  | [], [], _, _, _ => ⟨rfl, fun _ h => by simp at h⟩
  | [], _ :: _, _, h, _ => by cases h
  | _ :: _, [], _, h, _ => by cases h
  | k :: ks, x :: r, hk, hl, h => by
    simp only [List.zipWith_cons_cons, List.all_cons, id, Bool.and_eq_true] at h
    obtain ⟨h1, h2⟩ := fits_txt (fun k' q => hk k' (by simp [q])) (by simpa using hl) h.2
    obtain ⟨h3, h4⟩ := fit_txt (hk k (by simp)) h.1
    refine ⟨by simp only [List.zipWith_cons_cons, List.map_cons, h1, h3], fun v hv => ?_⟩
    rw [List.zipWith_cons_cons, List.mem_cons] at hv
    rcases hv with rfl | hv
    · exact h4
    · exact h2 v hv
theorem kinds_len {w : Tx} {ks : List Tx} (hk : kinds w = some ks) : ks.length ≤ 5 := by
  unfold kinds at hk
  cases e : tbl.find? fun p => p.1 == w with
  | none => rw [e] at hk; cases hk
  | some p =>
    rw [e] at hk
    cases hk
    have q : (tbl.all fun p => decide (p.2.length ≤ 5)) = true := by decide
    exact of_decide_eq_true (List.all_eq_true.mp q p (List.mem_of_find?_eq_some e))
/-- what a step that was read is like -/
structure Good (s : St0) (ws : List Tx) : Prop where
  wf : wfB s.1 s.2 = true
  k : ∀ ks, kinds s.1 = some ks → ItsK ks s.2
  ins : s.1 = x_insert → ∃ a b r, s.2 = .s a :: .s b :: r
  len : s.2.length ≤ 5
  txt : s.1 :: s.2.map txt = ws
  wr : ∀ v ∈ s.2, wrt v
theorem stepI_good {ws : List Tx} {s : St0} (h : stepI ws = some s) (hl : ∀ x ∈ ws, x.length ≤ 16777216) : Good s ws := by
  unfold stepI at h
  split at h
  · cases h
  · rename_i w r
    split at h
    · cases h
    · rename_i ks hk
      split at h
      · rename_i hlen
        split at h
        · rename_i hw
          cases h
          have hkk := kinds_all hk
          have hI := conv_all hkk (fun x hx => hl x (by simp [hx])) hlen
          have hw' := hw
          unfold wfB at hw'
          rw [hk] at hw'
          simp only [Bool.and_eq_true] at hw'
          obtain ⟨t1, t2⟩ := fits_txt hkk hlen hw'.2.1
          refine ⟨hw, fun ks' h' => by rw [hk] at h'; cases h'; exact hI, fun e => ?_, by rw [hI.len]; exact kinds_len hk, by simp only [t1], t2⟩
          dsimp only at e
          subst e
          have hks := kinds_insert hk
          subst hks
          match r, hlen with
          | [a, b, c, d, e], _ => exact ⟨a, b, _, rfl⟩
        · cases h
      · cases h
end Ev
end
section
set_option maxRecDepth 10000
/-! PkH: texts of rows of steps; the law's own reading. -/
namespace Ev
/-! ### the text of a step -/
theorem small01 {k : Int} (h : 0 ≤ k ∧ k ≤ 1) : small k = true := by
  unfold small
  have : k.natAbs ≤ 1 := by omega
  exact decide_eq_true (by omega)
theorem F_line_of_ok (o) (s : St0) (h : PH) (hw : ∀ v ∈ s.2, wrt v) (hl : s.2.length ≤ 1000) (ht : tlen (s.1 :: s.2.map txt) [32] ≤ 16777216) : F_line_of o [stV s] h = .ok (.str (lineT s)) h := by
  refine runPure_ok (h1 := []) rfl rfl (by simp [PV.closedL, closed_stV]) ?_ rfl
  rw [runB_eq]
  simp [c_line_of, stV, lc_eq]
  rw [lcLoop_map (f := fun v => match v with | .str x => .str x | .int k => .str (intL k) | v => v) _ rfl (by simp; omega)]
  · have e : List.map (fun v => match v with | .str x => .str x | .int k => .str (intL k) | v => v) (PV.str s.1 :: s.2.map It0.v) = (s.1 :: s.2.map txt).map PV.str := by
      simp only [List.map_cons, List.map_map]
      congr 1
      refine List.map_congr_left fun v hv => ?_
      cases v with
      | s x => rfl
      | i k => rfl
      | n => exact (hw _ hv).elim
    simp only [List.nil_append, R.bind_ok, newLst_f]
    rw [e, join_lst, gate_i ht]
    simp [lineT]
  · intro x hx
    rw [turn_nm (by simp [wipe])]
    rw [List.mem_cons] at hx
    rcases hx with rfl | hx
    · simp [wipe]
    · obtain ⟨v, hv, rfl⟩ := List.mem_map.mp hx
      cases v with
      | s x => simp [wipe, It0.v]
      | i k => simp [wipe, It0.v, small01 (hw _ hv)]
      | n => exact (hw _ hv).elim
/-- what is asked of a step that is written -/
structure Wr (s : St0) : Prop where
  wf : wfB s.1 s.2 = true
  k : ∀ ks, kinds s.1 = some ks → ItsK ks s.2
  ins : s.1 = x_insert → ∃ a b r, s.2 = .s a :: .s b :: r
  len : s.2.length ≤ 5
  wr : ∀ v ∈ s.2, wrt v
  tl : tlen (s.1 :: s.2.map txt) [32] ≤ 16777216
theorem wf_ok (o) (s : St0) (h : PH) (g : Wr s) : F_is_well_formed o [stV s] h = .ok (.bl true) h := by
  have e := F_is_well_formed_ok o s.1 s.2 h g.k (by have := g.len; omega) g.ins
  rw [g.wf] at e
  exact e
def stBody : CSs := (.cons (.ife (.not (.call 0 (.cons (.var 2) .nil))) (.cons (.raise 10 (.var 1))
  .nil) .nil)
  .nil)
theorem text_loop (o) (v : PV) : ∀ (ss : List St0) (n : Int) (a b : Option PV), (∀ s ∈ ss, Wr s) → ∃ a' b', forLoop (held [] []) (fTurn (G_steps_text o) (.tp [.nm 1, .nm 2]) stBody) (enmT n (ss.map stV)) [some v, a, b] [] = .nx [some v, a', b'] []
  | [], n, a, b, _ => ⟨a, b, by simp [enmT, for_nil (ck := held [] []) rfl]⟩
  | s :: ss, n, a, b, h => by
    have ht : fTurn (G_steps_text o) (.tp [.nm 1, .nm 2]) stBody (.tup [.int n, stV s]) [some v, a, b] [] = .nx [some v, some (.int n), some (stV s)] [] := by
      rw [fTurn_tp2 (by simp) (by simp)]
      simp [stBody, wf_ok o s [] (h s (by simp))]
    obtain ⟨a', b', ih⟩ := text_loop o v ss (n + 1) (some (.int n)) (some (stV s)) (fun s' hs => h s' (by simp [hs]))
    refine ⟨a', b', ?_⟩
    simp only [List.map_cons, enmT]
    rw [for_nx rfl ht]
    exact ih
def unV : PV → It0
  | .str x => .s x
  | .int k => .i k
  | _ => .n
theorem unV_v (l : List It0) : l.map (unV ∘ It0.v) = l := by
  refine (List.map_congr_left fun v _ => ?_).trans (List.map_id l)
  cases v <;> rfl
theorem F_steps_text_ok (o) (ss : List St0) (h : PH) (hs : ∀ s ∈ ss, Wr s) (hl : ss.length ≤ 16000000) (ht : tlen (ss.map lineT) [10] ≤ 16777216) : F_steps_text o [.tup (ss.map stV)] h = .ok (.str (joinL [10] (ss.map lineT))) h := by
  refine runPure_ok (h1 := []) rfl rfl (by simp [PV.closedL, PV.closed, closed_sts]) ?_ rfl
  rw [runB_eq]
  obtain ⟨a', b', e⟩ := text_loop o (.tup (ss.map stV)) ss 0 none none hs
  have e2 : evS (G_steps_text o) (.for_ (.tp [(.nm 1), (.nm 2)]) (.enm (.var 0) 0) stBody) [some (.tup (ss.map stV)), none, none] [] = .nx [some (.tup (ss.map stV)), a', b'] [] := by
    rw [for_eq]
    have ei : evI (G_steps_text o) (.enm (.var 0) 0) [some (.tup (ss.map stV)), none, none] [] = .ok ⟨enmT 0 (ss.map stV), [], []⟩ [] := by simp
    rw [ei]
    simp only [R.on_ok, lockH_nil]
    rw [e]
    rfl
  show (evSs (G_steps_text o) (.cons (.ife (.not (.prim (.isa [.ttup, .tlst]) (.cons (.var 0) .nil))) (.cons (.raise 10 (.cst (.int 0))) .nil) .nil) (.cons (.for_ (.tp [(.nm 1), (.nm 2)]) (.enm (.var 0) 0) stBody) (.cons (.ret (.mth .join (.cst (.str [10])) (.cons (.lc false [2] (.nm 2) (.val (.var 0)) (.cst (.bl true)) (.call 1 (.cons (.var 2) .nil))) .nil))) .nil))) [some (.tup (ss.map stV)), none, none] []).toR = _
  simp [tyIs]
  rw [e2]
  simp [lc_eq]
  rw [lcLoop_map (f := fun v => match v with | .tup (.str w :: r) => .str (lineT (w, r.map unV)) | v => v) _ rfl (by simp; omega)]
  · have eq : List.map (fun v => match v with | .tup (.str w :: r) => .str (lineT (w, r.map unV)) | v => v) (ss.map stV) = (ss.map lineT).map PV.str := by
      simp only [List.map_map]
      refine List.map_congr_left fun s hs' => ?_
      simp [stV, unV_v]
    simp only [List.nil_append, R.bind_ok, newLst_f]
    rw [eq, join_lst, gate_i ht]
    simp
  · intro x hx
    obtain ⟨s, hs1, rfl⟩ := List.mem_map.mp hx
    have g := hs s hs1
    rw [turn_nm (by simp [wipe])]
    simp [wipe, F_line_of_ok o s [] g.wr (by have := g.len; omega) g.tl]
    simp [stV, unV_v]
end Ev
end
section
set_option maxRecDepth 10000
/-! PfA: steps of anything. -/
namespace Ev
@[simp] theorem isa_dct {rep : PV → Tx} {h : PH} {ts : List Ty} {x : List (PV × PV)} : primop rep (.isa ts) [.dct false x] h = .ok (.bl (ts.any fun t => tyIs t .dct)) h := rfl
/-- an item of a bent step -/
inductive Itm : PV → Prop
  | non : Itm .non
  | bl (b : Bool) : Itm (.bl b)
  | int (i : Int) : Itm (.int i)
  | str {x : Tx} (h : x.length ≤ 1000) : Itm (.str x)
  | tp0 : Itm (.tup [])
  | ls0 : Itm (.lst [])
  | dc0 : Itm (.dct false [])
theorem Itm.cl {v : PV} {n : Nat} (h : Itm v) : v.closed n = true := by cases h <;> rfl
theorem Itm.cls {n : Nat} : ∀ {vs : List PV}, (∀ v ∈ vs, Itm v) → PV.closedL n vs = true
  | [], _ => rfl
  | v :: vs, h => by
    rw [PV.closedL, (h v List.mem_cons_self).cl, Itm.cls fun u hu => h u (List.mem_cons_of_mem _ hu)]; rfl
def strP (f : Tx → Bool) : PV → Bool
  | .str x => f x
  | _ => false
def intP : PV → Bool
  | .int _ => true
  | _ => false
theorem nm_any (o) {v : PV} (hv : Itm v) (h : PH) : F_is_node_name o [v] h = .ok (.bl (strP isNm v)) h := by
  cases hv with
  | str hx => exact F_is_node_name_ok o _ h (by omega)
  | _ =>
    refine runPure_ok (h1 := []) rfl rfl rfl ?_ rfl
    rw [runB_eq]
    simp [c_is_node_name, tyIs, strP]
theorem end_any (o) {v : PV} (hv : Itm v) (h : PH) : F_is_end o [v] h = .ok (.bl (strP isEnd v)) h := by
  cases hv with
  | str hx => exact F_is_end_ok o _ h (by omega)
  | non =>
    refine runPure_ok (h1 := []) rfl rfl rfl ?_ rfl
    rw [runB_eq]
    simp [c_is_end, tyIs, strP, nm_any o .non]
  | bl b =>
    refine runPure_ok (h1 := []) rfl rfl rfl ?_ rfl
    rw [runB_eq]
    simp [c_is_end, tyIs, strP, nm_any o (.bl b)]
  | int i =>
    refine runPure_ok (h1 := []) rfl rfl rfl ?_ rfl
    rw [runB_eq]
    simp [c_is_end, tyIs, strP, nm_any o (.int i)]
  | tp0 =>
    refine runPure_ok (h1 := []) rfl rfl rfl ?_ rfl
    rw [runB_eq]
    simp [c_is_end, tyIs, strP, nm_any o .tp0]
  | ls0 =>
    refine runPure_ok (h1 := []) rfl rfl rfl ?_ rfl
    rw [runB_eq]
    simp [c_is_end, tyIs, strP, nm_any o .ls0]
  | dc0 =>
    refine runPure_ok (h1 := []) rfl rfl rfl ?_ rfl
    rw [runB_eq]
    simp [c_is_end, tyIs, strP, nm_any o .dc0]
theorem int_any (o) {v : PV} (hv : Itm v) (h : PH) : F_is_integer o [v] h = .ok (.bl (intP v)) h := by
  cases hv with
  | _ =>
    refine runPure_ok (h1 := []) rfl rfl rfl ?_ rfl
    rw [runB_eq]
    simp [c_is_integer, tyIs, intP]
def bitP : PV → Bool
  | .int j => decide (0 ≤ j) && decide (j ≤ 1)
  | _ => false
def fitP (k : Tx) (v : PV) : Bool := if k = x_node then strP isNm v else if k = x_end then strP isEnd v else if k = x_mode then strP isMode v else bitP v
theorem fits_any (o) {k : Tx} (hk : k = x_node ∨ k = x_end ∨ k = x_mode ∨ k = x_bit) {v : PV} (hv : Itm v) (h : PH) : F_fits o [.str k, v] h = .ok (.bl (fitP k v)) h := by
  have n1 : (x_end == x_node) = false := by decide
  have n2 : (x_mode == x_node) = false := by decide
  have n3 : (x_mode == x_end) = false := by decide
  have n4 : (x_bit == x_node) = false := by decide
  have n5 : (x_bit == x_end) = false := by decide
  have n6 : (x_bit == x_mode) = false := by decide
  have m1 : ¬ x_end = x_node := by decide
  have m2 : ¬ x_mode = x_node := by decide
  have m3 : ¬ x_mode = x_end := by decide
  have m4 : ¬ x_bit = x_node := by decide
  have m5 : ¬ x_bit = x_end := by decide
  have m6 : ¬ x_bit = x_mode := by decide
  refine runPure_ok (h1 := []) rfl rfl (by simp [PV.closedL, PV.closed, hv.cl]) ?_ rfl
  rw [runB_eq]
  rcases hk with rfl | rfl | rfl | rfl
  · simp [c_fits, nm_any o hv, fitP]
  · simp [c_fits, end_any o hv, fitP, n1, m1]
  · have e2 : g_MODES = .ftp ([x_crossed, x_plain].map PV.str) := rfl
    cases hv with
    | str hx =>
      simp only [c_fits, fitP, if_neg m2, if_neg m3]
      simp [n2, n3, tyIs]
      rw [e2, in_ftp]
      simp [strP, isMode]
      rw [Bool.eq_iff_iff]
      simp
    | _ => simp [c_fits, fitP, n2, n3, m2, m3, tyIs, strP]
  · cases hv with
    | int i => simp [c_fits, int_any o (.int i), fitP, n4, n5, n6, m4, m5, m6, intP, bitP]
    | non => simp [c_fits, int_any o .non, fitP, n4, n5, n6, m4, m5, m6, intP, bitP]
    | bl b => simp [c_fits, int_any o (.bl b), fitP, n4, n5, n6, m4, m5, m6, intP, bitP]
    | str hx => simp [c_fits, int_any o (.str hx), fitP, n4, n5, n6, m4, m5, m6, intP, bitP]
    | tp0 => simp [c_fits, int_any o .tp0, fitP, n4, n5, n6, m4, m5, m6, intP, bitP]
    | ls0 => simp [c_fits, int_any o .ls0, fitP, n4, n5, n6, m4, m5, m6, intP, bitP]
    | dc0 => simp [c_fits, int_any o .dc0, fitP, n4, n5, n6, m4, m5, m6, intP, bitP]
end Ev
end
section
set_option maxRecDepth 10000
/-! PfB: what is well-formed; the program's view of it. -/
namespace Ev
/-- in ascending order where it is asked -/
def ordP (w : Tx) (its : List PV) : Bool := !(w == x_insert) || (match its with
  | .str a :: .str b :: _ => !ltT b a
  | _ => false)
def wfL (w : Tx) (its : List PV) : Bool := match kinds w with
  | none => false
  | some ks => its.length == ks.length && ((List.zipWith fitP ks its).all id && ordP w its)
def wfP : PV → Bool
  | .tup (.str w :: its) => wfL w its
  | _ => false
theorem eq_tp0 {h : PH} {x : PV} {r : List PV} : cmpop .eq (.tup (x :: r)) (.tup []) h = some false := by
  simp only [cmpop, see]
  split
  · rfl
  · simp [eqPart, PV.eqvL]
theorem eq_tp00 {h : PH} : cmpop .eq (.tup []) (.tup []) h = some true := rfl
/-- a row of the law, well-formed or not -/
inductive Rw0 : PV → Prop
  | itm {v : PV} (h : Itm v) : Rw0 v
  | tup {its : List PV} (h : ∀ v ∈ its, Itm v) (hl : its.length ≤ 100) : Rw0 (.tup its)
  | lst {its : List PV} (h : ∀ v ∈ its, Itm v) (hl : its.length ≤ 100) : Rw0 (.lst its)
theorem fit_end2 {ks : List Tx} {its : List PV} (hk : kinds x_insert = some ks) (hl : its.length = ks.length) (hf : (List.zipWith fitP ks its).all id = true) : ∃ a b r, its = .str a :: .str b :: r := by
  have e := kinds_insert hk
  subst e
  match its, hl with
  | [v1, v2, v3, v4, v5], _ =>
    simp [fitP] at hf
    obtain ⟨h1, h2, _⟩ := hf
    have n1 : ¬ x_end = x_node := by decide
    rw [if_neg n1] at h1 h2
    cases v1 <;> first | cases h1 | skip
    cases v2 <;> first | cases h2 | skip
    exact ⟨_, _, _, rfl⟩
theorem wf_tup (o) (w : Tx) (its : List PV) (h : PH) (hi : ∀ v ∈ its, Itm v) (hl : its.length ≤ 100) : F_is_well_formed o [.tup (.str w :: its)] h = .ok (.bl (wfL w its)) h := by
  refine runPure_ok (h1 := []) rfl rfl (by simp [PV.closedL, PV.closed, Itm.cls hi]) ?_ rfl
  rw [runB_eq]
  simp only [c_is_well_formed]
  simp [tyIs, eq_tp0, in_items]
  cases hk : kinds w with
  | none => simp [wfL, hk]
  | some ks =>
    have ha := kinds_all hk
    simp [ix_items hk, lc_eq, zipOp, lstOf, see]
    by_cases hlen : its.length = ks.length
    · simp [hlen]
      have ct : cut (PV.str w :: its) (sE (ks.length + 1) 1) (ks.length + 1) = its.map id := by
        have q := cut_tail (PV.str w) its
        simp only [hlen] at q
        rw [q, List.map_id]
      rw [ct, lc_zip (p := fun k v => .bl (fitP k v)) _ rfl (by simp; omega)]
      · simp
        unfold ifc
        cases hf : (List.zipWith fitP ks its).all id with
        | false => simp [wfL, hk, hlen, hf]
        | true =>
          by_cases hw : w = x_insert
          · subst hw
            obtain ⟨a, b, r, rfl⟩ := fit_end2 hk hlen hf
            have hlen' : (PV.str a :: PV.str b :: r).length = ks.length := hlen
            simp [wfL, hk, hlen', hf, ordP]
          · have hw' : (w == x_insert) = false := by simpa using hw
            simp [wfL, hk, hlen, hf, hw', ordP]
      · intro q hq
        rw [turn_tp2 (by simp [wipe]) (by simp [wipe])]
        have h1 := List.of_mem_zip hq
        simp [wipe, fits_any o (ha _ h1.1) (hi _ h1.2)]
    · have e1 : ((its.length : Int) + 1 == (ks.length : Int) + 1) = false := by simp; omega
      have e2 : (its.length == ks.length) = false := by simpa using hlen
      simp [wfL, hk, e1, e2]
theorem wf_any (o) {v : PV} (hv : Rw0 v) (h : PH) : F_is_well_formed o [v] h = .ok (.bl (wfP v)) h := by
  have no : ∀ {v : PV}, Itm v → F_is_well_formed o [v] h = .ok (.bl false) h := fun {v} hv => by
    cases hv <;> (refine runPure_ok (h1 := []) rfl rfl rfl ?_ rfl; rw [runB_eq]; simp [c_is_well_formed, tyIs, eq_tp00])
  cases hv with
  | itm hi =>
    rw [no hi]
    cases hi <;> rfl
  | lst hi hl =>
    refine runPure_ok (h1 := []) rfl rfl (by simp [PV.closedL, PV.closed, Itm.cls hi]) ?_ rfl
    rw [runB_eq]
    simp [c_is_well_formed, tyIs, wfP]
  | @tup its hi hl =>
    cases its with
    | nil => exact no .tp0
    | cons x r =>
      have hr : ∀ v ∈ r, Itm v := fun v hm => hi v (List.mem_cons_of_mem _ hm)
      have hx := hi x List.mem_cons_self
      have hl' : r.length ≤ 100 := by simp at hl; omega
      cases hx with
      | str hs => exact wf_tup o _ r h hr hl'
      | _ =>
        refine runPure_ok (h1 := []) rfl rfl (by simp [PV.closedL, PV.closed, PV.closedD, Itm.cls hr]) ?_ rfl
        rw [runB_eq]
        simp [c_is_well_formed, tyIs, eq_tp0, wfP]
end Ev
end
section
set_option maxRecDepth 10000
/-! PfC: the law's view of what is well-formed. -/
namespace Ev
theorem lname_str (o) (x : Tx) (h : PH) (hx : x.length ≤ 16777216) : F__law_is_name o [.str x] h = .ok (.bl (isNm x)) h := by
  refine runPure_ok (h1 := []) rfl rfl rfl ?_ rfl
  rw [runB_eq]
  simp [c__law_is_name, hx, tyIs, lc_eq]
  unfold ifc
  split
  · rename_i q
    have q2 : ¬ (0 < x.length ∧ (x.length : Int) < 9) := by
      intro ⟨a, b⟩
      simp [a, b] at q
    have : isNm x = false := by
      unfold isNm
      rw [Bool.eq_false_iff]
      intro h
      simp at h
      omega
    simp [this]
  · rename_i q
    have q0 : 0 < x.length ∧ (x.length : Int) < 9 := by
      by_cases a : 0 < x.length <;> by_cases b : (x.length : Int) < 9 <;> simp [a, b] at q ⊢
    have q1 : 1 ≤ x.length := by omega
    have q2 : x.length ≤ 8 := by omega
    simp [lc_eq]
    rw [lcLoop_filter (p := fun v => match v with | .str [c] => !(decide (97 ≤ c) && decide (c ≤ 122)) | _ => false) _ rfl (by simp; omega)]
    · have e : (x.map fun c => PV.str [c]).filter (fun v => match v with | .str [c] => !(decide (97 ≤ c) && decide (c ≤ 122)) | _ => false) = ((x.filter fun c => !(decide (97 ≤ c) && decide (c ≤ 122))).map fun c => [c]).map PV.str := by
        rw [List.filter_map, List.map_map]
        rfl
      simp only [List.nil_append, R.bind_ok, newLst_f]
      rw [e]
      have e2 := eq_lst (h := ([] : PH)) (xs := (x.filter fun c => !(decide (97 ≤ c) && decide (c ≤ 122))).map fun c => [c]) (ys := [])
      rw [List.map_nil] at e2
      simp only [R.bind_ok, e2, ofB_some]
      simp [isNm, q1, q2, isLow]
      rw [Bool.eq_iff_iff]
      simp
    · intro v hv
      obtain ⟨c, hm, rfl⟩ := List.mem_map.mp hv
      rw [turn_nm (by simp [wipe])]
      simp [wipe]
      by_cases h1 : c < 97 <;> by_cases h2 : 122 < c <;> simp [h1, h2, Nat.not_le.mpr, Nat.not_lt.mp] <;> first | (have h3 : ¬ 97 ≤ c := by omega; simp [h3]; done) | (have h3 : ¬ c ≤ 122 := by omega; simp [h3]; done) | (have h3 : 97 ≤ c := by omega; have h4 : c ≤ 122 := by omega; simp [h3, h4]; done) | rfl
theorem lname_any (o) {v : PV} (hv : Itm v) (h : PH) : F__law_is_name o [v] h = .ok (.bl (strP isNm v)) h := by
  cases hv with
  | str hx => exact lname_str o _ h (by omega)
  | _ =>
    refine runPure_ok (h1 := []) rfl rfl rfl ?_ rfl
    rw [runB_eq]
    simp [c__law_is_name, tyIs, strP]
theorem lmode_any (o) {v : PV} (hv : Itm v) (h : PH) : F__law_is_mode o [v] h = .ok (.bl (strP isMode v)) h := by
  cases hv with
  | @str x hx =>
    refine runPure_ok (h1 := []) rfl rfl rfl ?_ rfl
    rw [runB_eq]
    have e := in_tup (h := ([] : PH)) (x := x) (xs := [x_crossed, x_plain])
    simp only [List.map_cons, List.map_nil] at e
    simp [c__law_is_mode, tyIs, e, strP, isMode]
    rw [Bool.eq_iff_iff]
    simp
  | _ =>
    refine runPure_ok (h1 := []) rfl rfl rfl ?_ rfl
    rw [runB_eq]
    simp [c__law_is_mode, tyIs, strP]
theorem isEnd_eq (x : Tx) : isEnd x = (isNm x || [[48], [49], [50], [51], [52], [53], [54], [55]].contains x) := by
  unfold isEnd
  congr 1
  unfold isPt
  match x with
  | [] => rfl
  | [c] =>
    rw [Bool.eq_iff_iff]
    simp
    omega
  | a :: b :: r => simp
theorem lend_any (o) {v : PV} (hv : Itm v) (h : PH) : F__law_is_end o [v] h = .ok (.bl (strP isEnd v)) h := by
  have e0 := lname_any o hv []
  cases hv with
  | @str x hx =>
    refine runPure_ok (h1 := []) rfl rfl rfl ?_ rfl
    rw [runB_eq]
    have e := in_tup (h := ([] : PH)) (x := x) (xs := [[48], [49], [50], [51], [52], [53], [54], [55]])
    simp only [List.map_cons, List.map_nil] at e
    simp [c__law_is_end, e0, e, isEnd_eq, strP, tyIs]
  | _ =>
    refine runPure_ok (h1 := []) rfl rfl rfl ?_ rfl
    rw [runB_eq]
    simp [c__law_is_end, e0, strP, tyIs]
end Ev
end
section
set_option maxRecDepth 10000
/-! PfD: the law's well-formed is the program's. -/
namespace Ev
section
variable {o : Ops} {w : Tx} {its : List PV} {h : PH}
theorem ixt0 {a : PV} {r : List PV} : ixop (.tup (a :: r)) (.int 0) h = .ok a h := ix_tup (n := 0) rfl rfl
theorem ixt1 {a b : PV} {r : List PV} : ixop (.tup (a :: b :: r)) (.int 1) h = .ok b h := ix_tup (n := 1) rfl rfl
theorem ixt2 {a b c : PV} {r : List PV} : ixop (.tup (a :: b :: c :: r)) (.int 2) h = .ok c h := ix_tup (n := 2) rfl rfl
theorem ixt3 {a b c d : PV} {r : List PV} : ixop (.tup (a :: b :: c :: d :: r)) (.int 3) h = .ok d h := ix_tup (n := 3) rfl rfl
theorem ixt4 {a b c d f : PV} {r : List PV} : ixop (.tup (a :: b :: c :: d :: f :: r)) (.int 4) h = .ok f h := ix_tup (n := 4) rfl rfl
theorem lw_1 (hi : ∀ v ∈ its, Itm v) (h1 : [x_recolor, x_drop, x_evaluate, x_complement].contains w = true) (hk : kinds w = some [x_node]) (hn : (w == x_insert) = false) : F__law_is_well_formed o [.tup (.str w :: its)] h = .ok (.bl (wfL w its)) h := by
  refine runPure_ok (h1 := []) rfl rfl (by simp [PV.closedL, PV.closed, Itm.cls hi]) ?_ rfl
  rw [runB_eq]
  have e1 := in_tup (h := ([] : PH)) (x := w) (xs := [x_recolor, x_drop, x_evaluate, x_complement])
  simp only [List.map_cons, List.map_nil] at e1
  rw [h1] at e1
  simp [c__law_is_well_formed, tyIs, eq_tp0, cut_tail, stP, stPs, see, e1]
  by_cases hl : its.length = 1
  · match its, hl with
    | [a], _ => simp [ixt0, lname_any o (hi a List.mem_cons_self), wfL, hk, fitP, ordP, hn]
  · have e2 : ((its.length : Int) == 1) = false := by simp; omega
    have e3 : (its.length == 1) = false := by simpa using hl
    simp [e2, wfL, hk, e3]
theorem lw_2 (hi : ∀ v ∈ its, Itm v) (h1 : [x_recolor, x_drop, x_evaluate, x_complement].contains w = false) (h2 : [x_fuse, x_cancel, x_pivot, x_rename].contains w = true) (hk : kinds w = some [x_node, x_node]) (hn : (w == x_insert) = false) : F__law_is_well_formed o [.tup (.str w :: its)] h = .ok (.bl (wfL w its)) h := by
  refine runPure_ok (h1 := []) rfl rfl (by simp [PV.closedL, PV.closed, Itm.cls hi]) ?_ rfl
  rw [runB_eq]
  have e1 := in_tup (h := ([] : PH)) (x := w) (xs := [x_recolor, x_drop, x_evaluate, x_complement])
  have e2 := in_tup (h := ([] : PH)) (x := w) (xs := [x_fuse, x_cancel, x_pivot, x_rename])
  simp only [List.map_cons, List.map_nil] at e1 e2
  rw [h1] at e1
  rw [h2] at e2
  simp [c__law_is_well_formed, tyIs, eq_tp0, cut_tail, stP, stPs, see, e1, e2]
  by_cases hl : its.length = 2
  · match its, hl with
    | [a, b], _ => simp [ixt0, ixt1, lname_any o (hi a (by simp)), lname_any o (hi b (by simp)), wfL, hk, fitP, ordP, hn]
  · have e2 : ((its.length : Int) == 2) = false := by simp; omega
    have e3 : (its.length == 2) = false := by simpa using hl
    simp [e2, wfL, hk, e3]
theorem lw_unloop (hi : ∀ v ∈ its, Itm v) : F__law_is_well_formed o [.tup (.str x_unloop :: its)] h = .ok (.bl (wfL x_unloop its)) h := by
  refine runPure_ok (h1 := []) rfl rfl (by simp [PV.closedL, PV.closed, Itm.cls hi]) ?_ rfl
  rw [runB_eq]
  have e1 := in_tup (h := ([] : PH)) (x := x_unloop) (xs := [x_recolor, x_drop, x_evaluate, x_complement])
  have e2 := in_tup (h := ([] : PH)) (x := x_unloop) (xs := [x_fuse, x_cancel, x_pivot, x_rename])
  simp only [List.map_cons, List.map_nil] at e1 e2
  rw [show [x_recolor, x_drop, x_evaluate, x_complement].contains x_unloop = false by decide] at e1
  rw [show [x_fuse, x_cancel, x_pivot, x_rename].contains x_unloop = false by decide] at e2
  have hk : kinds x_unloop = some [x_node, x_mode] := by decide
  have hn : (x_unloop == x_insert) = false := by decide
  have m2 : ¬ x_mode = x_node := by decide
  have m3 : ¬ x_mode = x_end := by decide
  simp [c__law_is_well_formed, tyIs, eq_tp0, cut_tail, stP, stPs, see, e1, e2]
  by_cases hl : its.length = 2
  · match its, hl with
    | [a, b], _ => simp [ixt0, ixt1, lname_any o (hi a (by simp)), lmode_any o (hi b (by simp)), wfL, hk, fitP, ordP, hn, m2, m3]
  · have e2 : ((its.length : Int) == 2) = false := by simp; omega
    have e3 : (its.length == 2) = false := by simpa using hl
    simp [e2, wfL, hk, e3]
theorem eq_tp1 {w c : Tx} {r : List PV} : cmpop .eq (.tup (.str w :: r)) (.tup [.str c]) h = some (w == c && r.isEmpty) := by
  simp only [cmpop, see]
  have e : PV.eqvL (.str w :: r) [.str c] = (w == c && r.isEmpty) := by
    cases r <;> simp [PV.eqvL, PV.eqv]
  split
  · rw [show (PV.tup (.str w :: r)).eqv (.tup [.str c]) = PV.eqvL (.str w :: r) [.str c] from rfl, e]
  · simp [eqPart, eqOk, PV.plain, PV.depth, e]
theorem lw_other (hi : ∀ v ∈ its, Itm v) (h1 : [x_recolor, x_drop, x_evaluate, x_complement].contains w = false) (h2 : [x_fuse, x_cancel, x_pivot, x_rename].contains w = false) (h3 : (w == x_unloop) = false) (h4 : (w == x_insert) = false)
    (hk : wfL w its = (w == x_clear && its.isEmpty)) : F__law_is_well_formed o [.tup (.str w :: its)] h = .ok (.bl (wfL w its)) h := by
  refine runPure_ok (h1 := []) rfl rfl (by simp [PV.closedL, PV.closed, Itm.cls hi]) ?_ rfl
  rw [runB_eq]
  have e1 := in_tup (h := ([] : PH)) (x := w) (xs := [x_recolor, x_drop, x_evaluate, x_complement])
  have e2 := in_tup (h := ([] : PH)) (x := w) (xs := [x_fuse, x_cancel, x_pivot, x_rename])
  simp only [List.map_cons, List.map_nil] at e1 e2
  rw [h1] at e1
  rw [h2] at e2
  simp [c__law_is_well_formed, tyIs, eq_tp0, cut_tail, stP, stPs, see, e1, e2, h3, h4, eq_tp1, hk]
theorem in_bits {v : PV} (hv : Itm v) (h : intP v = true) : ∃ b, cmpop .inn v (.tup [.int 0, .int 1]) ([] : PH) = some b ∧ b = bitP v := by
  cases hv with
  | int i =>
    refine ⟨_, rfl, ?_⟩
    show (([PV.int 0, PV.int 1] : List PV).any _) = _
    simp [PV.eqv, bitP]
    rw [Bool.eq_iff_iff]
    simp
    omega
  | _ => cases h
theorem lw_insert (hi : ∀ v ∈ its, Itm v) : F__law_is_well_formed o [.tup (.str x_insert :: its)] h = .ok (.bl (wfL x_insert its)) h := by
  refine runPure_ok (h1 := []) rfl rfl (by simp [PV.closedL, PV.closed, Itm.cls hi]) ?_ rfl
  rw [runB_eq]
  have e1 := in_tup (h := ([] : PH)) (x := x_insert) (xs := [x_recolor, x_drop, x_evaluate, x_complement])
  have e2 := in_tup (h := ([] : PH)) (x := x_insert) (xs := [x_fuse, x_cancel, x_pivot, x_rename])
  simp only [List.map_cons, List.map_nil] at e1 e2
  rw [show [x_recolor, x_drop, x_evaluate, x_complement].contains x_insert = false by decide] at e1
  rw [show [x_fuse, x_cancel, x_pivot, x_rename].contains x_insert = false by decide] at e2
  have hk : kinds x_insert = some [x_end, x_end, x_mode, x_node, x_bit] := by decide
  have hu : (x_insert == x_unloop) = false := by decide
  have hc : (x_insert == x_clear) = false := by decide
  have m1 : ¬ x_end = x_node := by decide
  have m2 : ¬ x_mode = x_node := by decide
  have m3 : ¬ x_mode = x_end := by decide
  have m4 : ¬ x_bit = x_node := by decide
  have m5 : ¬ x_bit = x_end := by decide
  have m6 : ¬ x_bit = x_mode := by decide
  by_cases hl : its.length = 5
  · match its, hl with
    | [a, b, c, d, f], _ =>
      have ia := hi a (by simp)
      have ib := hi b (by simp)
      have ic := hi c (by simp)
      have id_ := hi d (by simp)
      have if_ := hi f (by simp)
      have W : wfL x_insert [a, b, c, d, f] = (strP isEnd a && (strP isEnd b && (strP isMode c && (strP isNm d && (bitP f && ordP x_insert [a, b, c, d, f]))))) := by
        simp [wfL, hk, fitP, m1, m2, m3, m4, m5, m6, Bool.and_assoc]
      rw [W]
      have ct : cut [PV.str x_insert, a, b, c, d, f] (sE 6 1) 6 = [a, b, c, d, f] := rfl
      simp only [c__law_is_well_formed]
      simp [tyIs, eq_tp0, ct, stP, stPs, see, e1, e2, hu, ixt0, ixt1, ixt2, ixt3, ixt4, lend_any o ia, lend_any o ib, lmode_any o ic, lname_any o id_]
      cases hA : strP isEnd a with
      | false => simp
      | true =>
        cases hB : strP isEnd b with
        | false => simp
        | true =>
          cases hC : strP isMode c with
          | false => simp
          | true =>
            cases hD : strP isNm d with
            | false => simp
            | true =>
              obtain ⟨x, rfl⟩ : ∃ x, a = .str x := by cases a <;> first | cases hA | exact ⟨_, rfl⟩
              obtain ⟨y, rfl⟩ : ∃ y, b = .str y := by cases b <;> first | cases hB | exact ⟨_, rfl⟩
              simp [ixt4, ordP]
              cases hO : ltT y x with
              | true => simp
              | false =>
                cases if_ with
                | int i =>
                  obtain ⟨bb, e5, e6⟩ := in_bits (.int i) rfl
                  simp [tyIs, e5, e6]
                | _ => simp [tyIs, bitP]
  · have e3 : (its.length == 5) = false := by simpa using hl
    have e4 : ((its.length : Int) == 5) = false := by simp; omega
    simp [c__law_is_well_formed, tyIs, eq_tp0, cut_tail, stP, stPs, see, e1, e2, hu, e4, eq_tp1, hc, wfL, hk, e3]
theorem lw_tup (hi : ∀ v ∈ its, Itm v) : F__law_is_well_formed o [.tup (.str w :: its)] h = .ok (.bl (wfL w its)) h := by
  by_cases q1 : w = x_recolor
  · subst q1; exact lw_1 hi (by decide) (by decide) (by decide)
  by_cases q2 : w = x_drop
  · subst q2; exact lw_1 hi (by decide) (by decide) (by decide)
  by_cases q3 : w = x_evaluate
  · subst q3; exact lw_1 hi (by decide) (by decide) (by decide)
  by_cases q4 : w = x_complement
  · subst q4; exact lw_1 hi (by decide) (by decide) (by decide)
  by_cases q5 : w = x_fuse
  · subst q5; exact lw_2 hi (by decide) (by decide) (by decide) (by decide)
  by_cases q6 : w = x_cancel
  · subst q6; exact lw_2 hi (by decide) (by decide) (by decide) (by decide)
  by_cases q7 : w = x_pivot
  · subst q7; exact lw_2 hi (by decide) (by decide) (by decide) (by decide)
  by_cases q8 : w = x_rename
  · subst q8; exact lw_2 hi (by decide) (by decide) (by decide) (by decide)
  by_cases q9 : w = x_unloop
  · subst q9; exact lw_unloop hi
  by_cases q10 : w = x_insert
  · subst q10; exact lw_insert hi
  have n1 : [x_recolor, x_drop, x_evaluate, x_complement].contains w = false := by simp [q1, q2, q3, q4]
  have n2 : [x_fuse, x_cancel, x_pivot, x_rename].contains w = false := by simp [q5, q6, q7, q8]
  refine lw_other hi n1 n2 (by simpa using q9) (by simpa using q10) ?_
  by_cases q11 : w = x_clear
  · subst q11
    have hk : kinds x_clear = some [] := by decide
    have hn : (x_clear == x_insert) = false := by decide
    cases its <;> simp [wfL, hk, ordP, hn]
  · have hk : kinds w = none := by
      unfold kinds
      rw [Option.map_eq_none_iff, List.find?_eq_none]
      intro p hp
      simp only [tbl, List.mem_cons, List.not_mem_nil, or_false] at hp
      simp only [beq_iff_eq]
      rcases hp with rfl | rfl | rfl | rfl | rfl | rfl | rfl | rfl | rfl | rfl | rfl
      · exact fun z => q1 z.symm
      · exact fun z => q5 z.symm
      · exact fun z => q2 z.symm
      · exact fun z => q10 z.symm
      · exact fun z => q9 z.symm
      · exact fun z => q6 z.symm
      · exact fun z => q3 z.symm
      · exact fun z => q4 z.symm
      · exact fun z => q7 z.symm
      · exact fun z => q8 z.symm
      · exact fun z => q11 z.symm
    have hc : (w == x_clear) = false := by simpa using q11
    simp [wfL, hk, hc]
end
theorem lwf_any (o) {v : PV} (hv : Rw0 v) (h : PH) : F__law_is_well_formed o [v] h = .ok (.bl (wfP v)) h := by
  have no : ∀ {v : PV}, Itm v → F__law_is_well_formed o [v] h = .ok (.bl false) h := fun {v} hv => by
    cases hv <;> (refine runPure_ok (h1 := []) rfl rfl rfl ?_ rfl; rw [runB_eq]; simp [c__law_is_well_formed, tyIs, eq_tp00])
  cases hv with
  | itm hi =>
    rw [no hi]
    cases hi <;> rfl
  | lst hi hl =>
    refine runPure_ok (h1 := []) rfl rfl (by simp [PV.closedL, PV.closed, Itm.cls hi]) ?_ rfl
    rw [runB_eq]
    simp [c__law_is_well_formed, tyIs, wfP]
  | @tup its hi hl =>
    cases its with
    | nil => exact no .tp0
    | cons x r =>
      have hr : ∀ v ∈ r, Itm v := fun v hm => hi v (List.mem_cons_of_mem _ hm)
      have hx := hi x List.mem_cons_self
      cases hx with
      | str hs => exact lw_tup hr
      | _ =>
        refine runPure_ok (h1 := []) rfl rfl (by simp [PV.closedL, PV.closed, PV.closedD, Itm.cls hr]) ?_ rfl
        rw [runB_eq]
        simp [c__law_is_well_formed, tyIs, eq_tp0, wfP]
end Ev
end
section
set_option maxRecDepth 10000
/-! PfE: a well-formed row is a step that may be written. -/
namespace Ev
theorem fit_un {k : Tx} {v : PV} (hv : Itm v) (h : fitP k v = true) (hk : k = x_node ∨ k = x_end ∨ k = x_mode ∨ k = x_bit) : (unV v).v = v ∧ fitB k (unV v) = true ∧ ItK k (unV v) ∧ wrt (unV v) ∧ (txt (unV v)).length ≤ 1000 := by
  have m1 : ¬ x_end = x_node := by decide
  have m2 : ¬ x_mode = x_node := by decide
  have m3 : ¬ x_mode = x_end := by decide
  have m4 : ¬ x_bit = x_node := by decide
  have m5 : ¬ x_bit = x_end := by decide
  have m6 : ¬ x_bit = x_mode := by decide
  cases hv with
  | @str x hx =>
    refine ⟨rfl, ?_, ?_, trivial, hx⟩
    · rcases hk with rfl | rfl | rfl | rfl <;> simp [fitP, fitB, unV, strP, bitP, m1, m2, m3, m4, m5, m6] at h ⊢ <;> assumption
    · show x.length ≤ 16777216 ∧ _
      refine ⟨by omega, ?_⟩
      rcases hk with rfl | rfl | rfl | rfl
      · exact .inl rfl
      · exact .inr (.inl rfl)
      · exact .inr (.inr rfl)
      · simp [fitP, strP, bitP, m4, m5, m6] at h
  | int i =>
    have e : k = x_bit := by
      rcases hk with rfl | rfl | rfl | rfl <;> simp [fitP, strP, bitP, m1, m2, m3] at h ⊢
    subst e
    have hb : 0 ≤ i ∧ i ≤ 1 := by simpa [fitP, m4, m5, m6, bitP] using h
    refine ⟨rfl, by simpa [fitB, unV, m4, m5, m6] using hb, rfl, hb, ?_⟩
    have q : i = 0 ∨ i = 1 := by omega
    rcases q with rfl | rfl <;> decide
  | _ => 
    exfalso
    rcases hk with rfl | rfl | rfl | rfl <;> simp [fitP, strP, bitP, m1, m2, m3, m4, m5, m6] at h
theorem fits_un : ∀ {ks : List Tx} {its : List PV}, (∀ k ∈ ks, k = x_node ∨ k = x_end ∨ k = x_mode ∨ k = x_bit) → (∀ v ∈ its, Itm v) → its.length = ks.length → (List.zipWith fitP ks its).all id = true →
    (its.map unV).map It0.v = its ∧ (List.zipWith fitB ks (its.map unV)).all id = true ∧ ItsK ks (its.map unV) ∧ (∀ v ∈ its.map unV, wrt v) ∧ ∀ v ∈ its.map unV, (txt v).length ≤ 1000
  | [], [], _, _, _, _ => ⟨rfl, rfl, trivial, by simp, by simp⟩
  | k :: ks, [], _, _, hl, _ => by simp at hl
  | [], v :: vs, _, _, hl, _ => by simp at hl
  | k :: ks, v :: vs, hk, hv, hl, h => by
    rw [List.zipWith_cons_cons, List.all_cons, Bool.and_eq_true] at h
    obtain ⟨a1, a2, a3, a4, a5⟩ := fit_un (hv v List.mem_cons_self) h.1 (hk k List.mem_cons_self)
    obtain ⟨b1, b2, b3, b4, b5⟩ := fits_un (ks := ks) (its := vs) (fun k' h' => hk k' (List.mem_cons_of_mem _ h')) (fun v' h' => hv v' (List.mem_cons_of_mem _ h')) (by simpa using hl) h.2
    refine ⟨by rw [List.map_cons, List.map_cons, a1, b1], by rw [List.map_cons, List.zipWith_cons_cons, List.all_cons, b2]; simp [a2], ⟨a3, b3⟩, ?_, ?_⟩
    · intro u hu
      rcases List.mem_cons.mp hu with rfl | hu
      · exact a4
      · exact b4 u hu
    · intro u hu
      rcases List.mem_cons.mp hu with rfl | hu
      · exact a5
      · exact b5 u hu
theorem kinds_short {w : Tx} {ks : List Tx} (h : kinds w = some ks) : w.length ≤ 10 := by
  unfold kinds at h
  obtain ⟨p, hp, _⟩ := Option.map_eq_some_iff.mp h
  have h1 := List.find?_some hp
  have h2 := List.mem_of_find?_eq_some hp
  have e : p.1 = w := by simpa using h1
  subst e
  have all : tbl.all (fun p => decide (p.1.length ≤ 10)) = true := by decide
  exact of_decide_eq_true (List.all_eq_true.mp all p h2)
theorem tlen_few {n : Nat} {S : Tx} : ∀ {ts : List Tx}, (∀ t ∈ ts, t.length ≤ n) → tlen ts S ≤ ts.length * (n + S.length)
  | [], _ => by simp [tlen]
  | t :: ts, h => by
    have ih := tlen_few (n := n) (S := S) (ts := ts) (fun t' h' => h t' (List.mem_cons_of_mem _ h'))
    have h1 := h t List.mem_cons_self
    have e : tlen (t :: ts) S = t.length + S.length + tlen ts S := by simp [tlen]
    rw [e, List.length_cons, Nat.succ_mul]
    omega
theorem wf_back {v : PV} (hv : Rw0 v) (h : wfP v = true) : ∃ s, v = stV s ∧ Wr s := by
  cases hv with
  | itm hi => cases hi <;> cases h
  | lst _ _ => cases h
  | @tup its hi hl =>
    match its, h with
    | .str w :: r, h =>
      have h' : wfL w r = true := h
      unfold wfL at h'
      cases hk : kinds w with
      | none => rw [hk] at h'; cases h'
      | some ks =>
        rw [hk] at h'
        simp only [Bool.and_eq_true, beq_iff_eq] at h'
        obtain ⟨h1, h2, h3⟩ := h'
        obtain ⟨a1, a2, a3, a4, a5⟩ := fits_un (kinds_all hk) (fun v hm => hi v (List.mem_cons_of_mem _ hm)) h1 h2
        have hlen := kinds_len hk
        have el : (r.map unV).length = r.length := by simp
        refine ⟨(w, r.map unV), by simp only [stV]; rw [a1], ⟨?_, fun ks' e => ?_, fun e => ?_, by rw [el]; omega, a4, ?_⟩⟩
        · unfold wfB
          rw [hk]
          dsimp only
          rw [a2, el, h1]
          simp only [beq_self_eq_true, Bool.true_and]
          unfold ordP at h3
          cases hw : w == x_insert with
          | false => rfl
          | true =>
            rw [hw] at h3
            simp only [Bool.not_true, Bool.false_or] at h3 ⊢
            match r, h3 with
            | .str a :: .str b :: _, h3 => exact h3
        · rw [hk] at e; cases e; exact a3
        · dsimp only at e
          subst e
          obtain ⟨a, b, r', rfl⟩ := fit_end2 hk h1 h2
          exact ⟨a, b, r'.map unV, rfl⟩
        · have q := tlen_few (n := 1000) (S := [32]) (ts := w :: (r.map unV).map txt) (fun t ht => by
            rcases List.mem_cons.mp ht with rfl | ht
            · have := kinds_short hk; omega
            · obtain ⟨u, hu, rfl⟩ := List.mem_map.mp ht
              exact a5 u hu)
          have : (w :: (r.map unV).map txt).length ≤ 6 := by simp; omega
          have e2 : (1000 + ([32] : Tx).length) = 1001 := rfl
          rw [e2] at q
          have : (w :: (r.map unV).map txt).length * 1001 ≤ 6 * 1001 := Nat.mul_le_mul_right _ this
          show tlen (w :: (r.map unV).map txt) [32] ≤ _
          omega
theorem rows_back : ∀ {rows : List PV}, (∀ r ∈ rows, Rw0 r) → (∀ r ∈ rows, wfP r = true) → ∃ ss : List St0, rows = ss.map stV ∧ ∀ s ∈ ss, Wr s
  | [], _, _ => ⟨[], rfl, by simp⟩
  | r :: rows, h, hw => by
    obtain ⟨s, e, g⟩ := wf_back (h r List.mem_cons_self) (hw r List.mem_cons_self)
    obtain ⟨ss, e2, g2⟩ := rows_back (fun r' h' => h r' (List.mem_cons_of_mem _ h')) (fun r' h' => hw r' (List.mem_cons_of_mem _ h'))
    refine ⟨s :: ss, by rw [List.map_cons, e, e2], fun s' hs => ?_⟩
    rcases List.mem_cons.mp hs with rfl | hs
    · exact g
    · exact g2 s' hs
end Ev
end
section
set_option maxRecDepth 10000
/-! PfF: the text of rows. -/
namespace Ev
theorem runPure_exc {G : Ctx} {f : Fn} {vs : List PV} {h h1 : PH} {c : Nat} {v : PV} (hm : f.mode = .pure) (hn : vs.length = f.np) (hc : PV.closedL 0 vs = true) (e : runB G f vs [] = .exc c v h1) (hv : v.closed 0 = true) : runF G f vs h = .exc c v h := by
  unfold runF
  rw [if_pos hn, hm]
  dsimp only
  rw [if_pos hc, e]
  simp [leave, hv, back]
theorem Rw0.cl {v : PV} {n : Nat} (h : Rw0 v) : v.closed n = true := by
  cases h with
  | itm h => exact h.cl
  | tup h _ => exact Itm.cls h
  | lst h _ => exact Itm.cls h
theorem Rw0.cls {n : Nat} : ∀ {vs : List PV}, (∀ v ∈ vs, Rw0 v) → PV.closedL n vs = true
  | [], _ => rfl
  | v :: vs, h => by
    rw [PV.closedL, (h v List.mem_cons_self).cl, Rw0.cls fun u hu => h u (List.mem_cons_of_mem _ hu)]; rfl
/-- the two ways a row of rows comes -/
def Sq (v : PV) (rows : List PV) : Prop := v = .tup rows ∨ v = .lst rows
theorem steps_good (o) (v : PV) (ss : List St0) (h : PH) (hv : Sq v (ss.map stV)) (hs : ∀ s ∈ ss, Wr s) (hl : ss.length ≤ 16000000) (ht : tlen (ss.map lineT) [10] ≤ 16777216) : F_steps_text o [v] h = .ok (.str (joinL [10] (ss.map lineT))) h := by
  rcases hv with rfl | rfl
  · exact F_steps_text_ok o ss h hs hl ht
  refine runPure_ok (h1 := []) rfl rfl (by simp [PV.closedL, PV.closed, closed_sts]) ?_ rfl
  rw [runB_eq]
  obtain ⟨a', b', e⟩ := text_loop o (.lst (ss.map stV)) ss 0 none none hs
  have e2 : evS (G_steps_text o) (.for_ (.tp [(.nm 1), (.nm 2)]) (.enm (.var 0) 0) stBody) [some (.lst (ss.map stV)), none, none] [] = .nx [some (.lst (ss.map stV)), a', b'] [] := by
    rw [for_eq]
    have ei : evI (G_steps_text o) (.enm (.var 0) 0) [some (.lst (ss.map stV)), none, none] [] = .ok ⟨enmT 0 (ss.map stV), [], []⟩ [] := by simp
    rw [ei]
    simp only [R.on_ok, lockH_nil]
    rw [e]
    rfl
  show (evSs (G_steps_text o) (.cons (.ife (.not (.prim (.isa [.ttup, .tlst]) (.cons (.var 0) .nil))) (.cons (.raise 10 (.cst (.int 0))) .nil) .nil) (.cons (.for_ (.tp [(.nm 1), (.nm 2)]) (.enm (.var 0) 0) stBody) (.cons (.ret (.mth .join (.cst (.str [10])) (.cons (.lc false [2] (.nm 2) (.val (.var 0)) (.cst (.bl true)) (.call 1 (.cons (.var 2) .nil))) .nil))) .nil))) [some (.lst (ss.map stV)), none, none] []).toR = _
  simp [tyIs]
  rw [e2]
  simp [lc_eq]
  rw [lcLoop_map (f := fun v => match v with | .tup (.str w :: r) => .str (lineT (w, r.map unV)) | v => v) _ rfl (by simp; omega)]
  · have eq : List.map (fun v => match v with | .tup (.str w :: r) => .str (lineT (w, r.map unV)) | v => v) (ss.map stV) = (ss.map lineT).map PV.str := by
      simp only [List.map_map]
      refine List.map_congr_left fun s hs' => ?_
      simp [stV, unV_v]
    simp only [List.nil_append, R.bind_ok, newLst_f]
    rw [eq, join_lst, gate_i ht]
    simp
  · intro x hx
    obtain ⟨s, hs1, rfl⟩ := List.mem_map.mp hx
    have g := hs s hs1
    rw [turn_nm (by simp [wipe])]
    simp [wipe, F_line_of_ok o s [] g.wr (by have := g.len; omega) g.tl]
    simp [stV, unV_v]
/-- the place of the first row that is not well-formed -/
def badAt : List PV → Nat → Option Nat
  | [], _ => none
  | r :: rs, n => if wfP r then badAt rs (n + 1) else some n
theorem bad_loop (o) (v : PV) : ∀ (rows : List PV) (n k : Nat) (a b : Option PV), (∀ r ∈ rows, Rw0 r) → badAt rows n = some k → forLoop (held [] []) (fTurn (G_steps_text o) (.tp [.nm 1, .nm 2]) stBody) (enmT (n : Int) rows) [some v, a, b] [] = .exc 10 (.int k) []
  | [], n, k, a, b, _, h => by cases h
  | r :: rows, n, k, a, b, hr, h => by
    have h1 := wf_any o (hr r List.mem_cons_self) ([] : PH)
    simp only [enmT]
    unfold badAt at h
    cases hw : wfP r with
    | true =>
      rw [hw, if_pos rfl] at h
      rw [hw] at h1
      have ht : fTurn (G_steps_text o) (.tp [.nm 1, .nm 2]) stBody (.tup [.int n, r]) [some v, a, b] [] = .nx [some v, some (.int n), some r] [] := by
        rw [fTurn_tp2 (by simp) (by simp)]
        simp [stBody, h1]
      rw [for_nx rfl ht]
      have ih := bad_loop o v rows (n + 1) k (some (.int n)) (some r) (fun r' h' => hr r' (List.mem_cons_of_mem _ h')) h
      have e : ((n : Int) + 1) = ((n + 1 : Nat) : Int) := by push_cast; rfl
      rw [e]
      exact ih
    | false =>
      rw [hw] at h h1
      have h' : some n = some k := h
      cases h'
      have ht : fTurn (G_steps_text o) (.tp [.nm 1, .nm 2]) stBody (.tup [.int n, r]) [some v, a, b] [] = .exc 10 (.int n) [] := by
        rw [fTurn_tp2 (by simp) (by simp)]
        simp [stBody, h1]
      exact for_exc rfl ht rfl
theorem steps_bad (o) (v : PV) (rows : List PV) (k : Nat) (h : PH) (hv : Sq v rows) (hr : ∀ r ∈ rows, Rw0 r) (hb : badAt rows 0 = some k) : F_steps_text o [v] h = .exc 10 (.int k) h := by
  have key : ∀ v : PV, Sq v rows → evI (G_steps_text o) (.enm (.var 0) 0) [some v, none, none] [] = .ok ⟨enmT 0 rows, [], []⟩ [] → PV.closedL 0 [v] = true → (∃ b, primop (G_steps_text o).rep (.isa [.ttup, .tlst]) [v] [] = .ok (.bl b) [] ∧ b = true) → F_steps_text o [v] h = .exc 10 (.int k) h := by
    intro v hv ei hc ⟨b, eb, hb2⟩
    subst hb2
    refine runPure_exc (h1 := []) rfl rfl hc ?_ rfl
    rw [runB_eq]
    have e2 : evS (G_steps_text o) (.for_ (.tp [(.nm 1), (.nm 2)]) (.enm (.var 0) 0) stBody) [some v, none, none] [] = .exc 10 (.int k) [] := by
      rw [for_eq, ei]
      simp only [R.on_ok, lockH_nil]
      have := bad_loop o v rows 0 k none none hr hb
      rw [show ((0 : Nat) : Int) = 0 from rfl] at this
      rw [this]
      rfl
    show (evSs (G_steps_text o) (.cons (.ife (.not (.prim (.isa [.ttup, .tlst]) (.cons (.var 0) .nil))) (.cons (.raise 10 (.cst (.int 0))) .nil) .nil) (.cons (.for_ (.tp [(.nm 1), (.nm 2)]) (.enm (.var 0) 0) stBody) (.cons (.ret (.mth .join (.cst (.str [10])) (.cons (.lc false [2] (.nm 2) (.val (.var 0)) (.cst (.bl true)) (.call 1 (.cons (.var 2) .nil))) .nil))) .nil))) [some v, none, none] []).toR = _
    simp [eb]
    rw [e2]
    rfl
  rcases hv with rfl | rfl
  · exact key _ (.inl rfl) (by simp) (by simp [PV.closedL, PV.closed, Rw0.cls hr]) ⟨_, rfl, by simp [tyIs]⟩
  · exact key _ (.inr rfl) (by simp) (by simp [PV.closedL, PV.closed, Rw0.cls hr]) ⟨_, rfl, by simp [tyIs]⟩
/-- neither a tuple nor a list -/
inductive Thg : PV → Prop
  | non : Thg .non
  | bl (b : Bool) : Thg (.bl b)
  | int (i : Int) : Thg (.int i)
  | str (x : Tx) : Thg (.str x)
  | dc0 : Thg (.dct false [])
theorem steps_no (o) {v : PV} (hv : Thg v) (h : PH) : F_steps_text o [v] h = .exc 10 (.int 0) h := by
  cases hv <;> (refine runPure_exc (h1 := []) rfl rfl rfl ?_ rfl; rw [runB_eq]; simp [c_steps_text, tyIs])
/-- no text -/
inductive Ntx : PV → Prop
  | non : Ntx .non
  | bl (b : Bool) : Ntx (.bl b)
  | int (i : Int) : Ntx (.int i)
  | tup {vs : List PV} (h : PV.closedL 0 vs = true) : Ntx (.tup vs)
  | lst {vs : List PV} (h : PV.closedL 0 vs = true) : Ntx (.lst vs)
  | dc0 : Ntx (.dct false [])
theorem read_no (o) {v : PV} (hv : Ntx v) (h : PH) : F_read_steps o [v] h = .exc 14 (.int 0) h := by
  have hn : F_need_text o [v] [] = .exc 14 (.int 0) [] := by
    cases hv <;> (refine runPure_exc (h1 := []) rfl rfl (by simp [PV.closedL, PV.closed, PV.closedD, *]) ?_ rfl; rw [runB_eq]; simp [c_need_text, tyIs])
  refine runPure_exc (h1 := []) rfl rfl ?_ ?_ rfl
  · cases hv <;> simp [PV.closedL, PV.closed, PV.closedD, *]
  · rw [runB_eq]
    simp [c_read_steps, hn]
end Ev
end
section
set_option maxRecDepth 10000
/-! PfG: what is written is read. -/
namespace Ev
theorem spl_app1 {c : Nat} {y : Tx} : ∀ (x acc : Tx), spl [c] 0 acc (x ++ c :: y) = spl [c] 0 acc x ++ spl [c] 0 [] y
  | [], acc => by rw [List.nil_append, spl_hit]; simp [spl]
  | a :: r, acc => by
    by_cases h : a = c
    · rw [h, List.cons_append, spl_hit, spl_hit, spl_app1 r []]; rfl
    · rw [List.cons_append, spl_miss h, spl_miss h, spl_app1 r _]
theorem spl_joinL {c : Nat} : ∀ (x : Tx) (xs : List Tx), (∀ l ∈ x :: xs, c ∉ l) → spl [c] 0 [] (joinL [c] (x :: xs)) = x :: xs
  | x, [], h => by rw [joinL, spl_free x [] (h x (by simp))]; rfl
  | x, y :: r, h => by
    rw [joinL, List.append_assoc, List.singleton_append, spl_app1, spl_free x [] (h x (by simp)), spl_joinL y r (fun l hl => h l (by simp only [List.mem_cons] at hl ⊢; exact .inr hl))]
    rfl
/-- small letters and digits alone -/
def Wd (x : Tx) : Prop := ∀ c ∈ x, (48 ≤ c ∧ c ≤ 57) ∨ (97 ≤ c ∧ c ≤ 122)
theorem Wd.no {x : Tx} (h : Wd x) : 32 ∉ x ∧ 10 ∉ x := ⟨fun m => by have := h _ m; omega, fun m => by have := h _ m; omega⟩
theorem wd_nm {x : Tx} (h : isNm x = true) : Wd x := by
  unfold isNm isLow at h
  simp only [Bool.and_eq_true, List.all_eq_true, decide_eq_true_eq] at h
  exact fun c hc => .inr (h.2.2 c hc)
theorem wd_end {x : Tx} (h : isEnd x = true) : Wd x := by
  unfold isEnd at h
  rcases Bool.or_eq_true_iff.mp h with h | h
  · exact wd_nm h
  · unfold isPt at h
    split at h
    · rename_i c
      simp only [Bool.and_eq_true, decide_eq_true_eq] at h
      intro c' hc
      rw [List.mem_singleton.mp hc]
      exact .inl ⟨h.1, by omega⟩
    · cases h
theorem wd_mode {x : Tx} (h : isMode x = true) : Wd x := by
  unfold isMode at h
  have a1 : ∀ c ∈ x_crossed, (48 ≤ c ∧ c ≤ 57) ∨ (97 ≤ c ∧ c ≤ 122) := by decide
  have a2 : ∀ c ∈ x_plain, (48 ≤ c ∧ c ≤ 57) ∨ (97 ≤ c ∧ c ≤ 122) := by decide
  rcases Bool.or_eq_true_iff.mp h with h | h
  · rw [eq_of_beq h]; exact a1
  · rw [eq_of_beq h]; exact a2
theorem fit_conv {k : Tx} {v : It0} (h : fitB k v = true) (hk : ItK k v) (hw : wrt v) : conv k (txt v) = v ∧ Wd (txt v) := by
  have m4 : ¬ x_bit = x_node := by decide
  have m5 : ¬ x_bit = x_end := by decide
  have m6 : ¬ x_bit = x_mode := by decide
  have n4 : (x_node == x_bit) = false := by decide
  have n5 : (x_end == x_bit) = false := by decide
  have n6 : (x_mode == x_bit) = false := by decide
  have m1 : ¬ x_end = x_node := by decide
  have m2 : ¬ x_mode = x_node := by decide
  have m3 : ¬ x_mode = x_end := by decide
  cases v with
  | s x =>
    obtain ⟨_, rfl | rfl | rfl⟩ := hk
    · exact ⟨by simp [conv, n4, txt], wd_nm (x := x) (by simpa [fitB] using h)⟩
    · exact ⟨by simp [conv, n5, txt], wd_end (x := x) (by simpa [fitB, m1] using h)⟩
    · exact ⟨by simp [conv, n6, txt], wd_mode (x := x) (by simpa [fitB, m2, m3] using h)⟩
  | i j =>
    have e : k = x_bit := hk
    subst e
    have hj : 0 ≤ j ∧ j ≤ 1 := hw
    have q : j = 0 ∨ j = 1 := by omega
    rcases q with rfl | rfl
    · exact ⟨rfl, by unfold Wd; decide⟩
    · exact ⟨rfl, by unfold Wd; decide⟩
  | n => exact hw.elim
theorem fits_conv : ∀ {ks : List Tx} {its : List It0}, ItsK ks its → (List.zipWith fitB ks its).all id = true → (∀ v ∈ its, wrt v) → List.zipWith conv ks (its.map txt) = its ∧ ∀ v ∈ its, Wd (txt v)
  | [], [], _, _, _ => ⟨rfl, by simp⟩
  | [], _ :: _, h, _, _ => h.elim
  | _ :: _, [], h, _, _ => h.elim
  | k :: ks, v :: its, h, hf, hw => by
    rw [List.zipWith_cons_cons, List.all_cons, Bool.and_eq_true] at hf
    obtain ⟨a1, a2⟩ := fit_conv hf.1 h.1 (hw v List.mem_cons_self)
    obtain ⟨b1, b2⟩ := fits_conv h.2 hf.2 (fun u hu => hw u (List.mem_cons_of_mem _ hu))
    refine ⟨by rw [List.map_cons, List.zipWith_cons_cons, a1, b1], fun u hu => ?_⟩
    rcases List.mem_cons.mp hu with rfl | hu
    · exact a2
    · exact b2 u hu
theorem kinds_wd {w : Tx} {ks : List Tx} (h : kinds w = some ks) : Wd w ∧ w ≠ [] := by
  unfold kinds at h
  obtain ⟨p, hp, _⟩ := Option.map_eq_some_iff.mp h
  have h1 := List.find?_some hp
  have h2 := List.mem_of_find?_eq_some hp
  have e : p.1 = w := by simpa using h1
  subst e
  have all : tbl.all (fun p => (p.1.all fun c => (decide (48 ≤ c) && decide (c ≤ 57)) || (decide (97 ≤ c) && decide (c ≤ 122))) && !p.1.isEmpty) = true := by decide
  have q := List.all_eq_true.mp all p h2
  simp only [Bool.and_eq_true, List.all_eq_true, Bool.or_eq_true, decide_eq_true_eq, Bool.not_eq_true'] at q
  exact ⟨q.1, fun z => by rw [z] at q; simp at q⟩
theorem wr_words {s : St0} (g : Wr s) : words (lineT s) = s.1 :: s.2.map txt ∧ stepI (s.1 :: s.2.map txt) = some s ∧ 10 ∉ lineT s ∧ lineT s ≠ [] := by
  have hw := g.wf
  unfold wfB at hw
  cases hk : kinds s.1 with
  | none => rw [hk] at hw; cases hw
  | some ks =>
    rw [hk] at hw
    simp only [Bool.and_eq_true, beq_iff_eq] at hw
    obtain ⟨h1, h2, h3⟩ := hw
    obtain ⟨a1, a2⟩ := fits_conv (g.k ks hk) h2 g.wr
    obtain ⟨w1, w2⟩ := kinds_wd hk
    have all : ∀ l ∈ s.1 :: s.2.map txt, Wd l := fun l hl => by
      rcases List.mem_cons.mp hl with rfl | hl
      · exact w1
      · obtain ⟨v, hv, rfl⟩ := List.mem_map.mp hl
        exact a2 v hv
    refine ⟨spl_joinL _ _ fun l hl => (all l hl).no.1, ?_, fun m => ?_, fun z => ?_⟩
    · unfold stepI
      dsimp only
      rw [hk]
      dsimp only
      rw [if_pos (by simpa using h1), a1, if_pos g.wf]
    · unfold lineT at m
      have key : ∀ (ts : List Tx), (∀ l ∈ ts, Wd l) → 10 ∈ joinL [32] ts → False := by
        intro ts
        induction ts with
        | nil => intro _ m; simp [joinL] at m
        | cons t r ih =>
          intro h m
          cases r with
          | nil => exact (h t List.mem_cons_self).no.2 (by simpa [joinL] using m)
          | cons y r =>
            rw [joinL] at m
            simp only [List.mem_append, List.mem_singleton] at m
            rcases m with (m | m) | m
            · exact (h t List.mem_cons_self).no.2 m
            · omega
            · exact ih (fun l hl => h l (List.mem_cons_of_mem _ hl)) m
      exact key _ all m
    · unfold lineT at z
      cases hs : s.2.map txt with
      | nil => rw [hs] at z; exact w2 (by simpa [joinL] using z)
      | cons y r => rw [hs, joinL] at z; simp at z
theorem readL_wr : ∀ (ss : List St0) (n : Int) (acc : List St0), (∀ s ∈ ss, Wr s) → readL (ss.map lineT) n acc = .ok (acc ++ ss)
  | [], n, acc, _ => by simp [readL]
  | s :: ss, n, acc, h => by
    obtain ⟨a1, a2, _⟩ := wr_words (h s List.mem_cons_self)
    rw [List.map_cons, readL, a1, a2]
    dsimp only
    rw [readL_wr ss (n + 1) (acc ++ [s]) fun s' hs => h s' (List.mem_cons_of_mem _ hs)]
    simp
theorem lines_wr (ss : List St0) (h : ∀ s ∈ ss, Wr s) : lines (joinL [10] (ss.map lineT)) = ss.map lineT := by
  cases ss with
  | nil => rfl
  | cons s ss =>
    have ne : joinL [10] ((s :: ss).map lineT) ≠ [] := by
      have h1 := (wr_words (h s List.mem_cons_self)).2.2.2
      cases ss with
      | nil => simpa [joinL] using h1
      | cons y r => simp [joinL]
    unfold lines
    rw [if_neg ne]
    rw [List.map_cons]
    refine spl_joinL _ _ fun l hl => ?_
    rw [← List.map_cons (f := lineT)] at hl
    obtain ⟨s', hs', rfl⟩ := List.mem_map.mp hl
    exact (wr_words (h s' hs')).2.2.1
theorem read_back (o) (ss : List St0) (h : PH) (hs : ∀ s ∈ ss, Wr s) (hl : (joinL [10] (ss.map lineT)).length ≤ 15000000) : F_read_steps o [.str (joinL [10] (ss.map lineT))] h = .ok (.tup (ss.map stV)) h := by
  rw [F_read_steps_ok o _ h hl, lines_wr ss hs, readL_wr ss 1 [] hs]
  rfl
end Ev
end
section
set_option maxRecDepth 10000
/-! PfL: draws, a table ahead of them. -/
namespace Ev
/-- what the law's draws stand on -/
abbrev tE : Tx := x_95_108_97_119_95_101_17
def MH (gs : List Int) (s k : Int) (rest : PH) : PH := .tbl tE :: .lst (gs.map PV.int) :: .dct false [(.str x_great, .ref 1), (.str x_small, .int s), (.str x_at, .int k)] :: rest
def Drw (rest h : PH) : Prop := ∃ gs s k, h = MH gs s k rest
section
variable {gs : List Int} {s k : Int} {rest : PH}
theorem mh_at : ixop (.ref 2) (.str x_at) (MH gs s k rest) = .ok (.int k) (MH gs s k rest) := rfl
theorem mh_small : ixop (.ref 2) (.str x_small) (MH gs s k rest) = .ok (.int s) (MH gs s k rest) := rfl
theorem mh_great : ixop (.ref 2) (.str x_great) (MH gs s k rest) = .ok (.ref 1) (MH gs s k rest) := rfl
theorem mh_set_at {v : Int} : setIx (.ref 2) (.str x_at) (.int v) (MH gs s k rest) = some (MH gs s v rest) := rfl
theorem mh_set_small {v : Int} : setIx (.ref 2) (.str x_small) (.int v) (MH gs s k rest) = some (MH gs v k rest) := rfl
theorem plainL_int : ∀ xs : List Int, PV.plainL (xs.map PV.int) = true
  | [] => rfl
  | x :: xs => by simp [PV.plainL, PV.plain, plainL_int xs]
theorem depthL_int : ∀ xs : List Int, PV.depthL (xs.map PV.int) = 0
  | [] => rfl
  | x :: xs => by simp [PV.depthL, PV.depth, depthL_int xs]
theorem mh_ne : cmpop .ne (.ref 1) (.lst []) (MH gs s k rest) = some (!gs.isEmpty) := by
  show (match (some (PV.lst (gs.map PV.int)) : Option PV), (some (PV.lst []) : Option PV) with
    | some a, some b => if eqOk a b then some (!a.eqv b) else none
    | _, _ => none) = _
  cases gs with
  | nil => simp [eqOk, PV.plain, PV.plainL, PV.depth, PV.depthL, PV.eqv, PV.eqvL]
  | cons g gs => simp [eqOk, PV.plain, PV.plainL, PV.depth, PV.depthL, PV.eqv, PV.eqvL, plainL_int, depthL_int]
theorem mh_len {rep : PV → Tx} : primop rep .len [.ref 1] (MH gs s k rest) = .ok (.int gs.length) (MH gs s k rest) := by
  show R.ok (PV.int ((gs.map PV.int).length)) _ = _
  rw [List.length_map]
theorem mh_ix {j : Int} (h0 : 0 ≤ j) (h1 : j < gs.length) : ∃ c, ixop (.ref 1) (.int j) (MH gs s k rest) = .ok (.int c) (MH gs s k rest) := by
  have hj : j.toNat < gs.length := by omega
  refine ⟨gs[j.toNat], ?_⟩
  have q : ixN (gs.map PV.int).length j = some j.toNat := by unfold ixN; rw [if_pos h0, if_pos (by simp; omega)]
  have q2 : (gs.map PV.int)[j.toNat]? = some (.int gs[j.toNat]) := by simp [hj]
  show (match (ixN (gs.map PV.int).length j).bind ((gs.map PV.int)[·]?) with
      | some v => R.ok v (MH gs s k rest)
      | none => .stk) = _
  rw [q]
  simp only [Option.bind, q2]
theorem mh_set {j v : Int} (h0 : 0 ≤ j) (h1 : j < gs.length) : setIx (.ref 1) (.int j) (.int v) (MH gs s k rest) = some (MH (gs.set j.toNat v) s k rest) := by
  have q : ixN (gs.map PV.int).length j = some j.toNat := by unfold ixN; rw [if_pos h0, if_pos (by simp; omega)]
  show (match ixN (gs.map PV.int).length j with
        | some j => some (upH (MH gs s k rest) 1 (.lst ((gs.map PV.int).set j (.int v))))
        | none => none) = _
  rw [q]
  simp [upH, MH, List.map_set]
end
@[simp] theorem bin_mod_int {mu : Bool} {i j : Int} {h : PH} : binop .mod mu (.int i) (.int j) h = gate (0 < j) (.ok (.int (i % j)) h) .stk := rfl
@[simp] theorem bin_mul_int {mu : Bool} {i j : Int} {h : PH} : binop .mul mu (.int i) (.int j) h = gate ((small i || small j) = true) (.ok (.int (i * j)) h) .stk := rfl
@[simp] theorem bin_fdiv_int {mu : Bool} {i j : Int} {h : PH} : binop .fdiv mu (.int i) (.int j) h = gate ((decide (0 < j) && small j) = true) (.ok (.int (i / j)) h) .stk := rfl
theorem smallLt {i : Int} (h0 : 0 ≤ i) (h1 : i < 18446744073709551616) : small i = true := by
  unfold small
  exact decide_eq_true (by omega)
def primes : List Int := [2147483647, 2147483629, 2147483587, 2147483579, 2147483563, 2147483549, 2147483543, 2147483497]
theorem ix_primes {h : PH} {j : Int} (h0 : 0 ≤ j) (h1 : j < 8) : ∃ p : Int, ixop (.lst [.int 2147483647, .int 2147483629, .int 2147483587, .int 2147483579, .int 2147483563, .int 2147483549, .int 2147483543, .int 2147483497]) (.int j) h = .ok (.int p) h ∧ 0 < p ∧ p < 2147483648 := by
  have : j = 0 ∨ j = 1 ∨ j = 2 ∨ j = 3 ∨ j = 4 ∨ j = 5 ∨ j = 6 ∨ j = 7 := by omega
  rcases this with rfl | rfl | rfl | rfl | rfl | rfl | rfl | rfl <;> exact ⟨_, rfl, by decide, by decide⟩
/-- an int in range, the draws' form kept -/
def IntIn (rest : PH) (n : Int) (r : R PV) : Prop := match r with
  | .ok (.int r) h' => Drw rest h' ∧ 0 ≤ r ∧ r < n
  | _ => False
theorem IntIn.ex {rest : PH} {n : Int} {r : R PV} (q : IntIn rest n r) : ∃ i h', r = .ok (.int i) h' ∧ Drw rest h' ∧ 0 ≤ i ∧ i < n := by
  unfold IntIn at q
  split at q
  · rename_i i h'
    exact ⟨i, h', rfl, q⟩
  · exact q.elim
theorem F__law_draw_ok (o) {rest h : PH} {n : Int} (d : Drw rest h) (h0 : 0 < n) (h1 : n < 18446744073709551616) : ∃ r h', F__law_draw o [.ref 2, .int n] h = .ok (.int r) h' ∧ Drw rest h' ∧ 0 ≤ r ∧ r < n := by
  refine IntIn.ex ?_
  obtain ⟨gs, s, k, rfl⟩ := d
  have e0 : F__law_draw o [.ref 2, .int n] (MH gs s k rest) = runB (G__law_draw o) c__law_draw [.ref 2, .int n] (MH gs s k rest) := opn_eq rfl rfl
  rw [e0, runB_eq]
  have tail : ∀ gs c d, IntIn rest n (evSs (G__law_draw o) (.cons (.asg (.nm 5) (.lst false (.cons (.cst (.int 2147483647)) (.cons (.cst (.int 2147483629)) (.cons (.cst (.int 2147483587)) (.cons (.cst (.int 2147483579)) (.cons (.cst (.int 2147483563)) (.cons (.cst (.int 2147483549)) (.cons (.cst (.int 2147483543)) (.cons (.cst (.int 2147483497)) .nil))))))))))
  (.cons (.asg (.nm 6) (.bin .mod false (.bin .add false (.bin .add false (.ix (.var 0) (.cst (.str x_small))) (.bin .mul false (.cst (.int 7919)) (.var 2))) (.cst (.int 17))) (.ix (.var 5) (.bin .mod false (.var 2) (.cst (.int 8))))))
  (.cons (.asg (.nm 6) (.bin .mod false (.bin .add false (.bin .mul false (.var 6) (.bin .add false (.cst (.int 48271)) (.bin .mul false (.cst (.int 2)) (.var 2)))) (.bin .mul false (.cst (.int 104729)) (.var 2))) (.ix (.var 5) (.bin .mod false (.var 2) (.cst (.int 8))))))
  (.cons (.ret (.bin .mod false (.bin .fdiv false (.bin .mod false (.bin .mul false (.bin .mul false (.var 6) (.var 6)) (.var 6)) (.ix (.var 5) (.bin .mod false (.var 2) (.cst (.int 8))))) (.cst (.int 7))) (.var 1)))
  .nil)))) [some (.ref 2), some (.int n), some (.int k), c, d, none, none] (MH gs s (k + 1) rest)).toR := by
    intro gs c d
    obtain ⟨p, hp, p0, p1⟩ := ix_primes (h := MH gs s (k + 1) rest) (Int.emod_nonneg k (by decide : (8 : Int) ≠ 0)) (Int.emod_lt_of_pos k (by decide : (0 : Int) < 8))
    have sp : ∀ a : Int, small (a % p) = true := fun a => smallLt (Int.emod_nonneg a (by omega)) (by have := Int.emod_lt_of_pos a p0; omega)
    have s1 : small 7919 = true := by decide
    have s2 : small 2 = true := by decide
    have s3 : small 104729 = true := by decide
    have s4 : small 7 = true := by decide
    simp [hp, p0, mh_small, s1, s2, s3, s4, sp, h0]
    exact ⟨⟨gs, s, k + 1, rfl⟩, Int.emod_nonneg _ (by omega), Int.emod_lt_of_pos _ h0⟩
  simp [c__law_draw, mh_at, mh_set_at, mh_great, mh_ne]
  cases hg : gs with
  | nil =>
    simp
    simpa using tail [] none none
  | cons g gr =>
    rw [← hg]
    have hpos : (0 : Int) < gs.length := by rw [hg]; simp
    have j0 := Int.emod_nonneg k (by omega : (gs.length : Int) ≠ 0)
    have j1 := Int.emod_lt_of_pos k hpos
    obtain ⟨c, hc⟩ := mh_ix (gs := gs) (s := s) (k := k + 1) (rest := rest) j0 j1
    have he : gs.isEmpty = false := by rw [hg]; rfl
    have hpos2 : 0 < gs.length := by rw [hg]; simp
    simp [he, mh_len, hc, mh_great, hpos, hpos2]
    cases hcp : decide (0 < c) with
    | true =>
      have hs : small n = true := smallLt (by omega) h1
      simp [mh_great, h0, hs, mh_set j0 j1]
      exact ⟨⟨_, s, k + 1, rfl⟩, Int.emod_nonneg _ (by omega), Int.emod_lt_of_pos _ h0⟩
    | false =>
      simp
      simpa using tail gs (some (.int (k % gs.length))) (some (.int c))
end Ev
end
section
set_option maxRecDepth 10000
/-! PkM: drawn names, ends, lines. -/
namespace Ev
theorem tlen_cons {x : Tx} {xs : List Tx} {S : Tx} : tlen (x :: xs) S = x.length + S.length + tlen xs S := by simp [tlen]
/-- a result of a kind -/
def Sat (P : PV → PH → Prop) (r : R PV) : Prop := match r with
  | .ok v h => P v h
  | _ => False
theorem Sat.ex {P : PV → PH → Prop} {r : R PV} (q : Sat P r) : ∃ v h, r = .ok v h ∧ P v h := by
  unfold Sat at q
  split at q
  · rename_i v h; exact ⟨v, h, rfl, q⟩
  · exact q.elim
/-- a good text of at most n signs -/
def Gd (n : Nat) (x : Tx) : Prop := x.length ≤ n ∧ ∀ c ∈ x, c < 1114112 ∧ c ≠ 10
instance (n : Nat) (x : Tx) : Decidable (Gd n x) := by unfold Gd; exact inferInstance
theorem Gd.up {n m : Nat} {x : Tx} (h : Gd n x) (hm : n ≤ m) : Gd m x := ⟨Nat.le_trans h.1 hm, h.2⟩
theorem Gd.app {n m : Nat} {x y : Tx} (h : Gd n x) (g : Gd m y) : Gd (n + m) (x ++ y) := ⟨by have := h.1; have := g.1; simp; omega, fun c hc => by
  rcases List.mem_append.mp hc with q | q
  · exact h.2 c q
  · exact g.2 c q⟩
theorem joinL_mem (S : Tx) : ∀ (ts : List Tx) (c : Nat), c ∈ joinL S ts → c ∈ S ∨ ∃ t ∈ ts, c ∈ t
  | [], c, h => by simp [joinL] at h
  | [t], c, h => .inr ⟨t, by simp, by simpa [joinL] using h⟩
  | t :: u :: ts, c, h => by
    rw [joinL] at h
    · simp only [List.mem_append] at h
      rcases h with (h | h) | h
      · exact .inr ⟨t, by simp, h⟩
      · exact .inl h
      · rcases joinL_mem S (u :: ts) c h with q | ⟨v, q, r⟩
        · exact .inl q
        · exact .inr ⟨v, by simp only [List.mem_cons] at q ⊢; exact .inr q, r⟩
theorem joinL_len (S : Tx) : ∀ (ts : List Tx), (joinL S ts).length ≤ tlen ts S
  | [] => by simp [joinL]
  | [t] => by simp [joinL, tlen]
  | t :: u :: ts => by
    have := joinL_len S (u :: ts)
    rw [joinL, tlen_cons]
    simp only [List.length_append]; omega
theorem tlen_le {n : Nat} {S : Tx} : ∀ {ts : List Tx}, (∀ t ∈ ts, t.length ≤ n) → tlen ts S ≤ ts.length * (n + S.length)
  | [], _ => by simp [tlen]
  | t :: ts, h => by
    rw [tlen_cons]
    have h1 := h t (by simp)
    have h2 := tlen_le (S := S) (ts := ts) (fun t' q => h t' (by simp [q]))
    rw [List.length_cons, Nat.succ_mul]
    omega
theorem gd_join {n : Nat} {S : Tx} {ts : List Tx} (hS : ∀ c ∈ S, c < 1114112 ∧ c ≠ 10) (h : ∀ t ∈ ts, Gd n t) : Gd (tlen ts S) (joinL S ts) := ⟨joinL_len S ts, fun c hc => by
  rcases joinL_mem S ts c hc with q | ⟨t, q, r⟩
  · exact hS c q
  · exact (h t q).2 c r⟩
theorem to_strs {Q : Tx → Prop} : ∀ {vs : List PV}, (∀ v ∈ vs, ∃ x, v = .str x ∧ Q x) → ∃ ts : List Tx, vs = ts.map PV.str ∧ ∀ t ∈ ts, Q t
  | [], _ => ⟨[], rfl, fun _ h => by simp at h⟩
  | v :: vs, h => by
    obtain ⟨x, e, q⟩ := h v (by simp)
    obtain ⟨ts, e2, q2⟩ := to_strs (vs := vs) (fun v' h' => h v' (by simp [h']))
    refine ⟨x :: ts, by rw [e, e2]; rfl, fun t ht => ?_⟩
    rw [List.mem_cons] at ht
    rcases ht with rfl | ht
    · exact q
    · exact q2 t ht
theorem lc_draws {rest : PH} {ck : PH → Bool} {tn : PV → PH → R (Option PV)} {P : PV → Prop} (hc : ∀ h, ck h = true) : ∀ {xs acc : List PV} {h : PH}, (∀ x ∈ xs, ∀ h, Drw rest h → ∃ v h', tn x h = .ok (some v) h' ∧ Drw rest h' ∧ P v) → Drw rest h → acc.length + xs.length ≤ 16777216 →
    ∃ vs h', lcLoop ck tn xs acc h = .ok (acc ++ vs) h' ∧ Drw rest h' ∧ (∀ v ∈ vs, P v) ∧ vs.length = xs.length
  | [], acc, h, _, d, _ => ⟨[], h, by simp [lcLoop, hc], d, fun _ q => by simp at q, rfl⟩
  | x :: xs, acc, h, ht, d, hl => by
    obtain ⟨v, h1, e1, d1, p1⟩ := ht x (by simp) h d
    have hacc : acc.length < 16777216 := by simp at hl; omega
    obtain ⟨vs, h2, e2, d2, p2, l2⟩ := lc_draws hc (xs := xs) (acc := acc ++ [v]) (h := h1) (fun y hy => ht y (by simp [hy])) d1 (by simp at hl ⊢; omega)
    refine ⟨v :: vs, h2, ?_, d2, fun u hu => ?_, by simp [l2]⟩
    · simp only [lcLoop, hc, if_true, e1, R.bind]
      rw [if_pos hacc, e2]
      simp
    · rw [List.mem_cons] at hu
      rcases hu with rfl | hu
      · exact p1
      · exact p2 u hu
@[simp] theorem rng_one {h : PH} {j : Int} : rngop [.int j] h = gate (j.natAbs < 4611686018427387904) (.ok ⟨rngL 0 j.toNat, [], []⟩ h) .stk := by
  unfold rngop gate
  simp
theorem rngL_len (i : Int) (n : Nat) : (rngL i n).length = n := by simp [rngL]
/-- an item at a drawn place -/
theorem ix_in {h : PH} {xs : List PV} {r : Int} (h0 : 0 ≤ r) (h1 : r < xs.length) : ∃ v ∈ xs, ixop (.lst xs) (.int r) h = .ok v h := by
  have hj : r.toNat < xs.length := by omega
  refine ⟨xs[r.toNat], List.getElem_mem _, ?_⟩
  exact ix_lst (n := r.toNat) (by omega) (by simp [hj])
theorem ix_let {h : PH} {r : Int} (h0 : 0 ≤ r) (h1 : r < 26) : ∃ c, ixop (.str x_letters) (.int r) h = .ok (.str [c]) h ∧ 97 ≤ c ∧ c ≤ 122 := by
  have hj : r.toNat < x_letters.length := by have : x_letters.length = 26 := rfl; omega
  refine ⟨x_letters[r.toNat], ix_str (n := r.toNat) (by omega) (by simp [hj]) (by decide), ?_⟩
  have := letters_in x_letters[r.toNat]
  rw [List.contains_iff_mem.mpr (List.getElem_mem hj)] at this
  simpa using this.symm
theorem to_chrs : ∀ {vs : List PV}, (∀ v ∈ vs, ∃ c, v = .str [c] ∧ 97 ≤ c ∧ c ≤ 122) → ∃ cs : List Nat, vs = cs.map (fun c => PV.str [c]) ∧ ∀ c ∈ cs, 97 ≤ c ∧ c ≤ 122
  | [], _ => ⟨[], rfl, by simp⟩
  | v :: vs, h => by
    obtain ⟨c, e, q⟩ := h v (by simp)
    obtain ⟨cs, e2, q2⟩ := to_chrs (vs := vs) (fun v' h' => h v' (by simp [h']))
    refine ⟨c :: cs, by rw [e, e2]; rfl, fun t ht => ?_⟩
    rw [List.mem_cons] at ht
    rcases ht with rfl | ht
    · exact q
    · exact q2 t ht
theorem join_chrs : ∀ cs : List Nat, joinL [] (cs.map fun c => [c]) = cs
  | [] => rfl
  | [c] => rfl
  | c :: d :: r => by
    have ih := join_chrs (d :: r)
    simp only [List.map_cons] at ih ⊢
    rw [joinL, ih]; rfl
def ownW : List Tx := [x_cancel, x_clear, x_crossed, x_drop, x_fuse, x_insert, x_pivot, x_plain, x_recolor, x_rename, x_unloop]
theorem own_eq : spl [32] 0 [] x_99_97_110_99_101_108_71 = ownW := by decide
theorem F__law_name_ok (o) {rest h : PH} (d : Drw rest h) : ∃ x h', F__law_name o [.ref 2] h = .ok (.str x) h' ∧ Drw rest h' ∧ isNm x = true := by
  have main : Sat (fun v h' => Drw rest h' ∧ ∃ x, v = .str x ∧ isNm x = true) (F__law_name o [.ref 2] h) := by
    have e0 : F__law_name o [.ref 2] h = runB (G__law_name o) c__law_name [.ref 2] h := opn_eq rfl rfl
    rw [e0, runB_eq]
    obtain ⟨w, h1, e1, d1, w0, w1⟩ := F__law_draw_ok o d (n := 3) (by decide) (by decide)
    obtain ⟨z, h2, e2, d2, z0, z1⟩ := F__law_draw_ok o d1 (n := 8) (by decide) (by decide)
    have hl : (List.length x_99_97_110_99_101_108_71) ≤ 16777214 := by decide
    have hz : (1 + z).natAbs < 4611686018427387904 := by omega
    have hn : (1 + z).toNat ≤ 8 := by omega
    simp [c__law_name, own_eq, hl, stP_tup, e1, e2, lc_eq, hz]
    obtain ⟨vs, h3, e3, d3, p3, l3⟩ := lc_draws (rest := rest) (P := fun v => ∃ c, v = .str [c] ∧ 97 ≤ c ∧ c ≤ 122) (ck := held h2 []) (tn := lcTurn (G__law_name o) (Tg.nm 5) [some (PV.ref 2), some (PV.lst (ownW.map PV.str)), some (PV.int w), some (PV.int (1 + z)), none, none] [5] (CE.cst (PV.bl true)) ((CE.cst (PV.str x_letters)).ix (CE.call 0 (CEs.cons (CE.var 0) (CEs.cons (CE.cst (PV.int 26)) CEs.nil))))) (xs := rngL 0 (1 + z).toNat) (acc := []) (h := h2) (fun _ => rfl) (fun x hx h d => by
      obtain ⟨r, h', e, d', r0, r1⟩ := F__law_draw_ok o d (n := 26) (by decide) (by decide)
      obtain ⟨c, ec, c0, c1⟩ := ix_let (h := h') r0 r1
      refine ⟨.str [c], h', ?_, d', c, rfl, c0, c1⟩
      rw [turn_nm (by simp [wipe])]
      simp [wipe, e, ec]) d2 (by rw [rngL_len]; simp; omega)
    rw [e3]
    obtain ⟨cs, rfl, hcs⟩ := to_chrs p3
    rw [List.length_map, rngL_len] at l3
    have em : (cs.map fun c => PV.str [c]) = (cs.map fun c => [c]).map PV.str := by rw [List.map_map]; rfl
    have ht2 : tlen (cs.map fun c => [c]) [] ≤ 16777216 := by
      have := tlen_le (S := []) (ts := cs.map fun c => [c]) (n := 1) (fun t q => by obtain ⟨c, _, rfl⟩ := List.mem_map.mp q; simp)
      simp at this; omega
    have ej : mthop .join (.str []) [.lst (cs.map fun c => PV.str [c])] h3 = .ok (.str cs) h3 := by rw [em, join_lst, gate_i ht2, join_chrs]
    simp [ej]
    obtain ⟨r, h4, e4, d4, r0, r1⟩ := F__law_draw_ok o d3 (n := 11) (by decide) (by decide)
    unfold ifc
    split
    · obtain ⟨v, hv, ev⟩ := ix_in (h := h4) (xs := ownW.map PV.str) (r := r) r0 (by simpa [ownW] using r1)
      obtain ⟨x, hx, rfl⟩ := List.mem_map.mp hv
      simp [e4, ev]
      refine ⟨d4, x, rfl, ?_⟩
      have all : (ownW.all fun x => isNm x) = true := by decide
      exact List.all_eq_true.mp all x hx
    · simp
      refine ⟨d3, _, rfl, ?_⟩
      unfold isNm isLow
      have q1 : 1 ≤ cs.length := by omega
      have q2 : cs.length ≤ 8 := by omega
      simp [q1, q2]
      exact hcs
  obtain ⟨v, h', e, d', x, rfl, g⟩ := main.ex
  exact ⟨x, h', e, d', g⟩
theorem intL_dig {i : Int} (h0 : 0 ≤ i) (h1 : i < 8) : isEnd (intL i) = true := by
  have : i = 0 ∨ i = 1 ∨ i = 2 ∨ i = 3 ∨ i = 4 ∨ i = 5 ∨ i = 6 ∨ i = 7 := by omega
  rcases this with rfl | rfl | rfl | rfl | rfl | rfl | rfl | rfl <;> decide
theorem F__law_end_ok (o) {rest h : PH} (d : Drw rest h) : ∃ x h', F__law_end o [.ref 2] h = .ok (.str x) h' ∧ Drw rest h' ∧ isEnd x = true := by
  have main : Sat (fun v h' => Drw rest h' ∧ ∃ x, v = .str x ∧ isEnd x = true) (F__law_end o [.ref 2] h) := by
    have e0 : F__law_end o [.ref 2] h = runB (G__law_end o) c__law_end [.ref 2] h := opn_eq rfl rfl
    rw [e0, runB_eq]
    obtain ⟨x, h1, e1, d1, g1⟩ := F__law_name_ok o d
    obtain ⟨z, h2, e2, d2, z0, z1⟩ := F__law_draw_ok o d1 (n := 8) (by decide) (by decide)
    obtain ⟨y, h3, e3, d3, y0, y1⟩ := F__law_draw_ok o d2 (n := 2) (by decide) (by decide)
    have sz : small z = true := smallLt z0 (by omega)
    simp [c__law_end, stP_tup, e1, e2, sz, e3]
    unfold ifc
    split
    · exact ⟨d3, _, rfl, intL_dig z0 z1⟩
    · exact ⟨d3, _, rfl, by unfold isEnd; rw [g1]; rfl⟩
  obtain ⟨v, h', e, d', x, rfl, g⟩ := main.ex
  exact ⟨x, h', e, d', g⟩
theorem ltT_asymm : ∀ {a b : Tx}, ltT a b = true → ltT b a = false
  | [], [], h => by cases h
  | [], _ :: _, _ => rfl
  | _ :: _, [], h => by cases h
  | x :: xs, y :: ys, h => by
    unfold ltT at h ⊢
    by_cases e : x = y
    · subst e
      simp at h ⊢
      exact ltT_asymm h
    · rw [if_neg e] at h
      rw [if_neg (Ne.symm e)]
      simp at h ⊢
      omega
theorem sort_two (a b : Tx) : ∃ c d, sortS [.str a, .str b] = [.str c, .str d] ∧ (c = a ∨ c = b) ∧ (d = a ∨ d = b) := by
  have p : (sortS [.str a, .str b]).Perm [.str a, .str b] := List.mergeSort_perm _ _
  have hl := p.length_eq
  match e : sortS [.str a, .str b], hl with
  | [u, v], _ =>
    rw [e] at p
    have hu : u ∈ [PV.str a, PV.str b] := p.mem_iff.mp (by simp)
    have hv : v ∈ [PV.str a, PV.str b] := p.mem_iff.mp (by simp)
    simp only [List.mem_cons, List.not_mem_nil, or_false] at hu hv
    rcases hu with rfl | rfl <;> rcases hv with rfl | rfl
    · exact ⟨a, a, rfl, .inl rfl, .inl rfl⟩
    · exact ⟨a, b, rfl, .inl rfl, .inr rfl⟩
    · exact ⟨b, a, rfl, .inr rfl, .inl rfl⟩
    · exact ⟨b, b, rfl, .inr rfl, .inr rfl⟩
theorem sort_le (a b : Tx) : ∃ c d, sortS [.str a, .str b] = [.str c, .str d] ∧ (c = a ∨ c = b) ∧ (d = a ∨ d = b) ∧ ltT d c = false := by
  by_cases h : ltT b a = true
  · refine ⟨b, a, ?_, .inr rfl, .inl rfl, ?_⟩
    · have e : sortS [.str a, .str b] = [.str b, .str a] := by simp [sortS, List.mergeSort, List.merge, List.MergeSort.Internal.splitInTwo, PV.lt, h]
      exact e
    · exact ltT_asymm h
  · have h' : ltT b a = false := by simpa using h
    refine ⟨a, b, ?_, .inl rfl, .inr rfl, h'⟩
    simp [sortS, List.mergeSort, List.merge, List.MergeSort.Internal.splitInTwo, PV.lt, h']
theorem sorted_le {rep : PV → Tx} {h : PH} (a b : Tx) : ∃ c d, primop rep (.sorted false) [.lst [.str a, .str b]] h = .ok (.lst [.str c, .str d]) h ∧ (c = a ∨ c = b) ∧ (d = a ∨ d = b) ∧ ltT d c = false := by
  obtain ⟨c, d, e, hc, hd, hl⟩ := sort_le a b
  refine ⟨c, d, ?_, hc, hd, hl⟩
  have s : sortable [.str a, .str b] = true := by simp [sortable, PV.like, isTup0, isNon, isTup, PV.plain, PV.depth]
  simp only [primop, lstOf_lst, s, e]
  rfl
theorem sorted_two {rep : PV → Tx} {h : PH} (a b : Tx) : ∃ c d, primop rep (.sorted false) [.lst [.str a, .str b]] h = .ok (.lst [.str c, .str d]) h ∧ (c = a ∨ c = b) ∧ (d = a ∨ d = b) := by
  obtain ⟨c, d, e, hc, hd⟩ := sort_two a b
  refine ⟨c, d, ?_, hc, hd⟩
  have s : sortable [.str a, .str b] = true := by simp [sortable, PV.like, isTup0, isNon, isTup, PV.plain, PV.depth]
  simp only [primop, lstOf_lst, s, e]
  rfl
end Ev
end
section
set_option maxRecDepth 10000
/-! PkP: the draws' beginning; what may be shown. -/
namespace Ev
@[simp] theorem bin_pow_int {mu : Bool} {i j : Int} {h : PH} : binop .pow mu (.int i) (.int j) h = gate ((decide (0 ≤ j) && decide (j ≤ 1000000) && small i) = true) (.ok (.int (i ^ j.toNat)) h) .stk := rfl
@[simp] theorem itemsOf_fls {h : PH} {x : List PV} : itemsOf h (.fls x) = some x := rfl
def dctOf (mu tk : Bool) (o : Option (List (PV × PV))) (h1 : PH) : R PV := match o with
    | some kvs => if kvs.length ≤ 15 then newDct mu tk (kvs.foldl (fun acc p => dput acc p.1 p.2) []) h1 else .stk
    | none => .stk
@[simp] theorem ev_dct {G : Ctx} {ρ : Env} {h : PH} {mu tk : Bool} {es : CEs} : evE G (.dct mu tk es) ρ h = (evL G es ρ h).bind fun vs h1 => dctOf mu tk (pairUp tk vs) h1 := by rw [evE]; rfl
@[simp] theorem dct_e {h : PH} : dctOf false false (pairUp false []) h = .ok (.dct false []) h := rfl
def bgBody : CSs := (.cons (.ife (.cmp .lt (.var 2) (.bin .pow false (.cst (.int 10)) (.cst (.int 18)))) (.cons (.asg (.sub (.var 1) (.cst (.str x_small))) (.bin .add false (.bin .add false (.bin .mul false (.ix (.var 1) (.cst (.str x_small))) (.bin .pow false (.cst (.int 10)) (.cst (.int 18)))) (.bin .mod false (.var 2) (.bin .pow false (.cst (.int 10)) (.cst (.int 18))))) (.cst (.int 1))))
  (.cons (.asg (.sub (.var 1) (.cst (.str x_small))) (.bin .mod false (.ix (.var 1) (.cst (.str x_small))) (.bin .mul false (.bin .sub false (.bin .pow false (.cst (.int 2)) (.cst (.int 61))) (.cst (.int 1))) (.bin .sub false (.bin .pow false (.cst (.int 2)) (.cst (.int 31))) (.cst (.int 1))))))
  .nil)) .nil)
  .nil)
/-- goes on, with something kept -/
def SatN (I : Env → PH → Prop) (r : RS) : Prop := match r with
  | .nx ρ h => I ρ h
  | _ => False
theorem SatN.ex {I : Env → PH → Prop} {r : RS} (q : SatN I r) : ∃ ρ h, r = .nx ρ h ∧ I ρ h := by
  unfold SatN at q
  split at q
  · rename_i ρ h; exact ⟨ρ, h, rfl, q⟩
  · exact q.elim
/-- a loop that keeps something -/
theorem for_inv {I : Env → PH → Prop} {ck : PH → Bool} {b : PV → Env → PH → RS} (hc : ∀ ρ h, I ρ h → ck h = true) : ∀ {xs : List PV} {ρ : Env} {h : PH}, (∀ x ∈ xs, ∀ ρ h, I ρ h → SatN I (b x ρ h)) → I ρ h → ∃ ρ' h', forLoop ck b xs ρ h = .nx ρ' h' ∧ I ρ' h'
  | [], ρ, h, _, i => ⟨ρ, h, for_nil (hc ρ h i), i⟩
  | x :: xs, ρ, h, ht, i => by
    obtain ⟨ρ1, h1, e1, i1⟩ := (ht x (by simp) ρ h i).ex
    obtain ⟨ρ2, h2, e2, i2⟩ := for_inv hc (xs := xs) (fun y hy => ht y (by simp [hy])) i1
    exact ⟨ρ2, h2, by rw [for_nx (hc ρ h i) e1, e2], i2⟩
theorem dct_m {x : PO} : dctOf true false (pairUp false [.str x_great, .ref 1, .str x_small, .int 0, .str x_at, .int 0]) [.tbl tE, x] = .ok (.ref 2) [.tbl tE, x, .dct false [(.str x_great, .ref 1), (.str x_small, .int 0), (.str x_at, .int 0)]] := rfl
def BgI (ns : List Int) (ρ : Env) (h : PH) : Prop := ∃ gs s k x, h = MH gs s k [] ∧ ρ = [some (.fls (ns.map PV.int)), some (.ref 2), x]
theorem F__law_begun_ok (o) (ns : List Int) (hn : ns.length ≤ 16777216) : ∃ h', F__law_begun o [.fls (ns.map PV.int)] [.tbl tE] = .ok (.ref 2) h' ∧ Drw [] h' := by
  have main : Sat (fun v h' => v = .ref 2 ∧ Drw [] h') (F__law_begun o [.fls (ns.map PV.int)] [.tbl tE]) := by
    have e0 : F__law_begun o [.fls (ns.map PV.int)] [.tbl tE] = runB (G__law_begun o) c__law_begun [.fls (ns.map PV.int)] [.tbl tE] := opn_eq rfl rfl
    rw [e0, runB_eq]
    have s10 : small 10 = true := by decide
    have hlc : evE (G__law_begun o) (.lc true [2] (.nm 2) (.val (.var 0)) (.cmp .ge (.var 2) (.bin .pow false (.cst (.int 10)) (.cst (.int 18)))) (.var 2)) [some (.fls (ns.map PV.int)), none, none] [.tbl tE] = .ok (.ref 1) [.tbl tE, .lst ((ns.filter fun i => decide ((1000000000000000000 : Int) ≤ i)).map PV.int)] := by
      simp [lc_eq]
      rw [lcLoop_filter (p := fun v => match v with | .int i => decide ((1000000000000000000 : Int) ≤ i) | _ => false) _ rfl (by simp; omega)]
      · have e : (ns.map PV.int).filter (fun v => match v with | .int i => decide ((1000000000000000000 : Int) ≤ i) | _ => false) = (ns.filter fun i => decide ((1000000000000000000 : Int) ≤ i)).map PV.int := by
          rw [List.filter_map]; rfl
        simp [e]
      · intro v hv
        obtain ⟨i, _, rfl⟩ := List.mem_map.mp hv
        rw [turn_nm (by simp [wipe])]
        simp [wipe, s10]
        by_cases hh : (1000000000000000000 : Int) ≤ i <;> simp [hh]
    obtain ⟨ρ', h', ef, gs, s, k, x, rfl, rfl⟩ := for_inv (I := BgI ns) (ck := held (MH (ns.filter fun i => decide ((1000000000000000000 : Int) ≤ i)) 0 0 []) []) (b := fTurn (G__law_begun o) (.nm 2) bgBody) (fun _ _ _ => rfl) (xs := ns.map PV.int) (ρ := [some (.fls (ns.map PV.int)), some (.ref 2), none]) (h := MH (ns.filter fun i => decide ((1000000000000000000 : Int) ≤ i)) 0 0 []) (fun v hv ρ h ⟨gs, s, k, x, eh, er⟩ => by
        subst eh er
        obtain ⟨i, _, rfl⟩ := List.mem_map.mp hv
        have s2 : small 2 = true := by decide
        have sb : small 1000000000000000000 = true := by decide
        have sc : small 2305843009213693951 = true := by decide
        rw [fTurn_nm (by simp)]
        by_cases hh : i < (1000000000000000000 : Int)
        · simp [bgBody, hh, s10, s2, sb, sc, mh_small, mh_set_small]
          exact ⟨gs, _, k, _, rfl, rfl⟩
        · simp [bgBody, hh, s10]
          exact ⟨gs, s, k, _, rfl, rfl⟩) ⟨_, _, _, _, rfl, rfl⟩
    have e2 : evS (G__law_begun o) (.for_ (.nm 2) (.val (.var 0)) bgBody) [some (.fls (ns.map PV.int)), some (.ref 2), none] (MH (ns.filter fun i => decide ((1000000000000000000 : Int) ≤ i)) 0 0 []) = .nx [some (.fls (ns.map PV.int)), some (.ref 2), x] (MH gs s k []) := by
      rw [for_eq]
      simp
      rw [ef]
      rfl
    show Sat _ (evSs (G__law_begun o) (.cons (.asg (.nm 1) (.dct true false (.cons (.cst (.str x_great)) (.cons (.lc true [2] (.nm 2) (.val (.var 0)) (.cmp .ge (.var 2) (.bin .pow false (.cst (.int 10)) (.cst (.int 18)))) (.var 2)) (.cons (.cst (.str x_small)) (.cons (.cst (.int 0)) (.cons (.cst (.str x_at)) (.cons (.cst (.int 0)) .nil))))))))
      (.cons (.for_ (.nm 2) (.val (.var 0)) bgBody) (.cons (.ret (.var 1)) .nil))) [some (.fls (ns.map PV.int)), none, none] [.tbl tE]).toR
    rw [evSs_cons, evS_asg, ev_dct]
    simp [-evS_asg, hlc, dct_m]
    have e3 := e2
    unfold MH at e3
    rw [e3]
    simp
    exact ⟨rfl, _, _, _, rfl⟩
  obtain ⟨v, h', e, rfl, d⟩ := main.ex
  exact ⟨h', e, d⟩
end Ev
end
section
set_option maxRecDepth 10000
/-! PfQ: a drawn step. -/
namespace Ev
/-- a right step -/
structure StR (v : PV) : Prop where
  ex : ∃ its, v = .tup its ∧ (∀ x ∈ its, Itm x) ∧ 1 ≤ its.length ∧ its.length ≤ 6
  wf : wfP v = true
theorem StR.rw {v : PV} (h : StR v) : Rw0 v := by
  obtain ⟨its, rfl, h1, h2, h3⟩ := h.ex
  exact .tup h1 (by omega)
theorem nm_itm {x : Tx} (h : isNm x = true) : Itm (.str x) := .str (by
  unfold isNm at h
  simp only [Bool.and_eq_true, decide_eq_true_eq] at h
  omega)
theorem end_itm {x : Tx} (h : isEnd x = true) : Itm (.str x) := by
  unfold isEnd at h
  rcases Bool.or_eq_true_iff.mp h with h | h
  · exact nm_itm h
  · unfold isPt at h
    split at h
    · exact .str (by simp)
    · cases h
theorem w_itm {w : Tx} {ks : List Tx} (h : kinds w = some ks) : Itm (.str w) := .str (by have := kinds_short h; omega)
theorem mode_itm {x : Tx} (h : isMode x = true) : Itm (.str x) := by
  unfold isMode at h
  rcases Bool.or_eq_true_iff.mp h with h | h
  · rw [eq_of_beq h]; exact .str (by decide)
  · rw [eq_of_beq h]; exact .str (by decide)
theorem st_1 {w a : Tx} (hk : kinds w = some [x_node]) (hn : (w == x_insert) = false) (ha : isNm a = true) : StR (.tup [.str w, .str a]) :=
  ⟨⟨_, rfl, by simp only [List.forall_mem_cons]; exact ⟨w_itm hk, nm_itm ha, fun _ h => by simp at h⟩, by simp, by simp⟩, by simp [wfP, wfL, hk, fitP, strP, ha, ordP, hn]⟩
theorem st_2 {w a b : Tx} (hk : kinds w = some [x_node, x_node]) (hn : (w == x_insert) = false) (ha : isNm a = true) (hb : isNm b = true) : StR (.tup [.str w, .str a, .str b]) :=
  ⟨⟨_, rfl, by simp only [List.forall_mem_cons]; exact ⟨w_itm hk, nm_itm ha, nm_itm hb, fun _ h => by simp at h⟩, by simp, by simp⟩, by simp [wfP, wfL, hk, fitP, strP, ha, hb, ordP, hn]⟩
theorem st_un {a m : Tx} (ha : isNm a = true) (hm : isMode m = true) : StR (.tup [.str x_unloop, .str a, .str m]) := by
  have hk : kinds x_unloop = some [x_node, x_mode] := by decide
  have hn : (x_unloop == x_insert) = false := by decide
  have m2 : ¬ x_mode = x_node := by decide
  have m3 : ¬ x_mode = x_end := by decide
  exact ⟨⟨_, rfl, by simp only [List.forall_mem_cons]; exact ⟨w_itm hk, nm_itm ha, mode_itm hm, fun _ h => by simp at h⟩, by simp, by simp⟩, by simp [wfP, wfL, hk, fitP, strP, ha, hm, ordP, hn, m2, m3]⟩
theorem st_cl : StR (.tup [.str x_clear]) :=
  ⟨⟨_, rfl, by simp only [List.forall_mem_cons]; exact ⟨.str (by decide), fun _ h => by simp at h⟩, by simp, by simp⟩, by decide⟩
theorem st_in {s t m b : Tx} {z : Int} (hs : isEnd s = true) (ht : isEnd t = true) (hm : isMode m = true) (hb : isNm b = true) (h0 : 0 ≤ z) (h1 : z < 2) (ho : ltT t s = false) : StR (.tup [.str x_insert, .str s, .str t, .str m, .str b, .int z]) := by
  have hk : kinds x_insert = some [x_end, x_end, x_mode, x_node, x_bit] := by decide
  have m1 : ¬ x_end = x_node := by decide
  have m2 : ¬ x_mode = x_node := by decide
  have m3 : ¬ x_mode = x_end := by decide
  have m4 : ¬ x_bit = x_node := by decide
  have m5 : ¬ x_bit = x_end := by decide
  have m6 : ¬ x_bit = x_mode := by decide
  have hz : z ≤ 1 := by omega
  exact ⟨⟨_, rfl, by simp only [List.forall_mem_cons]; exact ⟨w_itm hk, end_itm hs, end_itm ht, mode_itm hm, nm_itm hb, .int z, fun _ h => by simp at h⟩, by simp, by simp⟩, by simp [wfP, wfL, hk, fitP, strP, bitP, hs, ht, hm, hb, h0, hz, ordP, ho, m1, m2, m3, m4, m5, m6]⟩
theorem F__law_step_ok (o) {rest h : PH} (d : Drw rest h) : ∃ v h', F__law_step o [.ref 2] h = .ok v h' ∧ Drw rest h' ∧ StR v := by
  have main : Sat (fun v h' => Drw rest h' ∧ StR v) (F__law_step o [.ref 2] h) := by
    have e0 : F__law_step o [.ref 2] h = runB (G__law_step o) c__law_step [.ref 2] h := opn_eq rfl rfl
    rw [e0, runB_eq]
    obtain ⟨a, h1, e1, d1, g1⟩ := F__law_name_ok o d
    obtain ⟨b, h2, e2, d2, g2⟩ := F__law_name_ok o d1
    obtain ⟨m, h3, e3, d3, m0, m1⟩ := F__law_draw_ok o d2 (n := 2) (by decide) (by decide)
    obtain ⟨p, h4, e4, d4, g4⟩ := F__law_end_ok o d3
    obtain ⟨q, h5, e5, d5, g5⟩ := F__law_end_ok o d4
    obtain ⟨z, h6, e6, d6, z0, z1⟩ := F__law_draw_ok o d5 (n := 2) (by decide) (by decide)
    obtain ⟨y, h7, e7, d7, y0, y1⟩ := F__law_draw_ok o d6 (n := 11) (by decide) (by decide)
    obtain ⟨md, emd, gmd⟩ : ∃ x, ixop (.lst [.str x_crossed, .str x_plain]) (.int m) h3 = .ok (.str x) h3 ∧ isMode x = true := by
      have : m = 0 ∨ m = 1 := by omega
      rcases this with rfl | rfl
      · exact ⟨x_crossed, rfl, by decide⟩
      · exact ⟨x_plain, rfl, by decide⟩
    obtain ⟨s, t, est, hs, ht, hst⟩ := sorted_le (rep := o.rep) (h := h5) p q
    have gs : isEnd s = true := by rcases hs with rfl | rfl; exact g4; exact g5
    have gt : isEnd t = true := by rcases ht with rfl | rfl; exact g4; exact g5
    simp [c__law_step, stP_tup, e1, e2, e3, emd, e4, e5, est, e6, e7]
    have few : ∀ v ∈ [PV.tup [.str x_recolor, .str a], .tup [.str x_fuse, .str a, .str b], .tup [.str x_drop, .str b], .tup [.str x_insert, .str s, .str t, .str md, .str b, .int z], .tup [.str x_unloop, .str a, .str md], .tup [.str x_cancel, .str b, .str a],
        .tup [.str x_evaluate, .str b], .tup [.str x_complement, .str a], .tup [.str x_pivot, .str a, .str a], .tup [.str x_rename, .str b, .str b], .tup [.str x_clear]], StR v := by
      simp only [List.forall_mem_cons]
      exact ⟨st_1 (by decide) (by decide) g1, st_2 (by decide) (by decide) g1 g2, st_1 (by decide) (by decide) g2, st_in gs gt gmd g2 z0 z1 hst, st_un g1 gmd, st_2 (by decide) (by decide) g2 g1, st_1 (by decide) (by decide) g2, st_1 (by decide) (by decide) g1,
        st_2 (by decide) (by decide) g1 g1, st_2 (by decide) (by decide) g2 g2, st_cl, fun _ h => by simp at h⟩
    obtain ⟨v, hv, ev⟩ := ix_in (h := h7) y0 (by simpa using y1 : y < (List.length [PV.tup [.str x_recolor, .str a], .tup [.str x_fuse, .str a, .str b], .tup [.str x_drop, .str b], .tup [.str x_insert, .str s, .str t, .str md, .str b, .int z], .tup [.str x_unloop, .str a, .str md], .tup [.str x_cancel, .str b, .str a],
        .tup [.str x_evaluate, .str b], .tup [.str x_complement, .str a], .tup [.str x_pivot, .str a, .str a], .tup [.str x_rename, .str b, .str b], .tup [.str x_clear]]))
    rw [ev]
    simp
    exact ⟨d7, few v hv⟩
  obtain ⟨v, h', e, d', g⟩ := main.ex
  exact ⟨v, h', e, d', g⟩
end Ev
end
section
set_option maxRecDepth 10000
/-! PfR: a bent step. -/
namespace Ev
theorem cut_mem {its : List PV} {i j : Nat} (h : ∀ x ∈ its, Itm x) : ∀ x ∈ cut its i j, Itm x := fun x hx => h x (List.mem_of_mem_drop (List.mem_of_mem_take hx))
theorem cut_le {its : List PV} {i j : Nat} : (cut its i j).length ≤ its.length := by
  unfold cut
  simp
  omega
theorem app_itm {a b : List PV} (ha : ∀ x ∈ a, Itm x) (hb : ∀ x ∈ b, Itm x) : ∀ x ∈ a ++ b, Itm x := fun x hx => by
  rcases List.mem_append.mp hx with h | h
  · exact ha x h
  · exact hb x h
@[simp] theorem prim_list_tup {rep : PV → Tx} {xs : List PV} {h : PH} : primop rep (.list false) [.tup xs] h = .ok (.lst xs) h := rfl
@[simp] theorem ev_rev {G : Ctx} {mu : Bool} {a : CE} {ρ : Env} {h : PH} : evE G (.rev mu a) ρ h = (evE G a ρ h).bind fun x h1 => revop mu x h1 := by rw [evE]
@[simp] theorem rev_tup {mu : Bool} {xs : List PV} {h : PH} : revop mu (.tup xs) h = .ok (.tup xs.reverse) h := rfl
@[simp] theorem slc_ii {mu : Bool} {xs : List PV} {i j : Int} {h : PH} : slcop mu (.tup xs) (.int i) (.int j) h = .ok (.tup (cut xs (sE xs.length i) (sE xs.length j))) h := rfl
def bends : List PV := [.non, .bl true, .int 0, .int (-1), .int 2, .str [], .str [65], .str [97], .str [56], .str [57], .str x_10, .str x_abcdefghi, .str x_clear, .str x_steps, .str x_plain, .tup [], .lst [], .dct false []]
theorem bends_itm : ∀ v ∈ bends, Itm v := by
  unfold bends
  simp only [List.forall_mem_cons]
  exact ⟨.non, .bl _, .int _, .int _, .int _, .str (by decide), .str (by decide), .str (by decide), .str (by decide), .str (by decide), .str (by decide), .str (by decide), .str (by decide), .str (by decide), .str (by decide), .tp0, .ls0, .dc0, fun _ h => by simp at h⟩
theorem F__law_bent_ok (o) {rest h : PH} (d : Drw rest h) {its : List PV} (hi : ∀ x ∈ its, Itm x) (h1 : 1 ≤ its.length) (h6 : its.length ≤ 6) : ∃ v h', F__law_bent o [.ref 2, .tup its] h = .ok v h' ∧ Drw rest h' ∧ Rw0 v := by
  have main : Sat (fun v h' => Drw rest h' ∧ Rw0 v) (F__law_bent o [.ref 2, .tup its] h) := by
    have e0 : F__law_bent o [.ref 2, .tup its] h = runB (G__law_bent o) c__law_bent [.ref 2, .tup its] h := opn_eq rfl rfl
    rw [e0, runB_eq]
    obtain ⟨w, h1', e1, d1, w0, w1⟩ := F__law_draw_ok o d (n := 7) (by decide) (by decide)
    obtain ⟨a, h2, e2, d2, a0, a1⟩ := F__law_draw_ok o d1 (n := 6) (by decide) (by decide)
    obtain ⟨z, h3, e3, d3, z0, z1⟩ := F__law_draw_ok o d2 (n := 18) (by decide) (by decide)
    have hp : 0 < its.length := h1
    obtain ⟨v, hv, ev⟩ := ix_in (h := h3) (xs := bends) z0 (by simpa [bends] using z1)
    have iv := bends_itm v hv
    have ev' := ev
    unfold bends at ev'
    have L1 : ∀ i j, (cut its i j).length + 1 ≤ 16777216 := fun i j => by have := cut_le (its := its) (i := i) (j := j); omega
    have L2 : ∀ i j k l, (cut its i j).length + 1 + (cut its k l).length ≤ 16777216 := fun i j k l => by have := cut_le (its := its) (i := i) (j := j); have := cut_le (its := its) (i := k) (j := l); omega
    have L3 : ∀ i j k l, (cut its i j).length + (cut its k l).length ≤ 16777216 := fun i j k l => by have := cut_le (its := its) (i := i) (j := j); have := cut_le (its := its) (i := k) (j := l); omega
    have L4 : ∀ i j k l m n, (cut its i j).length + (cut its k l).length + (cut its m n).length ≤ 16777216 := fun i j k l m n => by have := cut_le (its := its) (i := i) (j := j); have := cut_le (its := its) (i := k) (j := l); have := cut_le (its := its) (i := m) (j := n); omega
    have L5 : ∀ i j k l m n p q, (cut its i j).length + ((cut its k l).length + (cut its m n).length) + (cut its p q).length ≤ 16777216 := fun i j k l m n p q => by have := cut_le (its := its) (i := i) (j := j); have := cut_le (its := its) (i := k) (j := l); have := cut_le (its := its) (i := m) (j := n); have := cut_le (its := its) (i := p) (j := q); omega
    simp [c__law_bent, stP_tup, e1, e2, hp, e3, ev', L1, L2, L3, L4, L5]
    have few : ∀ u ∈ [PV.tup (cut its 0 (sE its.length (a % ↑its.length)) ++ v :: cut its (sE its.length (a % ↑its.length + 1)) its.length), .tup (cut its 0 (sE its.length (a % ↑its.length)) ++ cut its (sE its.length (a % ↑its.length + 1)) its.length),
        .tup (cut its 0 (sE its.length (a % ↑its.length)) ++ v :: cut its (sE its.length (a % ↑its.length)) its.length), .lst its, .tup its.reverse, v,
        .tup (cut its 0 (sE its.length 1) ++ (cut its (sE its.length 2) (sE its.length 3) ++ (cut its (sE its.length 1) (sE its.length 2) ++ cut its (sE its.length 3) its.length)))], Rw0 u := by
      have cl : ∀ i j, (cut its i j).length ≤ 6 := fun i j => Nat.le_trans cut_le h6
      have cv : ∀ i j, ∀ x ∈ v :: cut its i j, Itm x := fun i j x hx => by
        rcases List.mem_cons.mp hx with rfl | hx
        · exact iv
        · exact cut_mem hi x hx
      simp only [List.forall_mem_cons]
      refine ⟨.tup (app_itm (cut_mem hi) (cv _ _)) ?_, .tup (app_itm (cut_mem hi) (cut_mem hi)) ?_, .tup (app_itm (cut_mem hi) (cv _ _)) ?_, .lst hi (by omega), .tup (fun x hx => hi x (List.mem_reverse.mp hx)) (by simp; omega), .itm iv,
        .tup (app_itm (cut_mem hi) (app_itm (cut_mem hi) (app_itm (cut_mem hi) (cut_mem hi)))) ?_, fun _ h => by simp at h⟩
      · simp only [List.length_append, List.length_cons]
        have := cl 0 (sE its.length (a % ↑its.length))
        have := cl (sE its.length (a % ↑its.length + 1)) its.length
        omega
      · simp only [List.length_append]
        have := cl 0 (sE its.length (a % ↑its.length))
        have := cl (sE its.length (a % ↑its.length + 1)) its.length
        omega
      · simp only [List.length_append, List.length_cons]
        have := cl 0 (sE its.length (a % ↑its.length))
        have := cl (sE its.length (a % ↑its.length)) its.length
        omega
      · simp only [List.length_append]
        have := cl 0 (sE its.length 1)
        have := cl (sE its.length 2) (sE its.length 3)
        have := cl (sE its.length 1) (sE its.length 2)
        have := cl (sE its.length 3) its.length
        omega
    generalize hL : [PV.tup (cut its 0 (sE its.length (a % ↑its.length)) ++ v :: cut its (sE its.length (a % ↑its.length + 1)) its.length), .tup (cut its 0 (sE its.length (a % ↑its.length)) ++ cut its (sE its.length (a % ↑its.length + 1)) its.length),
        .tup (cut its 0 (sE its.length (a % ↑its.length)) ++ v :: cut its (sE its.length (a % ↑its.length)) its.length), .lst its, .tup its.reverse, v,
        .tup (cut its 0 (sE its.length 1) ++ (cut its (sE its.length 2) (sE its.length 3) ++ (cut its (sE its.length 1) (sE its.length 2) ++ cut its (sE its.length 3) its.length)))] = L at few ⊢
    obtain ⟨u, hu, eu⟩ := ix_in (h := h3) (xs := L) w0 (by rw [← hL]; simpa using w1)
    rw [eu]
    simp
    exact ⟨d3, few u hu⟩
  obtain ⟨v, h', e, d', g⟩ := main.ex
  exact ⟨v, h', e, d', g⟩
end Ev
end
section
set_option maxRecDepth 10000
/-! PfS: what is told of a deed; lengths of lines. -/
namespace Ev
abbrev stepW : Tx := x_115_116_101_112_32
abbrev lineW : Tx := x_108_105_110_101_32
theorem saidEnd_eq {G : Ctx} {f : Sd} {v : PV} {h : PH} : saidEnd G f v h = (evSs G f.rest (none :: some v :: List.replicate (f.nl - 2) none) h).toR := by
  unfold saidEnd RS.toR; rfl
theorem ev_isxS {G : Ctx} {ρ : Env} {h : PH} {i : Nat} {c : Nat} {u : PV} {cs : List Nat} (e : ρ[i]? = some (some (.exc c u))) (hc : G.exs.contains c = true) : evE G (.isx (.var i) cs) ρ h = .ok (.bl (cs.contains c)) h := ev_isx (u := u) (by simp [look, e]) hc
theorem ev_xfldS {G : Ctx} {ρ : Env} {h : PH} {i : Nat} {c : Nat} {u : PV} {f : Tx} (e : ρ[i]? = some (some (.exc c u))) (hc : (G.exs.contains c && decide (exFld c = f)) = true) : evE G (.xfld (.var i) f) ρ h = .ok u h := ev_xfld (c := c) (u := u) (by simp [look, e]) hc
section
variable {o : Ops} {d : PH → R PV} {h h1 : PH}
theorem said_ok {v : PV} (hd : d h = .ok v h1) : F__law_said o d h = .ok (.str []) h1 := by
  unfold F__law_said saidF
  rw [hd]
  show saidEnd _ _ _ _ = _
  rw [saidEnd_eq]
  simp [c__law_said]
theorem said_10 {i : Int} (hd : d h = .exc 10 (.int i) h1) (hs : small i = true) (hl : (intL i).length ≤ 1000) : F__law_said o d h = .ok (.str (stepW ++ intL i)) h1 := by
  unfold F__law_said saidF
  rw [hd]
  show (if [10, 14].contains 10 = true then saidEnd _ _ _ _ else _) = _
  rw [if_pos (by decide), saidEnd_eq]
  have e1 : evE (G__law_said o) (.isx (.var 1) [10]) [none, some (.exc 10 (.int i)), none] h1 = .ok (.bl true) h1 := ev_isxS (c := 10) rfl rfl
  have e2 : evE (G__law_said o) (.xfld (.var 1) x_index) [none, some (.exc 10 (.int i)), none] h1 = .ok (.int i) h1 := ev_xfldS (c := 10) rfl rfl
  have hw : stepW.length + (intL i).length ≤ 16777216 := by have : stepW.length = 5 := rfl; omega
  simp [c__law_said, e1, e2, hs, hw]
theorem said_14 {i : Int} (hd : d h = .exc 14 (.int i) h1) (hs : small i = true) (hl : (intL i).length ≤ 1000) : F__law_said o d h = .ok (.str (lineW ++ intL i)) h1 := by
  unfold F__law_said saidF
  rw [hd]
  show (if [10, 14].contains 14 = true then saidEnd _ _ _ _ else _) = _
  rw [if_pos (by decide), saidEnd_eq]
  have e1 : evE (G__law_said o) (.isx (.var 1) [10]) [none, some (.exc 14 (.int i)), none] h1 = .ok (.bl false) h1 := ev_isxS (c := 14) rfl rfl
  have e3 : evE (G__law_said o) (.isx (.var 1) [14]) [none, some (.exc 14 (.int i)), none] h1 = .ok (.bl true) h1 := ev_isxS (c := 14) rfl rfl
  have e2 : evE (G__law_said o) (.xfld (.var 1) x_line) [none, some (.exc 14 (.int i)), none] h1 = .ok (.int i) h1 := ev_xfldS (c := 14) rfl rfl
  have hw : lineW.length + (intL i).length ≤ 16777216 := by have : lineW.length = 5 := rfl; omega
  simp [c__law_said, e1, e2, e3, hs, hw]
end
theorem len_nm {x : Tx} (h : isNm x = true) : x.length ≤ 10 := by
  unfold isNm at h
  simp only [Bool.and_eq_true, decide_eq_true_eq] at h
  omega
theorem len_end {x : Tx} (h : isEnd x = true) : x.length ≤ 10 := by
  unfold isEnd at h
  rcases Bool.or_eq_true_iff.mp h with h | h
  · exact len_nm h
  · unfold isPt at h
    split at h
    · simp
    · cases h
theorem len_mode {x : Tx} (h : isMode x = true) : x.length ≤ 10 := by
  unfold isMode at h
  rcases Bool.or_eq_true_iff.mp h with h | h
  · rw [eq_of_beq h]; decide
  · rw [eq_of_beq h]; decide
theorem fit_len {k : Tx} {v : It0} (h : fitB k v = true) (hk : ItK k v) (hw : wrt v) : (txt v).length ≤ 10 := by
  have m1 : ¬ x_end = x_node := by decide
  have m2 : ¬ x_mode = x_node := by decide
  have m3 : ¬ x_mode = x_end := by decide
  cases v with
  | s x =>
    obtain ⟨_, rfl | rfl | rfl⟩ := hk
    · exact len_nm (x := x) (by simpa [fitB] using h)
    · exact len_end (x := x) (by simpa [fitB, m1] using h)
    · exact len_mode (x := x) (by simpa [fitB, m2, m3] using h)
  | i j =>
    have hj : 0 ≤ j ∧ j ≤ 1 := hw
    have q : j = 0 ∨ j = 1 := by omega
    rcases q with rfl | rfl <;> decide
  | n => exact hw.elim
theorem fits_len : ∀ {ks : List Tx} {its : List It0}, ItsK ks its → (List.zipWith fitB ks its).all id = true → (∀ v ∈ its, wrt v) → ∀ v ∈ its, (txt v).length ≤ 10
  | [], [], _, _, _ => by simp
  | [], _ :: _, h, _, _ => h.elim
  | _ :: _, [], h, _, _ => h.elim
  | k :: ks, v :: its, h, hf, hw => by
    rw [List.zipWith_cons_cons, List.all_cons, Bool.and_eq_true] at hf
    intro u hu
    rcases List.mem_cons.mp hu with rfl | hu
    · exact fit_len hf.1 h.1 (hw _ List.mem_cons_self)
    · exact fits_len h.2 hf.2 (fun u hu => hw u (List.mem_cons_of_mem _ hu)) u hu
theorem wr_len {s : St0} (g : Wr s) : (lineT s).length ≤ 66 := by
  have hw := g.wf
  unfold wfB at hw
  cases hk : kinds s.1 with
  | none => rw [hk] at hw; cases hw
  | some ks =>
    rw [hk] at hw
    simp only [Bool.and_eq_true, beq_iff_eq] at hw
    have a := fits_len (g.k ks hk) hw.2.1 g.wr
    have q := tlen_few (n := 10) (S := [32]) (ts := s.1 :: s.2.map txt) (fun t ht => by
      rcases List.mem_cons.mp ht with rfl | ht
      · exact kinds_short hk
      · obtain ⟨v, hv, rfl⟩ := List.mem_map.mp ht
        exact a v hv)
    have := joinL_len [32] (s.1 :: s.2.map txt)
    have h6 : (s.1 :: s.2.map txt).length ≤ 6 := by have := g.len; simp; omega
    have e2 : (10 + ([32] : Tx).length) = 11 := rfl
    rw [e2] at q
    have : (s.1 :: s.2.map txt).length * 11 ≤ 6 * 11 := Nat.mul_le_mul_right _ h6
    show (joinL [32] (s.1 :: s.2.map txt)).length ≤ 66
    omega
theorem wrs_tlen {ss : List St0} (h : ∀ s ∈ ss, Wr s) : tlen (ss.map lineT) [10] ≤ ss.length * 67 := by
  have q := tlen_few (n := 66) (S := [10]) (ts := ss.map lineT) (fun t ht => by
    obtain ⟨s, hs, rfl⟩ := List.mem_map.mp ht
    exact wr_len (h s hs))
  simpa using q
end Ev
end
section
set_option maxRecDepth 10000
/-! PfT: errors right: its statements. -/
namespace Ev
def nthS : CSs → Nat → CS
  | .cons s _, 0 => s
  | .cons _ r, n + 1 => nthS r n
  | .nil, _ => .pass
@[simp] theorem evS_say {G : Ctx} {s : CS} {ρ : Env} {h : PH} : evS G (.say s) ρ h = evS G s ρ h := by rw [evS]
section
variable {o : Ops} {rows : List PV} {h h1 : PH}
abbrev EB : CSs := c__law_errors_right.body
theorem er_s0 {a : Int} (e1 : F__law_draw o [.ref 2, .int ((rows.length : Int) + 1)] h = .ok (.int a) h1) : evS (G__law_errors_right o) (nthS EB 0) [some (.ref 2), some (.tup rows), none, none, none, none, none, none, none, none, none] h = .nx [some (.ref 2), some (.tup rows), some (.int a), none, none, none, none, none, none, none, none] h1 := by
  simp [nthS, EB, c__law_errors_right, e1]
theorem er_s1 {a : Int} (hr : ∀ r ∈ rows, StR r) (h0 : 0 ≤ a) (ha : a ≤ rows.length) : ∃ b, StR b ∧ evS (G__law_errors_right o) (nthS EB 1) [some (.ref 2), some (.tup rows), some (.int a), none, none, none, none, none, none, none, none] h1 = .nx [some (.ref 2), some (.tup rows), some (.int a), some b, none, none, none, none, none, none, none] h1 := by
  by_cases hl : a < (rows.length : Int)
  · have hj : a.toNat < rows.length := by omega
    refine ⟨rows[a.toNat], hr _ (List.getElem_mem _), ?_⟩
    have e := ix_tup (h := h1) (x := rows) (i := a) (n := a.toNat) (v := rows[a.toNat]) (by omega) (by simp [hj])
    simp [nthS, EB, c__law_errors_right, hl, e]
  · refine ⟨.tup [.str x_drop, .str [97]], st_1 (by decide) (by decide) (by decide), ?_⟩
    simp [nthS, EB, c__law_errors_right, hl]
theorem er_s2 {a : Int} {b : PV} (hb : StR b) (hl : rows.length ≤ 100) (d : Drw [] h1) : ∃ v h2, Rw0 v ∧ Drw [] h2 ∧ evS (G__law_errors_right o) (nthS EB 2) [some (.ref 2), some (.tup rows), some (.int a), some b, none, none, none, none, none, none, none] h1 =
    .nx [some (.ref 2), some (.tup rows), some (.int a), some b, some (.tup (cut rows 0 (sE rows.length a) ++ v :: cut rows (sE rows.length a) rows.length)), none, none, none, none, none, none] h2 := by
  obtain ⟨its, rfl, hi, h1', h6⟩ := hb.ex
  obtain ⟨v, h2, e, d2, rv⟩ := F__law_bent_ok o d hi h1' h6
  have L1 : ∀ i j, (cut rows i j).length + 1 ≤ 16777216 := fun i j => by have := cut_le (its := rows) (i := i) (j := j); omega
  have L2 : ∀ i j k l, (cut rows i j).length + 1 + (cut rows k l).length ≤ 16777216 := fun i j k l => by have := cut_le (its := rows) (i := i) (j := j); have := cut_le (its := rows) (i := k) (j := l); omega
  refine ⟨v, h2, rv, d2, ?_⟩
  simp [nthS, EB, c__law_errors_right, e, L1, L2]
/-- the places of the rows that are not well-formed -/
def wrongs : List PV → Nat → List Int
  | [], _ => []
  | r :: rs, n => if wfP r then wrongs rs (n + 1) else (n : Int) :: wrongs rs (n + 1)
theorem wrongs_bad : ∀ (bad : List PV) (n : Nat), (wrongs bad n).head? = (badAt bad n).map fun k => (k : Int)
  | [], n => rfl
  | r :: rs, n => by
    unfold wrongs badAt
    split
    · exact wrongs_bad rs (n + 1)
    · rfl
theorem lc_wrong {ck : PH → Bool} {tn : PV → PH → R (Option PV)} {h : PH} (hc : ck h = true) : ∀ {bad : List PV} {n : Nat} {acc : List PV}, (∀ r ∈ bad, ∀ n : Int, tn (.tup [.int n, r]) h = .ok (if wfP r then none else some (.int n)) h) → acc.length + bad.length ≤ 16777216 →
    lcLoop ck tn (enmT (n : Int) bad) acc h = .ok (acc ++ (wrongs bad n).map PV.int) h
  | [], n, acc, _, _ => by simp [enmT, lcLoop, hc, wrongs]
  | r :: rs, n, acc, ht, hl => by
    have t := ht r List.mem_cons_self n
    have e : ((n : Int) + 1) = ((n + 1 : Nat) : Int) := by push_cast; rfl
    simp only [List.length_cons] at hl
    have hacc : acc.length < 16777216 := by omega
    simp only [enmT, lcLoop, hc, if_true]
    rw [t]
    unfold wrongs
    cases hw : wfP r with
    | true =>
      simp only [if_true, R.bind]
      rw [e, lc_wrong hc (fun r' hr' => ht r' (List.mem_cons_of_mem _ hr')) (by omega)]
    | false =>
      simp only [Bool.false_eq_true, if_false, R.bind]
      rw [if_pos hacc, e, lc_wrong hc (fun r' hr' => ht r' (List.mem_cons_of_mem _ hr')) (by simp; omega)]
      simp
theorem er_s3 {a : Int} {b : PV} {bad : List PV} (hb : ∀ r ∈ bad, Rw0 r) (hl : bad.length ≤ 1000) : evS (G__law_errors_right o) (nthS EB 3) [some (.ref 2), some (.tup rows), some (.int a), some b, some (.tup bad), none, none, none, none, none, none] h1 =
    .nx [some (.ref 2), some (.tup rows), some (.int a), some b, some (.tup bad), some (.lst ((wrongs bad 0).map PV.int)), none, none, none, none, none] h1 := by
  have e0 : nthS EB 3 = .asg (.nm 5) (.lc false [6, 7] (.tp [(.nm 6), (.nm 7)]) (.enm (.var 4) 0) (.not (.call 2 (.cons (.var 7) .nil))) (.var 6)) := rfl
  rw [e0]
  have ei : evI (G__law_errors_right o) (.enm (.var 4) 0) [some (.ref 2), some (.tup rows), some (.int a), some b, some (.tup bad), none, none, none, none, none, none] h1 = .ok ⟨enmT 0 bad, [], []⟩ h1 := by simp
  have el : evE (G__law_errors_right o) (.lc false [6, 7] (.tp [(.nm 6), (.nm 7)]) (.enm (.var 4) 0) (.not (.call 2 (.cons (.var 7) .nil))) (.var 6)) [some (.ref 2), some (.tup rows), some (.int a), some b, some (.tup bad), none, none, none, none, none, none] h1 = .ok (.lst ((wrongs bad 0).map PV.int)) h1 := by
    rw [lc_eq, ei]
    simp only [R.bind_ok, lockH_nil, unlockH]
    have q := lc_wrong (ck := held h1 []) (h := h1) (tn := lcTurn (G__law_errors_right o) (.tp [(.nm 6), (.nm 7)]) [some (.ref 2), some (.tup rows), some (.int a), some b, some (.tup bad), none, none, none, none, none, none] [6, 7] (.not (.call 2 (.cons (.var 7) .nil))) (.var 6)) rfl (bad := bad) (n := 0) (acc := []) (fun r hr n => by
      rw [turn_tp2 (by simp [wipe]) (by simp [wipe])]
      simp [wipe, lwf_any o (hb r hr)]
      cases wfP r <;> simp) (by simp; omega)
    rw [show ((0 : Nat) : Int) = 0 from rfl] at q
    rw [q]
    simp
  rw [evS_asg, el]
  simp
end
end Ev
end
section
set_option maxRecDepth 10000
/-! PfU: errors right: told. -/
namespace Ev
def dueT (bad : List PV) : Tx := match badAt bad 0 with
  | none => []
  | some k => stepW ++ intL (k : Int)
theorem badAt_lt : ∀ {bad : List PV} {n k : Nat}, badAt bad n = some k → k < n + bad.length
  | [], _, _, h => by cases h
  | r :: rs, n, k, h => by
    unfold badAt at h
    split at h
    · have := badAt_lt h; simp; omega
    · cases h; simp
theorem badAt_none : ∀ {bad : List PV} {n : Nat}, badAt bad n = none → ∀ r ∈ bad, wfP r = true
  | [], _, _ => by simp
  | r :: rs, n, h => by
    unfold badAt at h
    split at h
    · rename_i hw
      intro r' hr
      rcases List.mem_cons.mp hr with rfl | hr
      · exact hw
      · exact badAt_none h r' hr
    · cases h
theorem intL_short {k : Nat} (h : k < 200) : small (k : Int) = true ∧ (intL (k : Int)).length ≤ 1000 := by
  have all : ((List.range 200).all fun k => small (k : Int) && decide ((intL (k : Int)).length ≤ 1000)) = true := by decide +kernel
  have q := List.all_eq_true.mp all k (List.mem_range.mpr h)
  simp only [Bool.and_eq_true, decide_eq_true_eq] at q
  exact q
theorem ev_said {G : Ctx} {f : Nat} {x : Tx} {e : CE} {ρ : Env} {h : PH} {g : (PH → R PV) → PH → R PV} (h0 : h[0]? = some (.tbl x)) (hg : G.saids[f]? = some g) : evE G (.said f x e) ρ h = g (fun h1 => evE G e ρ h1) h := by
  rw [evE, h0]
  simp [hg]
section
variable {o : Ops} {h : PH} {bad : List PV}
/-- what is told of the text of rows -/
theorem said_rows {d : PH → R PV} {v : PV} (hd : d h = F_steps_text o [v] h) (hv : Sq v bad) (hb : ∀ r ∈ bad, Rw0 r) (hl : bad.length ≤ 100) : F__law_said o d h = .ok (.str (dueT bad)) h := by
  unfold dueT
  cases e : badAt bad 0 with
  | none =>
    obtain ⟨ss, es, g⟩ := rows_back hb (badAt_none e)
    subst es
    have hl' : ss.length ≤ 100 := by simpa using hl
    have ht := wrs_tlen g
    rw [steps_good o v ss h hv g (by omega) (by omega)] at hd
    exact said_ok hd
  | some k =>
    rw [steps_bad o v bad k h hv hb e] at hd
    have hk := badAt_lt e
    obtain ⟨s1, s2⟩ := intL_short (k := k) (by omega)
    exact said_10 hd s1 s2
theorem said_thg {d : PH → R PV} {v : PV} (hd : d h = F_steps_text o [v] h) (hv : Thg v) : F__law_said o d h = .ok (.str x_115_116_101_112_32_48) h := by
  rw [steps_no o hv h] at hd
  have := said_10 (o := o) hd (by decide) (by decide)
  exact this
theorem said_ntx {d : PH → R PV} {v : PV} (hd : d h = F_read_steps o [v] h) (hv : Ntx v) : F__law_said o d h = .ok (.str x_108_105_110_101_32_48) h := by
  rw [read_no o hv h] at hd
  have := said_14 (o := o) hd (by decide) (by decide)
  exact this
end
section
variable {o : Ops} {rows bad : List PV} {h1 : PH} {a : Int} {b : PV}
theorem ne_ints0 {xs : List Int} {h : PH} : cmpop .ne (.lst (xs.map PV.int)) (.lst []) h = some (!xs.isEmpty) := by
  cases xs with
  | nil => simp [cmpop, see, eqOk, PV.plain, PV.plainL, PV.depth, PV.depthL, PV.eqv, PV.eqvL]
  | cons g gs => simp [cmpop, see, eqOk, PV.plain, PV.plainL, PV.depth, PV.depthL, PV.eqv, PV.eqvL, plainL_int, depthL_int]
theorem er_s4 (hl : bad.length ≤ 100) : evS (G__law_errors_right o) (nthS EB 4) [some (.ref 2), some (.tup rows), some (.int a), some b, some (.tup bad), some (.lst ((wrongs bad 0).map PV.int)), none, none, none, none, none] h1 =
    .nx [some (.ref 2), some (.tup rows), some (.int a), some b, some (.tup bad), some (.lst ((wrongs bad 0).map PV.int)), none, none, some (.str (dueT bad)), none, none] h1 := by
  have hw := wrongs_bad bad 0
  unfold dueT
  cases e : badAt bad 0 with
  | none =>
    rw [e] at hw
    have hn : wrongs bad 0 = [] := List.head?_eq_none_iff.mp hw
    rw [hn]
    have q := ne_ints0 (xs := []) (h := h1)
    simp only [List.map_nil, List.isEmpty_nil, Bool.not_true] at q
    simp [nthS, EB, c__law_errors_right, q]
  | some k =>
    rw [e] at hw
    obtain ⟨r, hr⟩ : ∃ r, wrongs bad 0 = (k : Int) :: r := by
      cases hh : wrongs bad 0 with
      | nil => rw [hh] at hw; cases hw
      | cons x r =>
        rw [hh] at hw
        have hx : x = (k : Int) := by simpa using hw
        exact ⟨r, by rw [hx]⟩
    have hk := badAt_lt e
    obtain ⟨s1, s2⟩ := intL_short (k := k) (by omega)
    have q := ne_ints0 (xs := (k : Int) :: r) (h := h1)
    rw [hr]
    simp only [List.map_cons, List.isEmpty_cons, Bool.not_false] at q ⊢
    have hx : ixop (.lst (.int (k : Int) :: r.map PV.int)) (.int 0) h1 = .ok (.int (k : Int)) h1 := ix_lst (n := 0) rfl rfl
    have hw5 : stepW.length + (intL (k : Int)).length ≤ 16777216 := by have : stepW.length = 5 := rfl; omega
    simp [nthS, EB, c__law_errors_right, q, hx, s1, hw5]
end
end Ev
end
section
set_option maxRecDepth 10000
/-! PfV: errors right. -/
namespace Ev
def thgs : List PV := [.non, .int 5, .bl true, .str x_clear, .dct false [], .str [], .int 1000000000000000000000000000000]
theorem thgs_ok : ∀ v ∈ thgs, Thg v := by
  unfold thgs
  simp only [List.forall_mem_cons]
  exact ⟨.non, .int _, .bl _, .str _, .dc0, .str _, .int _, fun _ h => by simp at h⟩
section
variable {o : Ops} {rows bad : List PV} {h1 h2 : PH} {a : Int} {b w u : PV} {gs : List Int} {s k : Int}
theorem er_s5 {r : Int} {v : PV} (e : F__law_draw o [.ref 2, .int 7] h1 = .ok (.int r) h2) (ev : ixop (.lst thgs) (.int r) h2 = .ok v h2) : evS (G__law_errors_right o) (nthS EB 5) [some (.ref 2), some (.tup rows), some (.int a), some b, some (.tup bad), some w, none, none, some u, none, none] h1 =
    .nx [some (.ref 2), some (.tup rows), some (.int a), some b, some (.tup bad), some w, none, none, some u, some v, none] h2 := by
  have s10 : small 10 = true := by decide
  unfold thgs at ev
  simp [nthS, EB, c__law_errors_right, s10, e, ev]
theorem mh0 {rest : PH} : (MH gs s k rest)[0]? = some (.tbl tE) := rfl
theorem mh_app {xs : List PV} {v : PV} (hl : xs.length < 1000) : mthop .append (.ref 3) [v] (MH gs s k [.lst xs]) = .ok .non (MH gs s k [.lst (xs ++ [v])]) := by
  have : xs.length < szLine := by show xs.length < 16777216; omega
  simp [mthop, MH, this, upH]
theorem mh_kind {xs : List PV} : recvOk .append (kind (MH gs s k [.lst xs]) (.ref 3)) = true := rfl
theorem er_s6 {v : PV} {t : Tx} (ht : F__law_said o (fun h1 => evE (G__law_errors_right o) (.call 3 (.cons (.var 4) .nil)) [some (.ref 2), some (.tup rows), some (.int a), some b, some (.tup bad), some w, none, none, some u, some v, none] h1) (MH gs s k []) = .ok (.str t) (MH gs s k [])) :
    evS (G__law_errors_right o) (nthS EB 6) [some (.ref 2), some (.tup rows), some (.int a), some b, some (.tup bad), some w, none, none, some u, some v, none] (MH gs s k []) =
    .nx [some (.ref 2), some (.tup rows), some (.int a), some b, some (.tup bad), some w, none, none, some u, some v, some (.ref 3)] (MH gs s k [.lst [.str t]]) := by
  have e0 : nthS EB 6 = .say (.asg (.nm 10) (.lst true (.cons (.said 0 tE (.call 3 (.cons (.var 4) .nil))) .nil))) := rfl
  rw [e0, evS_say, evS_asg]
  have es := ev_said (G := G__law_errors_right o) (f := 0) (e := .call 3 (.cons (.var 4) .nil)) (ρ := [some (.ref 2), some (.tup rows), some (.int a), some b, some (.tup bad), some w, none, none, some u, some v, none]) (h := MH gs s k []) (mh0 (rest := [])) rfl
  rw [ht] at es
  have el : evE (G__law_errors_right o) (.lst true (.cons (.said 0 tE (.call 3 (.cons (.var 4) .nil))) .nil)) [some (.ref 2), some (.tup rows), some (.int a), some b, some (.tup bad), some w, none, none, some u, some v, none] (MH gs s k []) = .ok (.ref 3) (MH gs s k [.lst [.str t]]) := by
    rw [ev_lst]
    simp [es]
    exact ⟨rfl, rfl⟩
  rw [el]
  simp
theorem er_app {n : Nat} {ce : CE} {ρ : Env} {xs : List PV} {t : Tx} (e0 : nthS EB n = .say (.expr (.mth .append (.var 10) (.cons (.said 0 tE ce) .nil)))) (hρ : ρ[10]? = some (some (.ref 3))) (hl : xs.length < 1000)
    (ht : F__law_said o (fun h1 => evE (G__law_errors_right o) ce ρ h1) (MH gs s k [.lst xs]) = .ok (.str t) (MH gs s k [.lst xs])) :
    evS (G__law_errors_right o) (nthS EB n) ρ (MH gs s k [.lst xs]) = .nx ρ (MH gs s k [.lst (xs ++ [.str t])]) := by
  rw [e0, evS_say]
  have es := ev_said (G := G__law_errors_right o) (f := 0) (e := ce) (ρ := ρ) (h := MH gs s k [.lst xs]) (mh0 (rest := [.lst xs])) rfl
  rw [ht] at es
  have el : evE (G__law_errors_right o) (.mth .append (.var 10) (.cons (.said 0 tE ce) .nil)) ρ (MH gs s k [.lst xs]) = .ok .non (MH gs s k [.lst (xs ++ [.str t])]) := by
    rw [ev_mth]
    have ev : evE (G__law_errors_right o) (.var 10) ρ (MH gs s k [.lst xs]) = .ok (.ref 3) (MH gs s k [.lst xs]) := by rw [evE, hρ]
    rw [ev]
    simp only [R.bind_ok, mh_kind]
    rw [ifc_true rfl]
    simp [es, mh_app hl]
  simp [el]
theorem closedL_st {rows : List PV} {n : Nat} (hr : ∀ r ∈ rows, StR r) : PV.closedL n rows = true := Rw0.cls fun r h => (hr r h).rw
theorem leaveTrim_ok {rest : PH} {v : PV} (hv : v.closed 3 = true) : leave 3 (.ok v (MH gs s k rest)) = .ok v (MH gs s k []) := by
  have e1 : (MH gs s k rest).take 3 = MH gs s k [] := by
    unfold MH
    rfl
  have e2 : (MH gs s k []).all (PO.closed 3) = true := by
    have : ∀ xs : List Int, PV.closedL 3 (xs.map PV.int) = true := by
      intro xs
      induction xs with
      | nil => rfl
      | cons x xs ih => simp [PV.closedL, PV.closed, ih]
    simp [MH, PO.closed, this, PV.closedD, PV.closedP, PV.closed]
  unfold leave
  simp only [e1]
  rw [e2]
  simp [frz, hv]
theorem F__law_errors_right_ok (hr : ∀ r ∈ rows, StR r) (hl : rows.length ≤ 40) (d : Drw [] h1) : ∃ h2, F__law_errors_right o [.ref 2, .tup rows] h1 = .ok (.bl true) h2 ∧ Drw [] h2 := by
  obtain ⟨a, k1, e1, d1, a0, a1⟩ := F__law_draw_ok o d (n := (rows.length : Int) + 1) (by omega) (by omega)
  obtain ⟨b, hb, e2⟩ := er_s1 (o := o) (h1 := k1) hr a0 (by omega)
  obtain ⟨v, k2, rv, d2, e3⟩ := er_s2 (o := o) (rows := rows) (a := a) hb (by omega) d1
  generalize hbad : cut rows 0 (sE rows.length a) ++ v :: cut rows (sE rows.length a) rows.length = bad at e3
  have rb : ∀ r ∈ bad, Rw0 r := fun r h => by
    rw [← hbad] at h
    rcases List.mem_append.mp h with h | h
    · exact (hr r (List.mem_of_mem_drop (List.mem_of_mem_take h))).rw
    · rcases List.mem_cons.mp h with rfl | h
      · exact rv
      · exact (hr r (List.mem_of_mem_drop (List.mem_of_mem_take h))).rw
  have bl : bad.length ≤ 100 := by
    rw [← hbad]
    simp only [List.length_append, List.length_cons]
    have := cut_le (its := rows) (i := 0) (j := sE rows.length a)
    have hc : (cut rows (sE rows.length a) rows.length).length + (sE rows.length a) ≤ rows.length + (sE rows.length a) := by have := cut_le (its := rows) (i := sE rows.length a) (j := rows.length); omega
    omega
  have e4 := er_s3 (o := o) (rows := rows) (h1 := k2) (a := a) (b := b) rb (by omega)
  have e5 := er_s4 (o := o) (rows := rows) (h1 := k2) (a := a) (b := b) bl
  obtain ⟨r, k3, e6, ⟨gs, s, k, rfl⟩, r0, r1⟩ := F__law_draw_ok o d2 (n := 7) (by decide) (by decide)
  obtain ⟨t, ht, et⟩ := ix_in (h := MH gs s k []) (xs := thgs) r0 (by simpa [thgs] using r1)
  have e7 := er_s5 (o := o) (rows := rows) (bad := bad) (a := a) (b := b) (w := .lst ((wrongs bad 0).map PV.int)) (u := .str (dueT bad)) e6 et
  have tt := thgs_ok t ht
  have e8 := er_s6 (o := o) (rows := rows) (bad := bad) (a := a) (b := b) (w := .lst ((wrongs bad 0).map PV.int)) (u := .str (dueT bad)) (v := t) (gs := gs) (s := s) (k := k) (t := dueT bad) (said_rows (v := .tup bad) (by simp) (.inl rfl) rb bl)
  have e9 := er_app (o := o) (gs := gs) (s := s) (k := k) (n := 7) (ce := .call 3 (.cons (.prim (.list false) (.cons (.var 4) .nil)) .nil)) (ρ := [some (.ref 2), some (.tup rows), some (.int a), some b, some (.tup bad), some (.lst ((wrongs bad 0).map PV.int)), none, none, some (.str (dueT bad)), some t, some (.ref 3)]) (xs := [.str (dueT bad)]) (t := dueT bad) rfl rfl (by simp) (said_rows (v := .lst bad) (by simp) (.inr rfl) rb bl)
  have e10 := er_app (o := o) (gs := gs) (s := s) (k := k) (n := 8) (ce := .call 3 (.cons (.var 9) .nil)) (ρ := [some (.ref 2), some (.tup rows), some (.int a), some b, some (.tup bad), some (.lst ((wrongs bad 0).map PV.int)), none, none, some (.str (dueT bad)), some t, some (.ref 3)]) (xs := [.str (dueT bad)] ++ [.str (dueT bad)]) (t := x_115_116_101_112_32_48) rfl rfl (by simp) (said_thg (v := t) (by simp) tt)
  have q0 := Int.emod_nonneg a (by decide : (7 : Int) ≠ 0)
  have q1 := Int.emod_lt_of_pos a (by decide : (0 : Int) < 7)
  obtain ⟨x, hx, ex⟩ := ix_in (h := MH gs s k [.lst ([.str (dueT bad)] ++ [.str (dueT bad)] ++ [.str x_115_116_101_112_32_48])]) (xs := [.non, .int 5, .bl true, .lst [.str x_clear], .tup [.str x_clear], .dct false [], .tup rows]) q0 (by simpa using q1)
  have nx : Ntx x := by
    have all : ∀ x ∈ [PV.non, .int 5, .bl true, .lst [.str x_clear], .tup [.str x_clear], .dct false [], .tup rows], Ntx x := by
      simp only [List.forall_mem_cons]
      exact ⟨.non, .int _, .bl _, .lst rfl, .tup rfl, .dc0, .tup (closedL_st hr), fun _ h => by simp at h⟩
    exact all x hx
  have e11 := er_app (o := o) (gs := gs) (s := s) (k := k) (n := 9) (ce := .call 4 (.cons (.ix (.lst false (.cons (.cst .non) (.cons (.cst (.int 5)) (.cons (.cst (.bl true)) (.cons (.lst false (.cons (.cst (.str x_clear)) .nil)) (.cons (.tup (.cons (.cst (.str x_clear)) .nil)) (.cons (.dct false false .nil) (.cons (.var 1) .nil)))))))) (.bin .mod false (.var 2) (.cst (.int 7)))) .nil)) (ρ := [some (.ref 2), some (.tup rows), some (.int a), some b, some (.tup bad), some (.lst ((wrongs bad 0).map PV.int)), none, none, some (.str (dueT bad)), some t, some (.ref 3)])
    (xs := [.str (dueT bad)] ++ [.str (dueT bad)] ++ [.str x_115_116_101_112_32_48]) (t := x_108_105_110_101_32_48) rfl rfl (by simp) (said_ntx (v := x) (by
      have ex' := ex
      simp at ex'
      simp [ex']) nx)
  have e12 : evS (G__law_errors_right o) (nthS EB 10) [some (.ref 2), some (.tup rows), some (.int a), some b, some (.tup bad), some (.lst ((wrongs bad 0).map PV.int)), none, none, some (.str (dueT bad)), some t, some (.ref 3)] (MH gs s k [.lst ([.str (dueT bad)] ++ [.str (dueT bad)] ++ [.str x_115_116_101_112_32_48] ++ [.str x_108_105_110_101_32_48])]) =
      .ret (.bl true) (MH gs s k [.lst ([.str (dueT bad)] ++ [.str (dueT bad)] ++ [.str x_115_116_101_112_32_48] ++ [.str x_108_105_110_101_32_48])]) := by
    have ec : ∀ h0 : PH, h0[3]? = some (.lst [.str (dueT bad), .str (dueT bad), .str x_115_116_101_112_32_48, .str x_108_105_110_101_32_48]) → cmpop .eq (.ref 3) (.lst [.str (dueT bad), .str (dueT bad), .str x_115_116_101_112_32_48, .str x_108_105_110_101_32_48]) h0 = some true := fun h0 e => by
      simp [cmpop, see, e, PO.see, eqOk, PV.plain, PV.plainL, PV.depth, PV.depthL, PV.eqv, PV.eqvL]
    have := ec (MH gs s k [.lst [.str (dueT bad), .str (dueT bad), .str x_115_116_101_112_32_48, .str x_108_105_110_101_32_48]]) rfl
    simp [nthS, EB, c__law_errors_right, this]
  obtain ⟨gs0, s0, k0, rfl⟩ := d
  refine ⟨MH gs s k [], ?_, gs, s, k, rfl⟩
  have e0 : F__law_errors_right o [.ref 2, .tup rows] (MH gs0 s0 k0 []) = leave 3 (runB (G__law_errors_right o) c__law_errors_right [.ref 2, .tup rows] (MH gs0 s0 k0 [])) := rfl
  rw [e0, runB_eq]
  have eb : c__law_errors_right.body = .cons (nthS EB 0) (.cons (nthS EB 1) (.cons (nthS EB 2) (.cons (nthS EB 3) (.cons (nthS EB 4) (.cons (nthS EB 5) (.cons (nthS EB 6) (.cons (nthS EB 7) (.cons (nthS EB 8) (.cons (nthS EB 9) (.cons (nthS EB 10) .nil)))))))))) := rfl
  have er : (evSs (G__law_errors_right o) c__law_errors_right.body (([.ref 2, .tup rows] : List PV).map some ++ List.replicate (c__law_errors_right.nl - c__law_errors_right.np) none) (MH gs0 s0 k0 [])).toR = .ok (.bl true) (MH gs s k [.lst ([.str (dueT bad)] ++ [.str (dueT bad)] ++ [.str x_115_116_101_112_32_48] ++ [.str x_108_105_110_101_32_48])]) := by
    rw [eb]
    show (evSs (G__law_errors_right o) _ [some (.ref 2), some (.tup rows), none, none, none, none, none, none, none, none, none] (MH gs0 s0 k0 [])).toR = _
    rw [evSs_cons, er_s0 e1, RS.seq_nx, evSs_cons, e2, RS.seq_nx, evSs_cons, e3, RS.seq_nx, evSs_cons, e4, RS.seq_nx, evSs_cons, e5, RS.seq_nx, evSs_cons, e7, RS.seq_nx, evSs_cons, e8, RS.seq_nx, evSs_cons, e9, RS.seq_nx, evSs_cons, e10, RS.seq_nx, evSs_cons, e11, RS.seq_nx, evSs_cons, e12, RS.seq_ret]
    rfl
  rw [er]
  exact leaveTrim_ok rfl
end
end Ev
end
section
set_option maxRecDepth 10000
/-! PfW: what the law writes itself. -/
namespace Ev
def SgT (x : Tx) : Prop := ∀ c ∈ x, c < 1114112
theorem Wd.sg {x : Tx} (h : Wd x) : SgT x := fun c hc => by have := h c hc; omega
theorem shw_str {x : Tx} (h : SgT x) : PV.shw (.str x) = true := by
  unfold PV.shw
  exact List.all_eq_true.mpr fun c hc => decide_eq_true (h c hc)
theorem shwL_it : ∀ (its : List It0), (∀ v ∈ its, wrt v) → (∀ v ∈ its, SgT (txt v)) → PV.shwL (its.map It0.v) = true
  | [], _, _ => rfl
  | v :: its, h, g => by
    simp only [List.map_cons, PV.shwL, Bool.and_eq_true]
    refine ⟨?_, shwL_it its (fun u q => h u (by simp [q])) (fun u q => g u (by simp [q]))⟩
    have h1 := h v (by simp)
    have g1 := g v (by simp)
    cases v with
    | s x => exact shw_str g1
    | i k => exact small01 h1
    | n => exact h1.elim
theorem wtL_it : ∀ (its : List It0), (∀ v ∈ its, wrt v) → (∀ v ∈ its, (txt v).length ≤ 10) → PV.wtL (its.map It0.v) ≤ 110 * its.length
  | [], _, _ => by simp [PV.wtL]
  | v :: its, h, g => by
    have ih := wtL_it its (fun u q => h u (by simp [q])) (fun u q => g u (by simp [q]))
    have h1 := h v (by simp)
    have g1 := g v (by simp)
    rw [List.map_cons, List.length_cons]
    simp only [PV.wtL]
    cases v with
    | s x =>
      have g2 : x.length ≤ 10 := g1
      simp [It0.v, PV.wt]; omega
    | i k => simp [It0.v, PV.wt]; omega
    | n => exact h1.elim
theorem wr_all {s : St0} (g : Wr s) : (∀ l ∈ s.1 :: s.2.map txt, Wd l) ∧ s.1.length ≤ 10 ∧ ∀ v ∈ s.2, (txt v).length ≤ 10 := by
  have hw := g.wf
  unfold wfB at hw
  cases hk : kinds s.1 with
  | none => rw [hk] at hw; cases hw
  | some ks =>
    rw [hk] at hw
    simp only [Bool.and_eq_true, beq_iff_eq] at hw
    obtain ⟨h1, h2, h3⟩ := hw
    obtain ⟨a1, a2⟩ := fits_conv (g.k ks hk) h2 g.wr
    obtain ⟨w1, w2⟩ := kinds_wd hk
    refine ⟨fun l hl => ?_, kinds_short hk, fits_len (g.k ks hk) h2 g.wr⟩
    rcases List.mem_cons.mp hl with rfl | hl
    · exact w1
    · obtain ⟨v, hv, rfl⟩ := List.mem_map.mp hl
      exact a2 v hv
theorem step_show {s : St0} (g : Wr s) : PV.shw (stV s) = true ∧ PV.wt (stV s) ≤ 1000 ∧ PV.depth (stV s) = 1 := by
  obtain ⟨a1, a2, a3⟩ := wr_all g
  refine ⟨?_, ?_, ?_⟩
  · simp only [stV, PV.shw, PV.shwL, Bool.and_eq_true]
    exact ⟨shw_str (a1 _ List.mem_cons_self).sg, shwL_it s.2 g.wr fun v hv => (a1 _ (List.mem_cons_of_mem _ (List.mem_map.mpr ⟨v, hv, rfl⟩))).sg⟩
  · have := wtL_it s.2 g.wr a3
    have h5 := g.len
    simp only [stV, PV.wt, PV.wtL]
    omega
  · simp [stV, PV.depth, PV.depthL, depthL_it]
theorem steps_show : ∀ {ss : List St0}, (∀ s ∈ ss, Wr s) → PV.shwL (ss.map stV) = true ∧ PV.wtL (ss.map stV) ≤ 1002 * ss.length ∧ PV.depthL (ss.map stV) ≤ 1
  | [], _ => ⟨rfl, by simp [PV.wtL], by simp [PV.depthL]⟩
  | s :: ss, h => by
    obtain ⟨a1, a2, a3⟩ := step_show (h s List.mem_cons_self)
    obtain ⟨b1, b2, b3⟩ := steps_show (fun s' hs => h s' (List.mem_cons_of_mem _ hs))
    refine ⟨?_, ?_, ?_⟩
    · simp [PV.shwL, a1, b1]
    · simp only [List.map_cons, PV.wtL, List.length_cons]; omega
    · simp only [List.map_cons, PV.depthL]; omega
@[simp] theorem repr_gate {rep : PV → Tx} {v : PV} {h : PH} : primop rep .repr [v] h = gate ((v.shw && decide (v.depth ≤ 60) && decide (v.wt ≤ szLine)) = true) (.ok (.str (rep v)) h) .stk := rfl
theorem repr_rows {rep : PV → Tx} {ss : List St0} {h : PH} (hs : ∀ s ∈ ss, Wr s) (hl : ss.length ≤ 40) : primop rep .repr [.tup (ss.map stV)] h = .ok (.str (rep (.tup (ss.map stV)))) h := by
  obtain ⟨a1, a2, a3⟩ := steps_show hs
  have q1 : decide ((PV.tup (ss.map stV)).depth ≤ 60) = true := decide_eq_true (by simp only [PV.depth]; omega)
  have q2 : decide ((PV.tup (ss.map stV)).wt ≤ szLine) = true := decide_eq_true (by
    simp only [PV.wt]
    show _ ≤ 16777216
    omega)
  have q3 : (PV.tup (ss.map stV)).shw = true := a1
  rw [repr_gate, gate_i (by rw [q1, q2, q3]; rfl)]
/-- a row's line, as the law writes it -/
theorem row_line (o : Ops) (s : St0) (h : PH) (g : Wr s) {ρ : Env} (hρ : ρ.length = 9) (h8 : ρ[8]? = some (some (stV s))) :
    evE (G_law o) (.mth .join (.cst (.str [32])) (.cons (.lc false [7] (.nm 7) (.val (.var 8)) (.cst (.bl true)) (.prim .str (.cons (.var 7) .nil))) .nil)) ρ h = .ok (.str (lineT s)) h := by
  have ei : evI (G_law o) (.val (.var 8)) ρ h = .ok ⟨.str s.1 :: s.2.map It0.v, [], []⟩ h := by
    have ev : evE (G_law o) (.var 8) ρ h = .ok (stV s) h := by rw [evE, h8]
    rw [evI, ev]
    rfl
  have el : evE (G_law o) (.lc false [7] (.nm 7) (.val (.var 8)) (.cst (.bl true)) (.prim .str (.cons (.var 7) .nil))) ρ h = .ok (.lst ((s.1 :: s.2.map txt).map PV.str)) h := by
    rw [lc_eq, ei]
    simp only [R.bind_ok, lockH_nil, unlockH]
    have hlen := g.len
    rw [lcLoop_map (f := fun v => match v with | .str x => .str x | .int k => .str (intL k) | v => v) _ rfl (by simp; omega)]
    · have e : List.map (fun v => match v with | .str x => .str x | .int k => .str (intL k) | v => v) (PV.str s.1 :: s.2.map It0.v) = (s.1 :: s.2.map txt).map PV.str := by
        simp only [List.map_cons, List.map_map]
        congr 1
        refine List.map_congr_left fun v hv => ?_
        cases v with
        | s x => rfl
        | i k => rfl
        | n => exact (g.wr _ hv).elim
      simp only [List.nil_append, R.bind_ok, newLst_f]
      rw [e]
    · intro x hx
      have hw : 7 < (wipe ρ [7]).length := by simp [wipe, hρ]
      rw [turn_nm hw]
      have hv : ∀ u : PV, look ((wipe ρ [7]).set 7 (some u)) 7 h = .ok u h := fun u => by
        unfold look
        rw [List.getElem?_set_self hw]
      rw [List.mem_cons] at hx
      rcases hx with rfl | hx
      · simp [hv]
      · obtain ⟨v, hv', rfl⟩ := List.mem_map.mp hx
        cases v with
        | s x => simp [hv, It0.v]
        | i k => simp [hv, It0.v, small01 (g.wr _ hv')]
        | n => exact (g.wr _ hv').elim
  rw [ev_mth]
  simp only [ev_cst, R.bind_ok, evL_one, el]
  rw [ifc_true (show recvOk .join (kind h (.str [32])) = true from rfl), join_lst, gate_i g.tl]
  rfl
theorem rows_text (o : Ops) (ss : List St0) (h : PH) (hs : ∀ s ∈ ss, Wr s) (hl : ss.length ≤ 40) {ρ : Env} (hρ : ρ.length = 9) (h3 : ρ[3]? = some (some (.tup (ss.map stV)))) :
    evE (G_law o) (.mth .join (.cst (.str [10])) (.cons (.lc false [8] (.nm 8) (.val (.var 3)) (.cst (.bl true)) (.mth .join (.cst (.str [32])) (.cons (.lc false [7] (.nm 7) (.val (.var 8)) (.cst (.bl true)) (.prim .str (.cons (.var 7) .nil))) .nil))) .nil)) ρ h = .ok (.str (joinL [10] (ss.map lineT))) h := by
  have ei : evI (G_law o) (.val (.var 3)) ρ h = .ok ⟨ss.map stV, [], []⟩ h := by
    have ev : evE (G_law o) (.var 3) ρ h = .ok (.tup (ss.map stV)) h := by rw [evE, h3]
    rw [evI, ev]
    rfl
  have el : evE (G_law o) (.lc false [8] (.nm 8) (.val (.var 3)) (.cst (.bl true)) (.mth .join (.cst (.str [32])) (.cons (.lc false [7] (.nm 7) (.val (.var 8)) (.cst (.bl true)) (.prim .str (.cons (.var 7) .nil))) .nil))) ρ h = .ok (.lst ((ss.map lineT).map PV.str)) h := by
    rw [lc_eq, ei]
    simp only [R.bind_ok, lockH_nil, unlockH]
    rw [lcLoop_map (f := fun v => match v with | .tup (.str w :: r) => .str (lineT (w, r.map unV)) | v => v) _ rfl (by simp; omega)]
    · have eq : List.map (fun v => match v with | .tup (.str w :: r) => .str (lineT (w, r.map unV)) | v => v) (ss.map stV) = (ss.map lineT).map PV.str := by
        simp only [List.map_map]
        refine List.map_congr_left fun s hs' => ?_
        simp [stV, unV_v]
      simp only [List.nil_append, R.bind_ok, newLst_f]
      rw [eq]
    · intro x hx
      obtain ⟨s, hs1, rfl⟩ := List.mem_map.mp hx
      have hw : 8 < (wipe ρ [8]).length := by simp [wipe, hρ]
      rw [turn_nm hw]
      have rl := row_line o s h (hs s hs1) (ρ := (wipe ρ [8]).set 8 (some (stV s))) (by simp [wipe, hρ]) (List.getElem?_set_self hw)
      generalize CE.mth Pr.join (CE.cst (PV.str [32])) (CEs.cons (CE.lc false [7] (Tg.nm 7) (CI.val (CE.var 8)) (CE.cst (PV.bl true)) (CE.prim Pr.str (CEs.cons (CE.var 7) CEs.nil))) CEs.nil) = ce at rl ⊢
      simp [rl]
      simp [stV, unV_v]
  have ht := wrs_tlen hs
  rw [ev_mth]
  simp only [ev_cst, R.bind_ok, evL_one, el]
  rw [ifc_true (show recvOk .join (kind h (.str [10])) = true from rfl), join_lst, gate_i (by omega)]
end Ev
end
section
set_option maxRecDepth 10000
/-! PfX: the law. -/
namespace Ev
def forB : CS → CSs
  | .for_ _ _ b => b
  | _ => .nil
abbrev LB : CSs := forB (nthS c_law.body 1)
section
variable {o : Ops} {S : PV} {h h1 : PH} {a b c d e f g : Option PV} {ss : List St0}
theorem lw_s0 (dd : Drw [] h) : ∃ vs h1 n, (∀ v ∈ vs, StR v) ∧ vs.length ≤ 9 ∧ Drw [] h1 ∧ evS (G_law o) (nthS LB 0) [some S, some (.ref 2), a, b, c, d, e, f, g] h = .nx [some S, some (.ref 2), a, some (.tup vs), c, d, e, f, g] n ∧ n = h1 := by
  obtain ⟨n, h1, e1, d1, n0, n1⟩ := F__law_draw_ok o dd (n := 9) (by decide) (by decide)
  obtain ⟨vs, h2, e2, d2, p2, l2⟩ := lc_draws (rest := []) (P := StR) (ck := held h1 []) (tn := lcTurn (G_law o) (.nm 4) [some S, some (.ref 2), a, b, c, d, e, f, g] [4] (.cst (.bl true)) (.call 2 (.cons (.var 1) .nil))) (xs := rngL 0 n.toNat) (acc := []) (h := h1) (fun _ => rfl) (fun x hx h d => by
    obtain ⟨v, h', e, d', st⟩ := F__law_step_ok o d
    refine ⟨v, h', ?_, d', st⟩
    rw [turn_nm (by simp [wipe])]
    simp [wipe, e]) d1 (by rw [rngL_len]; simp; omega)
  have hn : n.natAbs < 4611686018427387904 := by omega
  refine ⟨vs, h2, h2, p2, by rw [l2, rngL_len]; omega, d2, ?_, rfl⟩
  simp [LB, nthS, forB, c_law, e1, lc_eq, hn, e2]
theorem lw_s1 (hs : ∀ s ∈ ss, Wr s) (hl : ss.length ≤ 40) : evS (G_law o) (nthS LB 1) [some S, some (.ref 2), a, some (.tup (ss.map stV)), c, d, e, f, g] h = .nx [some S, some (.ref 2), a, some (.tup (ss.map stV)), c, some (.str (o.rep (.tup (ss.map stV)))), some (.str (joinL [10] (ss.map lineT))), f, g] h := by
  have e1 := repr_rows (rep := o.rep) (h := h) hs hl
  have e2 := rows_text o ss h hs hl (ρ := [some S, some (.ref 2), a, some (.tup (ss.map stV)), c, d, e, f, g]) rfl rfl
  have e0 : nthS LB 1 = .asg (.tp [(.nm 5), (.nm 6)]) (.tup (.cons (.prim .repr (.cons (.var 3) .nil)) (.cons (.mth .join (.cst (.str [10])) (.cons (.lc false [8] (.nm 8) (.val (.var 3)) (.cst (.bl true)) (.mth .join (.cst (.str [32])) (.cons (.lc false [7] (.nm 7) (.val (.var 8)) (.cst (.bl true)) (.prim .str (.cons (.var 7) .nil))) .nil))) .nil)) .nil))) := rfl
  rw [e0]
  generalize CE.mth Pr.join (CE.cst (PV.str [10])) (.cons (.lc false [8] (.nm 8) (.val (.var 3)) (.cst (.bl true)) (.mth .join (.cst (.str [32])) (.cons (.lc false [7] (.nm 7) (.val (.var 8)) (.cst (.bl true)) (.prim .str (.cons (.var 7) .nil))) .nil))) .nil) = ce at e2 ⊢
  have e3 : evE (G_law o) (.prim .repr (.cons (.var 3) .nil)) [some S, some (.ref 2), a, some (.tup (ss.map stV)), c, d, e, f, g] h = .ok (.str (o.rep (.tup (ss.map stV)))) h := by
    rw [ev_prim, evL_one]
    have ev : evE (G_law o) (.var 3) [some S, some (.ref 2), a, some (.tup (ss.map stV)), c, d, e, f, g] h = .ok (.tup (ss.map stV)) h := by rw [evE]; rfl
    rw [ev]
    exact e1
  generalize CE.prim Pr.repr (.cons (.var 3) .nil) = c2 at e3 ⊢
  simp [stP_tup, e2, e3]
theorem mul3 {v : PV} : binop .mul false (.lst [v]) (.int 3) h = .ok (.lst [v, v, v]) h := rfl
theorem mul2 {v : PV} : binop .mul false (.lst [v]) (.int 2) h = .ok (.lst [v, v]) h := rfl
theorem ne3 {x : Tx} : cmpop .ne (.lst [.str x, .str x, .str x]) (.lst [.str x, .str x, .str x]) h = some false := by
  simp [cmpop, see, eqOk, PV.plain, PV.plainL, PV.depth, PV.depthL, PV.eqv, PV.eqvL]
theorem ne2 {x : Tx} : cmpop .ne (.lst [.str x, .str x]) (.lst [.str x, .str x]) h = some false := by
  simp [cmpop, see, eqOk, PV.plain, PV.plainL, PV.depth, PV.depthL, PV.eqv, PV.eqvL]
theorem lw_s2 {x : Tx} (hs : ∀ s ∈ ss, Wr s) (hl : ss.length ≤ 40) : evS (G_law o) (nthS LB 2) [some S, some (.ref 2), a, some (.tup (ss.map stV)), c, d, some (.str (joinL [10] (ss.map lineT))), f, g] h = .nx [some S, some (.ref 2), a, some (.tup (ss.map stV)), c, d, some (.str (joinL [10] (ss.map lineT))), f, g] h := by
  have ht := wrs_tlen hs
  have e1 : ∀ h : PH, F_steps_text o [.tup (ss.map stV)] h = .ok (.str (joinL [10] (ss.map lineT))) h := fun h => steps_good o _ ss h (.inl rfl) hs (by omega) (by omega)
  have e2 : ∀ h : PH, F_steps_text o [.lst (ss.map stV)] h = .ok (.str (joinL [10] (ss.map lineT))) h := fun h => steps_good o _ ss h (.inr rfl) hs (by omega) (by omega)
  simp [LB, nthS, forB, c_law, e1, e2, mul3, ne3]
theorem lw_s3 (hs : ∀ s ∈ ss, Wr s) (hl : ss.length ≤ 40) : evS (G_law o) (nthS LB 3) [some S, some (.ref 2), a, some (.tup (ss.map stV)), c, some (.str (o.rep (.tup (ss.map stV)))), some (.str (joinL [10] (ss.map lineT))), f, g] h = .nx [some S, some (.ref 2), a, some (.tup (ss.map stV)), c, some (.str (o.rep (.tup (ss.map stV)))), some (.str (joinL [10] (ss.map lineT))), f, g] h := by
  have ht := wrs_tlen hs
  have hj := joinL_len [10] (ss.map lineT)
  have e1 : ∀ h : PH, F_read_steps o [.str (joinL [10] (ss.map lineT))] h = .ok (.tup (ss.map stV)) h := fun h => read_back o ss h hs (by omega)
  have e3 : primop (G_law o).rep .repr [.tup (ss.map stV)] h = .ok (.str (o.rep (.tup (ss.map stV)))) h := repr_rows (h := h) hs hl
  simp [-repr_gate, LB, nthS, forB, c_law, e1, e3, mul2, ne2]
theorem lw_s4 (hr : ∀ v ∈ ss.map stV, StR v) (hs : ∀ s ∈ ss, Wr s) (hl : ss.length ≤ 40) (dd : Drw [] h) : ∃ h1, Drw [] h1 ∧ evS (G_law o) (nthS LB 4) [some S, some (.ref 2), a, some (.tup (ss.map stV)), c, some (.str (o.rep (.tup (ss.map stV)))), e, f, g] h = .nx [some S, some (.ref 2), a, some (.tup (ss.map stV)), c, some (.str (o.rep (.tup (ss.map stV)))), e, f, g] h1 := by
  obtain ⟨h1, e1, d1⟩ := F__law_errors_right_ok (o := o) hr (by simpa using hl) dd
  have e3 : primop (G_law o).rep .repr [.tup (ss.map stV)] h1 = .ok (.str (o.rep (.tup (ss.map stV)))) h1 := repr_rows (h := h1) hs hl
  refine ⟨h1, d1, ?_⟩
  simp [-repr_gate, LB, nthS, forB, c_law, e1, e3]
end
def LwJ (S : PV) (ρ : Env) (h : PH) : Prop := Drw [] h ∧ ∃ a b c d e f g, ρ = [some S, some (.ref 2), a, b, c, d, e, f, g]
theorem law_turn (o : Ops) (S : PV) {v : PV} {ρ : Env} {h : PH} (i : LwJ S ρ h) : SatN (LwJ S) (fTurn (G_law o) (.nm 2) LB v ρ h) := by
  obtain ⟨dd, a, b, c, d, e, f, g, rfl⟩ := i
  rw [fTurn_nm (by simp)]
  have eb : LB = .cons (nthS LB 0) (.cons (nthS LB 1) (.cons (nthS LB 2) (.cons (nthS LB 3) (.cons (nthS LB 4) .nil)))) := rfl
  obtain ⟨vs, h1, n, st, lv, d1, e0, rfl⟩ := lw_s0 (o := o) (S := S) (a := some v) (b := b) (c := c) (d := d) (e := e) (f := f) (g := g) dd
  obtain ⟨ss, rfl, hs⟩ := rows_back (fun r h => (st r h).rw) (fun r h => (st r h).wf)
  have hl : ss.length ≤ 40 := by simp at lv; omega
  obtain ⟨h2, d2, e4⟩ := lw_s4 (o := o) (S := S) (a := some v) (c := c) (e := some (.str (joinL [10] (ss.map lineT)))) (f := f) (g := g) st hs hl d1
  show SatN _ (evSs (G_law o) LB [some S, some (.ref 2), some v, b, c, d, e, f, g] h)
  rw [eb, evSs_cons, e0, RS.seq_nx, evSs_cons, lw_s1 hs hl, RS.seq_nx, evSs_cons, lw_s2 (x := []) hs hl, RS.seq_nx, evSs_cons, lw_s3 hs hl, RS.seq_nx, evSs_cons, e4, RS.seq_nx, evSs_nil]
  exact ⟨d2, _, _, _, _, _, _, _, rfl⟩
theorem F_law_ok (o : Ops) (ns : List Int) (hn : ns.length ≤ 16777216) : ∃ ph, F_law o [.fls (ns.map PV.int)] [.tbl tE] = .ok (.bl true) ph := by
  obtain ⟨h1, e1, d1⟩ := F__law_begun_ok o ns hn
  obtain ⟨ρ', h', ef, d', a, b, c, d, e, f, g, rfl⟩ := for_inv (I := LwJ (.fls (ns.map PV.int))) (ck := held h1 []) (b := fTurn (G_law o) (.nm 2) LB) (fun _ _ _ => rfl) (xs := rngL 0 8) (ρ := [some (.fls (ns.map PV.int)), some (.ref 2), none, none, none, none, none, none, none]) (h := h1) (fun x hx ρ h i => law_turn o _ i) ⟨d1, _, _, _, _, _, _, _, rfl⟩
  have ef2 : evS (G_law o) (.for_ (.nm 2) (.rng (.cons (.cst (.int 8)) .nil)) LB) [some (.fls (ns.map PV.int)), some (.ref 2), none, none, none, none, none, none, none] h1 = .nx [some (.fls (ns.map PV.int)), some (.ref 2), a, b, c, d, e, f, g] h' := by
    rw [for_eq]
    have ei : evI (G_law o) (.rng (.cons (.cst (.int 8)) .nil)) [some (.fls (ns.map PV.int)), some (.ref 2), none, none, none, none, none, none, none] h1 = .ok ⟨rngL 0 8, [], []⟩ h1 := by
      simp
    rw [ei]
    simp only [R.on_ok, lockH_nil]
    rw [ef]
    rfl
  refine ⟨h', ?_⟩
  have e0 : F_law o [.fls (ns.map PV.int)] [.tbl tE] = runB (G_law o) c_law [.fls (ns.map PV.int)] [.tbl tE] := opn_eq rfl rfl
  rw [e0, runB_eq]
  have eb : c_law.body = .cons (nthS c_law.body 0) (.cons (.for_ (.nm 2) (.rng (.cons (.cst (.int 8)) .nil)) LB) (.cons (nthS c_law.body 2) .nil)) := rfl
  rw [eb]
  have s0 : evS (G_law o) (nthS c_law.body 0) [some (.fls (ns.map PV.int)), none, none, none, none, none, none, none, none] [.tbl tE] = .nx [some (.fls (ns.map PV.int)), some (.ref 2), none, none, none, none, none, none, none] h1 := by
    simp [nthS, c_law, e1]
  have s2 : evS (G_law o) (nthS c_law.body 2) [some (.fls (ns.map PV.int)), some (.ref 2), a, b, c, d, e, f, g] h' = .ret (.bl true) h' := by
    simp [nthS, c_law]
  show (evSs (G_law o) _ [some (.fls (ns.map PV.int)), none, none, none, none, none, none, none, none] [.tbl tE]).toR = _
  rw [evSs_cons, s0, RS.seq_nx, evSs_cons, ef2, RS.seq_nx, evSs_cons, s2, RS.seq_ret]
  rfl
end Ev
end
section
set_option maxRecDepth 100000
set_option maxHeartbeats 0
namespace Ev
open PySem PySem.Spec PyProof.Rows L2
abbrev Rw : PySem.W.OpenRow := PySem.W.OpenLaw.row PySem.Challenge.rw_spiderwires_k65_step_texts
def top (i : Nat) : Stmt := PySem.Challenge.pw_spiderwires_k65_step_texts.main.body.getD i (.Pass ⟨0, 0, 0, 0⟩)
def inCls (s : Stmt) (j : Nat) : Stmt := match s with
  | .ClassDef _ _ _ b _ _ _ _ _ _ _ => b.getD j (.Pass ⟨0, 0, 0, 0⟩)
  | s => s
def tr : List Tri := [(("InvalidInput", "Conflict", "OutOfRange"), [10, 14])]
def isx : List Nat := [10, 14]
def exs : List Nat := [10, 14]
abbrev s_is_integer : Stmt := top 8
def T_is_integer : Tab := ⟨["value"], [], [], isx, exs, [], [], []⟩
theorem sc_is_integer : FnScope T_is_integer.N ["value"] (defScope s_is_integer) := ⟨rfl, rfl, rfl, by decide +kernel, rfl, by decide +kernel, by decide +kernel⟩
theorem ck_is_integer : chkSs T_is_integer tr (defScope s_is_integer) c_is_integer.body (defBody s_is_integer) = true := by decide +kernel
def d_is_integer : He.DefD := ⟨("is_integer", none), "is_integer", "is_integer", defArgs s_is_integer, defBody s_is_integer, defScope s_is_integer, [], []⟩
abbrev s_is_node_name : Stmt := top 13
def T_is_node_name : Tab := ⟨["value", "letter"], [], ["MAX_NAME", "LETTERS"], isx, exs, [], [], []⟩
theorem sc_is_node_name : FnScope T_is_node_name.N ["value"] (defScope s_is_node_name) := ⟨rfl, rfl, rfl, by decide +kernel, rfl, by decide +kernel, by decide +kernel⟩
theorem ck_is_node_name : chkSs T_is_node_name tr (defScope s_is_node_name) c_is_node_name.body (defBody s_is_node_name) = true := by decide +kernel
def d_is_node_name : He.DefD := ⟨("is_node_name", none), "is_node_name", "is_node_name", defArgs s_is_node_name, defBody s_is_node_name, defScope s_is_node_name, [], []⟩
abbrev s_is_end : Stmt := top 17
def T_is_end : Tab := ⟨["value"], [("is_node_name", 1)], ["DIGITS", "MAX_PORTS"], isx, exs, [], [], []⟩
theorem sc_is_end : FnScope T_is_end.N ["value"] (defScope s_is_end) := ⟨rfl, rfl, rfl, by decide +kernel, rfl, by decide +kernel, by decide +kernel⟩
theorem ck_is_end : chkSs T_is_end tr (defScope s_is_end) c_is_end.body (defBody s_is_end) = true := by decide +kernel
def d_is_end : He.DefD := ⟨("is_end", none), "is_end", "is_end", defArgs s_is_end, defBody s_is_end, defScope s_is_end, [], []⟩
abbrev s_fits : Stmt := top 18
def T_fits : Tab := ⟨["kind", "value"], [("is_node_name", 1), ("is_end", 1), ("is_integer", 1)], ["MODES"], isx, exs, [], [], []⟩
theorem sc_fits : FnScope T_fits.N ["kind", "value"] (defScope s_fits) := ⟨rfl, rfl, rfl, by decide +kernel, rfl, by decide +kernel, by decide +kernel⟩
theorem ck_fits : chkSs T_fits tr (defScope s_fits) c_fits.body (defBody s_fits) = true := by decide +kernel
def d_fits : He.DefD := ⟨("fits", none), "fits", "fits", defArgs s_fits, defBody s_fits, defScope s_fits, [], []⟩
abbrev s_is_well_formed : Stmt := top 19
def T_is_well_formed : Tab := ⟨["step", "kinds", "kind", "item"], [("fits", 2)], ["STEP_ITEMS"], isx, exs, [], [], []⟩
theorem sc_is_well_formed : FnScope T_is_well_formed.N ["step"] (defScope s_is_well_formed) := ⟨rfl, rfl, rfl, by decide +kernel, rfl, by decide +kernel, by decide +kernel⟩
theorem ck_is_well_formed : chkSs T_is_well_formed tr (defScope s_is_well_formed) c_is_well_formed.body (defBody s_is_well_formed) = true := by decide +kernel
def d_is_well_formed : He.DefD := ⟨("is_well_formed", none), "is_well_formed", "is_well_formed", defArgs s_is_well_formed, defBody s_is_well_formed, defScope s_is_well_formed, [], []⟩
abbrev s_line_of : Stmt := top 21
def T_line_of : Tab := ⟨["words", "word"], [], [], isx, exs, [], [], []⟩
theorem sc_line_of : FnScope T_line_of.N ["words"] (defScope s_line_of) := ⟨rfl, rfl, rfl, by decide +kernel, rfl, by decide +kernel, by decide +kernel⟩
theorem ck_line_of : chkSs T_line_of tr (defScope s_line_of) c_line_of.body (defBody s_line_of) = true := by decide +kernel
def d_line_of : He.DefD := ⟨("line_of", none), "line_of", "line_of", defArgs s_line_of, defBody s_line_of, defScope s_line_of, [], []⟩
abbrev s_steps_text : Stmt := top 22
def T_steps_text : Tab := ⟨["steps", "index", "step"], [("is_well_formed", 1), ("line_of", 1)], [], isx, exs, [], [], []⟩
theorem sc_steps_text : FnScope T_steps_text.N ["steps"] (defScope s_steps_text) := ⟨rfl, rfl, rfl, by decide +kernel, rfl, by decide +kernel, by decide +kernel⟩
theorem ck_steps_text : chkSs T_steps_text tr (defScope s_steps_text) c_steps_text.body (defBody s_steps_text) = true := by decide +kernel
def d_steps_text : He.DefD := ⟨("steps_text", none), "steps_text", "steps_text", defArgs s_steps_text, defBody s_steps_text, defScope s_steps_text, [], []⟩
abbrev s_parsed_integer : Stmt := top 25
def T_parsed_integer : Tab := ⟨["word", "digits", "digit"], [], ["MAX_DIGITS", "DIGITS"], isx, exs, [], [], []⟩
theorem sc_parsed_integer : FnScope T_parsed_integer.N ["word"] (defScope s_parsed_integer) := ⟨rfl, rfl, rfl, by decide +kernel, rfl, by decide +kernel, by decide +kernel⟩
theorem ck_parsed_integer : chkSs T_parsed_integer tr (defScope s_parsed_integer) c_parsed_integer.body (defBody s_parsed_integer) = true := by decide +kernel
def d_parsed_integer : He.DefD := ⟨("parsed_integer", none), "parsed_integer", "parsed_integer", defArgs s_parsed_integer, defBody s_parsed_integer, defScope s_parsed_integer, [], []⟩
abbrev s_need_text : Stmt := top 26
def T_need_text : Tab := ⟨["text"], [], [], isx, exs, [], [], []⟩
theorem sc_need_text : FnScope T_need_text.N ["text"] (defScope s_need_text) := ⟨rfl, rfl, rfl, by decide +kernel, rfl, by decide +kernel, by decide +kernel⟩
theorem ck_need_text : chkSs T_need_text tr (defScope s_need_text) c_need_text.body (defBody s_need_text) = true := by decide +kernel
def d_need_text : He.DefD := ⟨("need_text", none), "need_text", "need_text", defArgs s_need_text, defBody s_need_text, defScope s_need_text, [], []⟩
abbrev s_parsed_step : Stmt := top 27
def T_parsed_step : Tab := ⟨["words", "kinds", "items", "kind", "word", "step"], [("parsed_integer", 1), ("is_well_formed", 1)], ["STEP_ITEMS"], isx, exs, [], [], []⟩
theorem sc_parsed_step : FnScope T_parsed_step.N ["words"] (defScope s_parsed_step) := ⟨rfl, rfl, rfl, by decide +kernel, rfl, by decide +kernel, by decide +kernel⟩
theorem ck_parsed_step : chkSs T_parsed_step tr (defScope s_parsed_step) c_parsed_step.body (defBody s_parsed_step) = true := by decide +kernel
def d_parsed_step : He.DefD := ⟨("parsed_step", none), "parsed_step", "parsed_step", defArgs s_parsed_step, defBody s_parsed_step, defScope s_parsed_step, [], []⟩
abbrev s_read_steps : Stmt := top 28
def T_read_steps : Tab := ⟨["text", "steps", "number", "line", "step"], [("need_text", 1), ("parsed_step", 1)], [], isx, exs, [], [], []⟩
theorem sc_read_steps : FnScope T_read_steps.N ["text"] (defScope s_read_steps) := ⟨rfl, rfl, rfl, by decide +kernel, rfl, by decide +kernel, by decide +kernel⟩
theorem ck_read_steps : chkSs T_read_steps tr (defScope s_read_steps) c_read_steps.body (defBody s_read_steps) = true := by decide +kernel
def d_read_steps : He.DefD := ⟨("read_steps", none), "read_steps", "read_steps", defArgs s_read_steps, defBody s_read_steps, defScope s_read_steps, [], []⟩
abbrev s__law_begun : Stmt := top 30
def T__law_begun : Tab := ⟨["_law_script", "_law_m", "_law_cell"], [], [], isx, exs, [], [], []⟩
theorem sc__law_begun : FnScope T__law_begun.N ["_law_script"] (defScope s__law_begun) := ⟨rfl, rfl, rfl, by decide +kernel, rfl, by decide +kernel, by decide +kernel⟩
theorem ck__law_begun : chkSs T__law_begun tr (defScope s__law_begun) c__law_begun.body (defBody s__law_begun) = true := by decide +kernel
def d__law_begun : He.DefD := ⟨("_law_begun", none), "_law_begun", "_law_begun", defArgs s__law_begun, defBody s__law_begun, defScope s__law_begun, [], []⟩
abbrev s__law_draw : Stmt := top 31
def T__law_draw : Tab := ⟨["_law_m", "_law_many", "_law_k", "_law_at", "_law_cell", "_law_primes", "_law_mixed"], [], [], isx, exs, [], [], []⟩
theorem sc__law_draw : FnScope T__law_draw.N ["_law_m", "_law_many"] (defScope s__law_draw) := ⟨rfl, rfl, rfl, by decide +kernel, rfl, by decide +kernel, by decide +kernel⟩
theorem ck__law_draw : chkSs T__law_draw tr (defScope s__law_draw) c__law_draw.body (defBody s__law_draw) = true := by decide +kernel
def d__law_draw : He.DefD := ⟨("_law_draw", none), "_law_draw", "_law_draw", defArgs s__law_draw, defBody s__law_draw, defScope s__law_draw, [], []⟩
abbrev s__law_name : Stmt := top 32
def T__law_name : Tab := ⟨["_law_m", "_law_own", "_law_way", "_law_size", "_law_name_here", "_law_k"], [("_law_draw", 2)], [], isx, exs, [], [], []⟩
theorem sc__law_name : FnScope T__law_name.N ["_law_m"] (defScope s__law_name) := ⟨rfl, rfl, rfl, by decide +kernel, rfl, by decide +kernel, by decide +kernel⟩
theorem ck__law_name : chkSs T__law_name tr (defScope s__law_name) c__law_name.body (defBody s__law_name) = true := by decide +kernel
def d__law_name : He.DefD := ⟨("_law_name", none), "_law_name", "_law_name", defArgs s__law_name, defBody s__law_name, defScope s__law_name, [], []⟩
abbrev s__law_end : Stmt := top 33
def T__law_end : Tab := ⟨["_law_m", "_law_name_here", "_law_port"], [("_law_name", 1), ("_law_draw", 2)], [], isx, exs, [], [], []⟩
theorem sc__law_end : FnScope T__law_end.N ["_law_m"] (defScope s__law_end) := ⟨rfl, rfl, rfl, by decide +kernel, rfl, by decide +kernel, by decide +kernel⟩
theorem ck__law_end : chkSs T__law_end tr (defScope s__law_end) c__law_end.body (defBody s__law_end) = true := by decide +kernel
def d__law_end : He.DefD := ⟨("_law_end", none), "_law_end", "_law_end", defArgs s__law_end, defBody s__law_end, defScope s__law_end, [], []⟩
abbrev s__law_step : Stmt := top 34
def T__law_step : Tab := ⟨["_law_m", "_law_one_name", "_law_far", "_law_mode", "_law_ends", "_law_bit", "_law_some"], [("_law_name", 1), ("_law_draw", 2), ("_law_end", 1)], [], isx, exs, [], [], []⟩
theorem sc__law_step : FnScope T__law_step.N ["_law_m"] (defScope s__law_step) := ⟨rfl, rfl, rfl, by decide +kernel, rfl, by decide +kernel, by decide +kernel⟩
theorem ck__law_step : chkSs T__law_step tr (defScope s__law_step) c__law_step.body (defBody s__law_step) = true := by decide +kernel
def d__law_step : He.DefD := ⟨("_law_step", none), "_law_step", "_law_step", defArgs s__law_step, defBody s__law_step, defScope s__law_step, [], []⟩
abbrev s__law_bent : Stmt := top 35
def T__law_bent : Tab := ⟨["_law_m", "_law_step_here", "_law_way", "_law_at", "_law_some", "_law_item", "_law_bent_here"], [("_law_draw", 2)], [], isx, exs, [], [], []⟩
theorem sc__law_bent : FnScope T__law_bent.N ["_law_m", "_law_step_here"] (defScope s__law_bent) := ⟨rfl, rfl, rfl, by decide +kernel, rfl, by decide +kernel, by decide +kernel⟩
theorem ck__law_bent : chkSs T__law_bent tr (defScope s__law_bent) c__law_bent.body (defBody s__law_bent) = true := by decide +kernel
def d__law_bent : He.DefD := ⟨("_law_bent", none), "_law_bent", "_law_bent", defArgs s__law_bent, defBody s__law_bent, defScope s__law_bent, [], []⟩
abbrev s__law_is_name : Stmt := top 36
def T__law_is_name : Tab := ⟨["_law_item", "_law_sign"], [], [], isx, exs, [], [], []⟩
theorem sc__law_is_name : FnScope T__law_is_name.N ["_law_item"] (defScope s__law_is_name) := ⟨rfl, rfl, rfl, by decide +kernel, rfl, by decide +kernel, by decide +kernel⟩
theorem ck__law_is_name : chkSs T__law_is_name tr (defScope s__law_is_name) c__law_is_name.body (defBody s__law_is_name) = true := by decide +kernel
def d__law_is_name : He.DefD := ⟨("_law_is_name", none), "_law_is_name", "_law_is_name", defArgs s__law_is_name, defBody s__law_is_name, defScope s__law_is_name, [], []⟩
abbrev s__law_is_mode : Stmt := top 37
def T__law_is_mode : Tab := ⟨["_law_item"], [], [], isx, exs, [], [], []⟩
theorem sc__law_is_mode : FnScope T__law_is_mode.N ["_law_item"] (defScope s__law_is_mode) := ⟨rfl, rfl, rfl, by decide +kernel, rfl, by decide +kernel, by decide +kernel⟩
theorem ck__law_is_mode : chkSs T__law_is_mode tr (defScope s__law_is_mode) c__law_is_mode.body (defBody s__law_is_mode) = true := by decide +kernel
def d__law_is_mode : He.DefD := ⟨("_law_is_mode", none), "_law_is_mode", "_law_is_mode", defArgs s__law_is_mode, defBody s__law_is_mode, defScope s__law_is_mode, [], []⟩
abbrev s__law_is_end : Stmt := top 38
def T__law_is_end : Tab := ⟨["_law_item"], [("_law_is_name", 1)], [], isx, exs, [], [], []⟩
theorem sc__law_is_end : FnScope T__law_is_end.N ["_law_item"] (defScope s__law_is_end) := ⟨rfl, rfl, rfl, by decide +kernel, rfl, by decide +kernel, by decide +kernel⟩
theorem ck__law_is_end : chkSs T__law_is_end tr (defScope s__law_is_end) c__law_is_end.body (defBody s__law_is_end) = true := by decide +kernel
def d__law_is_end : He.DefD := ⟨("_law_is_end", none), "_law_is_end", "_law_is_end", defArgs s__law_is_end, defBody s__law_is_end, defScope s__law_is_end, [], []⟩
abbrev s__law_is_well_formed : Stmt := top 39
def T__law_is_well_formed : Tab := ⟨["_law_step_here", "_law_word", "_law_rest", "_law_bit"], [("_law_is_name", 1), ("_law_is_mode", 1), ("_law_is_end", 1)], [], isx, exs, [], [], []⟩
theorem sc__law_is_well_formed : FnScope T__law_is_well_formed.N ["_law_step_here"] (defScope s__law_is_well_formed) := ⟨rfl, rfl, rfl, by decide +kernel, rfl, by decide +kernel, by decide +kernel⟩
theorem ck__law_is_well_formed : chkSs T__law_is_well_formed tr (defScope s__law_is_well_formed) c__law_is_well_formed.body (defBody s__law_is_well_formed) = true := by decide +kernel
def d__law_is_well_formed : He.DefD := ⟨("_law_is_well_formed", none), "_law_is_well_formed", "_law_is_well_formed", defArgs s__law_is_well_formed, defBody s__law_is_well_formed, defScope s__law_is_well_formed, [], []⟩
abbrev s__law_said : Stmt := top 40
def T__law_said : Tab := ⟨["_law_deed", "_law_caught", "error"], [], [], isx, exs, [], [], []⟩
theorem sc__law_said : FnScope T__law_said.N ["_law_deed"] (defScope s__law_said) := ⟨rfl, rfl, rfl, by decide +kernel, rfl, by decide +kernel, by decide +kernel⟩
theorem ck__law_said : saidB T__law_said tr (defScope s__law_said) "_law_deed" c__law_said (defBody s__law_said) = true := by decide +kernel
def d__law_said : He.DefD := ⟨("_law_said", none), "_law_said", "_law_said", defArgs s__law_said, defBody s__law_said, defScope s__law_said, [], []⟩
abbrev s__law_errors_right : Stmt := top 41
def T__law_errors_right : Tab := ⟨["_law_m", "_law_rows", "_law_at", "_law_base", "_law_bad", "_law_wrong", "_law_k", "_law_row", "_law_due", "_law_thing", "_law_told"], [("_law_draw", 2), ("_law_bent", 2), ("_law_is_well_formed", 1), ("steps_text", 1), ("read_steps", 1)], [], isx, exs, [], [(0, "_law_said")], [95, 108, 97, 119, 95, 101, 114, 114, 111, 114, 115, 95, 114, 105, 103, 104, 116]⟩
theorem sc__law_errors_right : FnScope T__law_errors_right.N ["_law_m", "_law_rows"] (defScope s__law_errors_right) := ⟨rfl, rfl, rfl, by decide +kernel, rfl, by decide +kernel, by decide +kernel⟩
theorem ck__law_errors_right : chkSs T__law_errors_right tr (defScope s__law_errors_right) c__law_errors_right.body (defBody s__law_errors_right) = true := by decide +kernel
def d__law_errors_right : He.DefD := ⟨("_law_errors_right", none), "_law_errors_right", "_law_errors_right", defArgs s__law_errors_right, defBody s__law_errors_right, defScope s__law_errors_right, [], []⟩
abbrev s_law : Stmt := top 42
def T_law : Tab := ⟨["_law_script", "_law_m", "_law_turn", "_law_rows", "_law_k", "_law_shown", "_law_spelt", "_law_item", "_law_row"], [("_law_begun", 1), ("_law_draw", 2), ("_law_step", 1), ("steps_text", 1), ("read_steps", 1), ("_law_errors_right", 2)], [], isx, exs, [(3, "steps_text", "steps"), (4, "read_steps", "text")], [], [108, 97, 119]⟩
theorem sc_law : FnScope T_law.N ["_law_script"] (defScope s_law) := ⟨rfl, rfl, rfl, by decide +kernel, rfl, by decide +kernel, by decide +kernel⟩
theorem ck_law : chkSs T_law tr (defScope s_law) c_law.body (defBody s_law) = true := by decide +kernel
def d_law : He.DefD := ⟨("law", none), "law", "law", defArgs s_law, defBody s_law, defScope s_law, [], []⟩
abbrev s_BadStep : Stmt := inCls (top 4) 0
def d_BadStep : He.DefD := ⟨("BadStep", some "__init__"), "__init__", "BadStep.__init__", defArgs s_BadStep, defBody s_BadStep, defScope s_BadStep, [], []⟩
theorem i_BadStep : InitD d_BadStep (excF 10) := ⟨rfl, ⟨_, _, rfl⟩, ⟨_, _, _, _, rfl⟩, rfl, rfl, rfl⟩
abbrev s_BadLine : Stmt := inCls (top 5) 0
def d_BadLine : He.DefD := ⟨("BadLine", some "__init__"), "__init__", "BadLine.__init__", defArgs s_BadLine, defBody s_BadLine, defScope s_BadLine, [], []⟩
theorem i_BadLine : InitD d_BadLine (excF 14) := ⟨rfl, ⟨_, _, rfl⟩, ⟨_, _, _, _, rfl⟩, rfl, rfl, rfl⟩
def fnL_0 : List He.DefD := [d_is_integer, d_is_node_name, d_is_end, d_fits, d_is_well_formed, d_line_of, d_steps_text, d_parsed_integer, d_need_text, d_parsed_step, d_read_steps, d__law_begun, d__law_draw, d__law_name, d__law_end, d__law_step]
def fnL_1 : List He.DefD := [d__law_bent, d__law_is_name, d__law_is_mode, d__law_is_end, d__law_is_well_formed, d__law_said, d__law_errors_right, d_law, d_BadStep, d_BadLine]
def fnL : List He.DefD := fnL_0 ++ fnL_1
def gloL_0 : List Str := ["is_integer", "is_node_name", "is_end", "fits", "is_well_formed", "line_of", "steps_text", "parsed_integer", "need_text", "parsed_step", "read_steps", "_law_begun", "_law_draw", "_law_name", "_law_end", "_law_step"]
def gloL_1 : List Str := ["_law_bent", "_law_is_name", "_law_is_mode", "_law_is_end", "_law_is_well_formed", "_law_said", "_law_errors_right", "law", "InvalidInput", "Conflict", "OutOfRange", "BadStep", "BadLine", "STEP_ITEMS"]
def gloL : List Str := gloL_0 ++ gloL_1
def freeL_0 : List Str := ["isinstance", "len", "repr", "sorted", "all", "any", "sum", "max", "min", "abs", "divmod", "str", "int", "tuple", "list", "bool"]
def freeL_1 : List Str := ["dict", "range", "enumerate", "zip"]
def freeL : List Str := freeL_0 ++ freeL_1
def faL : List He.Fa := gloL.map He.Fa.glo ++ freeL.map He.Fa.free
theorem glo_in {x : Str} (h : gloL.contains x = true) : He.Fa.glo x ∈ faL := List.mem_append_left _ (List.mem_map.mpr ⟨x, List.contains_iff_mem.mp h, rfl⟩)
theorem free_in {x : Str} (h : freeL.contains x = true) : He.Fa.free x ∈ faL := List.mem_append_right _ (List.mem_map.mpr ⟨x, List.contains_iff_mem.mp h, rfl⟩)
def loose_0 : List Str := ["InvalidInput", "Conflict", "OutOfRange", "BadStep", "BadLine", "MAX_PORTS", "is_integer", "LETTERS", "MAX_NAME", "MODES", "is_node_name", "STEP_ITEMS", "DIGITS", "is_end", "fits", "is_well_formed"]
def loose_1 : List Str := ["line_of", "steps_text", "MAX_DIGITS", "parsed_integer", "need_text", "parsed_step", "read_steps", "_law_begun", "_law_draw", "_law_name", "_law_end", "_law_step", "_law_bent", "_law_is_name", "_law_is_mode", "_law_is_end"]
def loose_2 : List Str := ["_law_is_well_formed", "_law_said", "_law_errors_right"]
def loose : List Str := loose_0 ++ loose_1 ++ loose_2
def tsL : List He.Tab := [((fun K => He.ga K "STEP_ITEMS"), ["recolor", "fuse", "drop", "insert", "unloop", "cancel", "evaluate", "complement", "pivot", "rename", "clear"])]
def kvsOf : PV → List (PV × PV)
  | .fdc l => l
  | _ => []
def exB (K : PySem.W.Frag) : Bool := (tabB K "_law_errors_right" && ((match PySem.W.nsIn K mainGlobals "MAX_PORTS" with
    | some (some u) => kvB K g_MAX_PORTS u
    | _ => false) && ((match PySem.W.nsIn K mainGlobals "LETTERS" with
    | some (some u) => kvB K g_LETTERS u
    | _ => false) && ((match PySem.W.nsIn K mainGlobals "MAX_NAME" with
    | some (some u) => kvB K g_MAX_NAME u
    | _ => false) && ((match PySem.W.nsIn K mainGlobals "MODES" with
    | some (some u) => kvB K g_MODES u
    | _ => false) && ((match PySem.W.nsIn K mainGlobals "DIGITS" with
    | some (some u) => kvB K g_DIGITS u
    | _ => false) && ((match PySem.W.nsIn K mainGlobals "MAX_DIGITS" with
    | some (some u) => kvB K g_MAX_DIGITS u
    | _ => false) && (fdcB K (He.ga K "STEP_ITEMS") (kvsOf g_STEP_ITEMS) && ((exrB K (He.ga K (excC 10)) (excF 10) && owB K (He.ga K (excC 10)) (He.fAd K ("BadStep", some "__init__")) (excF 10)) && ((exrB K (He.ga K (excC 14)) (excF 14) && owB K (He.ga K (excC 14)) (He.fAd K ("BadLine", some "__init__")) (excF 14)) && ((isx.all fun D => exs.all fun c => decide (PySem.W.kitOne K (.ref (He.ga K (excC c))) (.ref (He.ga K (excC D))) = some (decide (c = D)))) && (tr.all fun t => t.2.all fun c => decide (PySem.W.exmAny K (.ref (He.ga K (excC c))) [.ref (He.ga K t.1.1), .ref (He.ga K t.1.2.1), .ref (He.ga K t.1.2.2)] = some true)))))))))))))
abbrev hk : PySem.W.Hook := He.hookX 5 faL fnL tsL [] exB
def ob (s : PySem.W.SharedT) : He.AlX := He.obsX 5 faL fnL tsL [] exB (HandSHeadRun.getT s)
theorem ob_eq (s : PySem.W.SharedT) : ob s = hk.obs s.abs := He.obsX_eq (HandSHeadRun.getT_eq s)
--HEADRUN
theorem run (w : World) : HandSHeadRun.RunEq Rw (PySem.W.view Rw.prog [41, 42]) hk ob 20000 loose w := by
  refine PySem.W.byRow2 "special-get-raises" (fun w => ?_) (fun w => ?_) w
  · intro os
    kernel_rfl
  · intro os
    kernel_rfl
--HEADEND
section
variable {P : Program} {w : World} {K : PySem.W.Frag} {h base : Heap} {mg : Str → Option Value}
theorem exB_all (c : exB K = true) : tabB K "_law_errors_right" = true ∧ (match PySem.W.nsIn K mainGlobals "MAX_PORTS" with
    | some (some u) => kvB K g_MAX_PORTS u
    | _ => false) = true ∧ (match PySem.W.nsIn K mainGlobals "LETTERS" with
    | some (some u) => kvB K g_LETTERS u
    | _ => false) = true ∧ (match PySem.W.nsIn K mainGlobals "MAX_NAME" with
    | some (some u) => kvB K g_MAX_NAME u
    | _ => false) = true ∧ (match PySem.W.nsIn K mainGlobals "MODES" with
    | some (some u) => kvB K g_MODES u
    | _ => false) = true ∧ (match PySem.W.nsIn K mainGlobals "DIGITS" with
    | some (some u) => kvB K g_DIGITS u
    | _ => false) = true ∧ (match PySem.W.nsIn K mainGlobals "MAX_DIGITS" with
    | some (some u) => kvB K g_MAX_DIGITS u
    | _ => false) = true ∧ fdcB K (He.ga K "STEP_ITEMS") (kvsOf g_STEP_ITEMS) = true ∧ (exrB K (He.ga K (excC 10)) (excF 10) = true ∧ owB K (He.ga K (excC 10)) (He.fAd K ("BadStep", some "__init__")) (excF 10) = true) ∧ (exrB K (He.ga K (excC 14)) (excF 14) = true ∧ owB K (He.ga K (excC 14)) (He.fAd K ("BadLine", some "__init__")) (excF 14) = true) ∧ (isx.all fun D => exs.all fun c => decide (PySem.W.kitOne K (.ref (He.ga K (excC c))) (.ref (He.ga K (excC D))) = some (decide (c = D)))) = true ∧ (tr.all fun t => t.2.all fun c => decide (PySem.W.exmAny K (.ref (He.ga K (excC c))) [.ref (He.ga K t.1.1), .ref (He.ga K t.1.2.1), .ref (He.ga K t.1.2.2)] = some true)) = true := by
  unfold exB at c
  simpa only [Bool.and_eq_true] using c
theorem glo (X : K.In h) (G : h.Ns mainGlobals mg) (c : He.SaysX faL fnL tsL [] exB w h K) {x : Str} (hx : gloL.contains x = true) : mg x = some (.ref (He.ga K x)) := He.glo_ok X G (c.t.d.facts (glo_in hx))
theorem gl_MAX_PORTS (X : K.In h) (G : h.Ns mainGlobals mg) (c : He.SaysX faL fnL tsL [] exB w h K) : GlF P w K mg "MAX_PORTS" g_MAX_PORTS := gl_of X G (have z := exB_all c.more; z.2.1)
theorem gl_LETTERS (X : K.In h) (G : h.Ns mainGlobals mg) (c : He.SaysX faL fnL tsL [] exB w h K) : GlF P w K mg "LETTERS" g_LETTERS := gl_of X G (have z := exB_all c.more; z.2.2.1)
theorem gl_MAX_NAME (X : K.In h) (G : h.Ns mainGlobals mg) (c : He.SaysX faL fnL tsL [] exB w h K) : GlF P w K mg "MAX_NAME" g_MAX_NAME := gl_of X G (have z := exB_all c.more; z.2.2.2.1)
theorem gl_MODES (X : K.In h) (G : h.Ns mainGlobals mg) (c : He.SaysX faL fnL tsL [] exB w h K) : GlF P w K mg "MODES" g_MODES := gl_of X G (have z := exB_all c.more; z.2.2.2.2.1)
theorem gl_STEP_ITEMS (X : K.In h) (G : h.Ns mainGlobals mg) (c : He.SaysX faL fnL tsL [] exB w h K) : GlF P w K mg "STEP_ITEMS" g_STEP_ITEMS := by
  obtain ⟨es, n, D⟩ := c.t.tab 0 (t := ((fun K => He.ga K "STEP_ITEMS"), ["recolor", "fuse", "drop", "insert", "unloop", "cancel", "evaluate", "complement", "pivot", "rename", "clear"])) rfl
  exact gl_dct (glo X G c (by decide +kernel)) D (have z := exB_all c.more; z.2.2.2.2.2.2.2.1) (by decide +kernel) (by decide +kernel)
theorem gl_DIGITS (X : K.In h) (G : h.Ns mainGlobals mg) (c : He.SaysX faL fnL tsL [] exB w h K) : GlF P w K mg "DIGITS" g_DIGITS := gl_of X G (have z := exB_all c.more; z.2.2.2.2.2.1)
theorem gl_MAX_DIGITS (X : K.In h) (G : h.Ns mainGlobals mg) (c : He.SaysX faL fnL tsL [] exB w h K) : GlF P w K mg "MAX_DIGITS" g_MAX_DIGITS := gl_of X G (have z := exB_all c.more; z.2.2.2.2.2.2.1)
theorem hd (X : K.In h) (G : h.Ns mainGlobals mg) (c : He.SaysX faL fnL tsL [] exB w h K) : HdOk K mg exs isx tr := by
  have z := exB_all c.more
  refine ⟨fun n hn => He.free_ok X G (c.t.d.facts ?_), fun e he => ?_, fun D hD => ⟨?_, fun e he => ?_⟩, fun e he => ?_, fun t ht => ?_⟩
  · have q : (bltNames.all fun n => freeL.contains n) = true := by decide +kernel
    exact free_in (List.all_eq_true.mp q n hn)
  · have hm : e = 10 ∨ e = 14 := by simpa [exs] using he
    rcases hm with rfl | rfl
    · exact exrB_ok z.2.2.2.2.2.2.2.2.1.1
    · exact exrB_ok z.2.2.2.2.2.2.2.2.2.1.1
  · have q : (isx.all fun D => gloL.contains (excC D)) = true := by decide +kernel
    exact glo X G c (List.all_eq_true.mp q D (List.contains_iff_mem.mp hD))
  · exact of_decide_eq_true (List.all_eq_true.mp (List.all_eq_true.mp z.2.2.2.2.2.2.2.2.2.2.1 D (List.contains_iff_mem.mp hD)) e (List.contains_iff_mem.mp he))
  · have hm : e = 10 ∨ e = 14 := by simpa [exs] using he
    rcases hm with rfl | rfl
    · obtain ⟨fd, F⟩ := c.t.d.def_ 24 (d := d_BadStep) rfl
      exact owB_ok (d := d_BadStep) z.2.2.2.2.2.2.2.2.1.2 (glo X G c (by decide +kernel)) i_BadStep F (by decide +kernel) (by decide +kernel) (by decide +kernel)
    · obtain ⟨fd, F⟩ := c.t.d.def_ 25 (d := d_BadLine) rfl
      exact owB_ok (d := d_BadLine) z.2.2.2.2.2.2.2.2.2.1.2 (glo X G c (by decide +kernel)) i_BadLine F (by decide +kernel) (by decide +kernel) (by decide +kernel)
  · have q : (tr.all fun t => gloL.contains t.1.1 && (gloL.contains t.1.2.1 && gloL.contains t.1.2.2)) = true := by decide +kernel
    have q0 := List.all_eq_true.mp q t ht
    simp only [Bool.and_eq_true] at q0
    obtain ⟨q1, q2, q3⟩ := q0
    exact ⟨_, _, _, glo X G c q1, glo X G c q2, glo X G c q3, fun e he => of_decide_eq_true (List.all_eq_true.mp (List.all_eq_true.mp z.2.2.2.2.2.2.2.2.2.2.2 t ht) e (List.contains_iff_mem.mp he))⟩
theorem fg_is_integer (X : K.In h) (G : h.Ns mainGlobals mg) (c : He.SaysX faL fnL tsL [] exB w h K) : ∃ fd, FunD K "is_integer" "is_integer" (defArgs s_is_integer) (defBody s_is_integer) (defScope s_is_integer) [] [] (He.ga K "is_integer") fd ∧ FnG P w K mg base 1 (He.ga K "is_integer") fd ["value"] (F_is_integer opsX) := by
  obtain ⟨fd, F⟩ := c.t.d.def_ 0 (d := d_is_integer) rfl
  exact ⟨fd, F, fn_makeG (T := T_is_integer) (G := G_is_integer opsX) (c := c_is_integer) (k := 0) (hd X G c) F sc_is_integer rfl rfl rfl rfl rfl rfl .nil .nil ck_is_integer⟩
theorem fx_is_integer (X : K.In h) (G : h.Ns mainGlobals mg) (c : He.SaysX faL fnL tsL [] exB w h K) : FnF P w K mg base 1 "is_integer" (F_is_integer opsX) := by
  obtain ⟨fd, F, g⟩ := fg_is_integer (P := P) (base := base) X G c
  exact fn_make (c := c_is_integer) (G := G_is_integer opsX) F rfl g (glo X G c (by decide +kernel)) (F.bindsN fun _ _ _ _ _ _ us hl => match us, hl with | [_], _ => rfl)
theorem fg_is_node_name (X : K.In h) (G : h.Ns mainGlobals mg) (c : He.SaysX faL fnL tsL [] exB w h K) : ∃ fd, FunD K "is_node_name" "is_node_name" (defArgs s_is_node_name) (defBody s_is_node_name) (defScope s_is_node_name) [] [] (He.ga K "is_node_name") fd ∧ FnG P w K mg base 1 (He.ga K "is_node_name") fd ["value"] (F_is_node_name opsX) := by
  obtain ⟨fd, F⟩ := c.t.d.def_ 1 (d := d_is_node_name) rfl
  exact ⟨fd, F, fn_makeG (T := T_is_node_name) (G := G_is_node_name opsX) (c := c_is_node_name) (k := 0) (hd X G c) F sc_is_node_name rfl rfl rfl rfl rfl rfl .nil (.cons (gl_MAX_NAME X G c) (.cons (gl_LETTERS X G c) .nil)) ck_is_node_name⟩
theorem fx_is_node_name (X : K.In h) (G : h.Ns mainGlobals mg) (c : He.SaysX faL fnL tsL [] exB w h K) : FnF P w K mg base 1 "is_node_name" (F_is_node_name opsX) := by
  obtain ⟨fd, F, g⟩ := fg_is_node_name (P := P) (base := base) X G c
  exact fn_make (c := c_is_node_name) (G := G_is_node_name opsX) F rfl g (glo X G c (by decide +kernel)) (F.bindsN fun _ _ _ _ _ _ us hl => match us, hl with | [_], _ => rfl)
theorem fg_is_end (X : K.In h) (G : h.Ns mainGlobals mg) (c : He.SaysX faL fnL tsL [] exB w h K) : ∃ fd, FunD K "is_end" "is_end" (defArgs s_is_end) (defBody s_is_end) (defScope s_is_end) [] [] (He.ga K "is_end") fd ∧ FnG P w K mg base 2 (He.ga K "is_end") fd ["value"] (F_is_end opsX) := by
  obtain ⟨fd, F⟩ := c.t.d.def_ 2 (d := d_is_end) rfl
  exact ⟨fd, F, fn_makeG (T := T_is_end) (G := G_is_end opsX) (c := c_is_end) (k := 1) (hd X G c) F sc_is_end rfl rfl rfl rfl rfl rfl (.cons (fx_is_node_name X G c) (by decide) .nil) (.cons (gl_DIGITS X G c) (.cons (gl_MAX_PORTS X G c) .nil)) ck_is_end⟩
theorem fx_is_end (X : K.In h) (G : h.Ns mainGlobals mg) (c : He.SaysX faL fnL tsL [] exB w h K) : FnF P w K mg base 2 "is_end" (F_is_end opsX) := by
  obtain ⟨fd, F, g⟩ := fg_is_end (P := P) (base := base) X G c
  exact fn_make (c := c_is_end) (G := G_is_end opsX) F rfl g (glo X G c (by decide +kernel)) (F.bindsN fun _ _ _ _ _ _ us hl => match us, hl with | [_], _ => rfl)
theorem fg_fits (X : K.In h) (G : h.Ns mainGlobals mg) (c : He.SaysX faL fnL tsL [] exB w h K) : ∃ fd, FunD K "fits" "fits" (defArgs s_fits) (defBody s_fits) (defScope s_fits) [] [] (He.ga K "fits") fd ∧ FnG P w K mg base 3 (He.ga K "fits") fd ["kind", "value"] (F_fits opsX) := by
  obtain ⟨fd, F⟩ := c.t.d.def_ 3 (d := d_fits) rfl
  exact ⟨fd, F, fn_makeG (T := T_fits) (G := G_fits opsX) (c := c_fits) (k := 2) (hd X G c) F sc_fits rfl rfl rfl rfl rfl rfl (.cons (fx_is_node_name X G c) (by decide) (.cons (fx_is_end X G c) (by decide) (.cons (fx_is_integer X G c) (by decide) .nil))) (.cons (gl_MODES X G c) .nil) ck_fits⟩
theorem fx_fits (X : K.In h) (G : h.Ns mainGlobals mg) (c : He.SaysX faL fnL tsL [] exB w h K) : FnF P w K mg base 3 "fits" (F_fits opsX) := by
  obtain ⟨fd, F, g⟩ := fg_fits (P := P) (base := base) X G c
  exact fn_make (c := c_fits) (G := G_fits opsX) F rfl g (glo X G c (by decide +kernel)) (F.bindsN fun _ _ _ _ _ _ us hl => match us, hl with | [_, _], _ => rfl)
theorem fg_is_well_formed (X : K.In h) (G : h.Ns mainGlobals mg) (c : He.SaysX faL fnL tsL [] exB w h K) : ∃ fd, FunD K "is_well_formed" "is_well_formed" (defArgs s_is_well_formed) (defBody s_is_well_formed) (defScope s_is_well_formed) [] [] (He.ga K "is_well_formed") fd ∧ FnG P w K mg base 4 (He.ga K "is_well_formed") fd ["step"] (F_is_well_formed opsX) := by
  obtain ⟨fd, F⟩ := c.t.d.def_ 4 (d := d_is_well_formed) rfl
  exact ⟨fd, F, fn_makeG (T := T_is_well_formed) (G := G_is_well_formed opsX) (c := c_is_well_formed) (k := 3) (hd X G c) F sc_is_well_formed rfl rfl rfl rfl rfl rfl (.cons (fx_fits X G c) (by decide) .nil) (.cons (gl_STEP_ITEMS X G c) .nil) ck_is_well_formed⟩
theorem fx_is_well_formed (X : K.In h) (G : h.Ns mainGlobals mg) (c : He.SaysX faL fnL tsL [] exB w h K) : FnF P w K mg base 4 "is_well_formed" (F_is_well_formed opsX) := by
  obtain ⟨fd, F, g⟩ := fg_is_well_formed (P := P) (base := base) X G c
  exact fn_make (c := c_is_well_formed) (G := G_is_well_formed opsX) F rfl g (glo X G c (by decide +kernel)) (F.bindsN fun _ _ _ _ _ _ us hl => match us, hl with | [_], _ => rfl)
theorem fg_line_of (X : K.In h) (G : h.Ns mainGlobals mg) (c : He.SaysX faL fnL tsL [] exB w h K) : ∃ fd, FunD K "line_of" "line_of" (defArgs s_line_of) (defBody s_line_of) (defScope s_line_of) [] [] (He.ga K "line_of") fd ∧ FnG P w K mg base 1 (He.ga K "line_of") fd ["words"] (F_line_of opsX) := by
  obtain ⟨fd, F⟩ := c.t.d.def_ 5 (d := d_line_of) rfl
  exact ⟨fd, F, fn_makeG (T := T_line_of) (G := G_line_of opsX) (c := c_line_of) (k := 0) (hd X G c) F sc_line_of rfl rfl rfl rfl rfl rfl .nil .nil ck_line_of⟩
theorem fx_line_of (X : K.In h) (G : h.Ns mainGlobals mg) (c : He.SaysX faL fnL tsL [] exB w h K) : FnF P w K mg base 1 "line_of" (F_line_of opsX) := by
  obtain ⟨fd, F, g⟩ := fg_line_of (P := P) (base := base) X G c
  exact fn_make (c := c_line_of) (G := G_line_of opsX) F rfl g (glo X G c (by decide +kernel)) (F.bindsN fun _ _ _ _ _ _ us hl => match us, hl with | [_], _ => rfl)
theorem fg_steps_text (X : K.In h) (G : h.Ns mainGlobals mg) (c : He.SaysX faL fnL tsL [] exB w h K) : ∃ fd, FunD K "steps_text" "steps_text" (defArgs s_steps_text) (defBody s_steps_text) (defScope s_steps_text) [] [] (He.ga K "steps_text") fd ∧ FnG P w K mg base 5 (He.ga K "steps_text") fd ["steps"] (F_steps_text opsX) := by
  obtain ⟨fd, F⟩ := c.t.d.def_ 6 (d := d_steps_text) rfl
  exact ⟨fd, F, fn_makeG (T := T_steps_text) (G := G_steps_text opsX) (c := c_steps_text) (k := 4) (hd X G c) F sc_steps_text rfl rfl rfl rfl rfl rfl (.cons (fx_is_well_formed X G c) (by decide) (.cons (fx_line_of X G c) (by decide) .nil)) .nil ck_steps_text⟩
theorem fx_steps_text (X : K.In h) (G : h.Ns mainGlobals mg) (c : He.SaysX faL fnL tsL [] exB w h K) : FnF P w K mg base 5 "steps_text" (F_steps_text opsX) := by
  obtain ⟨fd, F, g⟩ := fg_steps_text (P := P) (base := base) X G c
  exact fn_make (c := c_steps_text) (G := G_steps_text opsX) F rfl g (glo X G c (by decide +kernel)) (F.bindsN fun _ _ _ _ _ _ us hl => match us, hl with | [_], _ => rfl)
theorem kx_steps_text (X : K.In h) (G : h.Ns mainGlobals mg) (c : He.SaysX faL fnL tsL [] exB w h K) : KwF P w K mg base 5 "steps_text" "steps" (F_steps_text opsX) := by
  obtain ⟨fd, F, g⟩ := fg_steps_text (P := P) (base := base) X G c
  exact kw_make (c := c_steps_text) (G := G_steps_text opsX) F rfl g (glo X G c (by decide +kernel)) (fun _ _ _ _ _ _ _ => by rfl)
theorem fg_parsed_integer (X : K.In h) (G : h.Ns mainGlobals mg) (c : He.SaysX faL fnL tsL [] exB w h K) : ∃ fd, FunD K "parsed_integer" "parsed_integer" (defArgs s_parsed_integer) (defBody s_parsed_integer) (defScope s_parsed_integer) [] [] (He.ga K "parsed_integer") fd ∧ FnG P w K mg base 1 (He.ga K "parsed_integer") fd ["word"] (F_parsed_integer opsX) := by
  obtain ⟨fd, F⟩ := c.t.d.def_ 7 (d := d_parsed_integer) rfl
  exact ⟨fd, F, fn_makeG (T := T_parsed_integer) (G := G_parsed_integer opsX) (c := c_parsed_integer) (k := 0) (hd X G c) F sc_parsed_integer rfl rfl rfl rfl rfl rfl .nil (.cons (gl_MAX_DIGITS X G c) (.cons (gl_DIGITS X G c) .nil)) ck_parsed_integer⟩
theorem fx_parsed_integer (X : K.In h) (G : h.Ns mainGlobals mg) (c : He.SaysX faL fnL tsL [] exB w h K) : FnF P w K mg base 1 "parsed_integer" (F_parsed_integer opsX) := by
  obtain ⟨fd, F, g⟩ := fg_parsed_integer (P := P) (base := base) X G c
  exact fn_make (c := c_parsed_integer) (G := G_parsed_integer opsX) F rfl g (glo X G c (by decide +kernel)) (F.bindsN fun _ _ _ _ _ _ us hl => match us, hl with | [_], _ => rfl)
theorem fg_need_text (X : K.In h) (G : h.Ns mainGlobals mg) (c : He.SaysX faL fnL tsL [] exB w h K) : ∃ fd, FunD K "need_text" "need_text" (defArgs s_need_text) (defBody s_need_text) (defScope s_need_text) [] [] (He.ga K "need_text") fd ∧ FnG P w K mg base 1 (He.ga K "need_text") fd ["text"] (F_need_text opsX) := by
  obtain ⟨fd, F⟩ := c.t.d.def_ 8 (d := d_need_text) rfl
  exact ⟨fd, F, fn_makeG (T := T_need_text) (G := G_need_text opsX) (c := c_need_text) (k := 0) (hd X G c) F sc_need_text rfl rfl rfl rfl rfl rfl .nil .nil ck_need_text⟩
theorem fx_need_text (X : K.In h) (G : h.Ns mainGlobals mg) (c : He.SaysX faL fnL tsL [] exB w h K) : FnF P w K mg base 1 "need_text" (F_need_text opsX) := by
  obtain ⟨fd, F, g⟩ := fg_need_text (P := P) (base := base) X G c
  exact fn_make (c := c_need_text) (G := G_need_text opsX) F rfl g (glo X G c (by decide +kernel)) (F.bindsN fun _ _ _ _ _ _ us hl => match us, hl with | [_], _ => rfl)
theorem fg_parsed_step (X : K.In h) (G : h.Ns mainGlobals mg) (c : He.SaysX faL fnL tsL [] exB w h K) : ∃ fd, FunD K "parsed_step" "parsed_step" (defArgs s_parsed_step) (defBody s_parsed_step) (defScope s_parsed_step) [] [] (He.ga K "parsed_step") fd ∧ FnG P w K mg base 5 (He.ga K "parsed_step") fd ["words"] (F_parsed_step opsX) := by
  obtain ⟨fd, F⟩ := c.t.d.def_ 9 (d := d_parsed_step) rfl
  exact ⟨fd, F, fn_makeG (T := T_parsed_step) (G := G_parsed_step opsX) (c := c_parsed_step) (k := 4) (hd X G c) F sc_parsed_step rfl rfl rfl rfl rfl rfl (.cons (fx_parsed_integer X G c) (by decide) (.cons (fx_is_well_formed X G c) (by decide) .nil)) (.cons (gl_STEP_ITEMS X G c) .nil) ck_parsed_step⟩
theorem fx_parsed_step (X : K.In h) (G : h.Ns mainGlobals mg) (c : He.SaysX faL fnL tsL [] exB w h K) : FnF P w K mg base 5 "parsed_step" (F_parsed_step opsX) := by
  obtain ⟨fd, F, g⟩ := fg_parsed_step (P := P) (base := base) X G c
  exact fn_make (c := c_parsed_step) (G := G_parsed_step opsX) F rfl g (glo X G c (by decide +kernel)) (F.bindsN fun _ _ _ _ _ _ us hl => match us, hl with | [_], _ => rfl)
theorem fg_read_steps (X : K.In h) (G : h.Ns mainGlobals mg) (c : He.SaysX faL fnL tsL [] exB w h K) : ∃ fd, FunD K "read_steps" "read_steps" (defArgs s_read_steps) (defBody s_read_steps) (defScope s_read_steps) [] [] (He.ga K "read_steps") fd ∧ FnG P w K mg base 6 (He.ga K "read_steps") fd ["text"] (F_read_steps opsX) := by
  obtain ⟨fd, F⟩ := c.t.d.def_ 10 (d := d_read_steps) rfl
  exact ⟨fd, F, fn_makeG (T := T_read_steps) (G := G_read_steps opsX) (c := c_read_steps) (k := 5) (hd X G c) F sc_read_steps rfl rfl rfl rfl rfl rfl (.cons (fx_need_text X G c) (by decide) (.cons (fx_parsed_step X G c) (by decide) .nil)) .nil ck_read_steps⟩
theorem fx_read_steps (X : K.In h) (G : h.Ns mainGlobals mg) (c : He.SaysX faL fnL tsL [] exB w h K) : FnF P w K mg base 6 "read_steps" (F_read_steps opsX) := by
  obtain ⟨fd, F, g⟩ := fg_read_steps (P := P) (base := base) X G c
  exact fn_make (c := c_read_steps) (G := G_read_steps opsX) F rfl g (glo X G c (by decide +kernel)) (F.bindsN fun _ _ _ _ _ _ us hl => match us, hl with | [_], _ => rfl)
theorem kx_read_steps (X : K.In h) (G : h.Ns mainGlobals mg) (c : He.SaysX faL fnL tsL [] exB w h K) : KwF P w K mg base 6 "read_steps" "text" (F_read_steps opsX) := by
  obtain ⟨fd, F, g⟩ := fg_read_steps (P := P) (base := base) X G c
  exact kw_make (c := c_read_steps) (G := G_read_steps opsX) F rfl g (glo X G c (by decide +kernel)) (fun _ _ _ _ _ _ _ => by rfl)
theorem fg__law_begun (X : K.In h) (G : h.Ns mainGlobals mg) (c : He.SaysX faL fnL tsL [] exB w h K) : ∃ fd, FunD K "_law_begun" "_law_begun" (defArgs s__law_begun) (defBody s__law_begun) (defScope s__law_begun) [] [] (He.ga K "_law_begun") fd ∧ FnG P w K mg base 1 (He.ga K "_law_begun") fd ["_law_script"] (F__law_begun opsX) := by
  obtain ⟨fd, F⟩ := c.t.d.def_ 11 (d := d__law_begun) rfl
  exact ⟨fd, F, fn_makeG (T := T__law_begun) (G := G__law_begun opsX) (c := c__law_begun) (k := 0) (hd X G c) F sc__law_begun rfl rfl rfl rfl rfl rfl .nil .nil ck__law_begun⟩
theorem fx__law_begun (X : K.In h) (G : h.Ns mainGlobals mg) (c : He.SaysX faL fnL tsL [] exB w h K) : FnF P w K mg base 1 "_law_begun" (F__law_begun opsX) := by
  obtain ⟨fd, F, g⟩ := fg__law_begun (P := P) (base := base) X G c
  exact fn_make (c := c__law_begun) (G := G__law_begun opsX) F rfl g (glo X G c (by decide +kernel)) (F.bindsN fun _ _ _ _ _ _ us hl => match us, hl with | [_], _ => rfl)
theorem fg__law_draw (X : K.In h) (G : h.Ns mainGlobals mg) (c : He.SaysX faL fnL tsL [] exB w h K) : ∃ fd, FunD K "_law_draw" "_law_draw" (defArgs s__law_draw) (defBody s__law_draw) (defScope s__law_draw) [] [] (He.ga K "_law_draw") fd ∧ FnG P w K mg base 1 (He.ga K "_law_draw") fd ["_law_m", "_law_many"] (F__law_draw opsX) := by
  obtain ⟨fd, F⟩ := c.t.d.def_ 12 (d := d__law_draw) rfl
  exact ⟨fd, F, fn_makeG (T := T__law_draw) (G := G__law_draw opsX) (c := c__law_draw) (k := 0) (hd X G c) F sc__law_draw rfl rfl rfl rfl rfl rfl .nil .nil ck__law_draw⟩
theorem fx__law_draw (X : K.In h) (G : h.Ns mainGlobals mg) (c : He.SaysX faL fnL tsL [] exB w h K) : FnF P w K mg base 1 "_law_draw" (F__law_draw opsX) := by
  obtain ⟨fd, F, g⟩ := fg__law_draw (P := P) (base := base) X G c
  exact fn_make (c := c__law_draw) (G := G__law_draw opsX) F rfl g (glo X G c (by decide +kernel)) (F.bindsN fun _ _ _ _ _ _ us hl => match us, hl with | [_, _], _ => rfl)
theorem fg__law_name (X : K.In h) (G : h.Ns mainGlobals mg) (c : He.SaysX faL fnL tsL [] exB w h K) : ∃ fd, FunD K "_law_name" "_law_name" (defArgs s__law_name) (defBody s__law_name) (defScope s__law_name) [] [] (He.ga K "_law_name") fd ∧ FnG P w K mg base 2 (He.ga K "_law_name") fd ["_law_m"] (F__law_name opsX) := by
  obtain ⟨fd, F⟩ := c.t.d.def_ 13 (d := d__law_name) rfl
  exact ⟨fd, F, fn_makeG (T := T__law_name) (G := G__law_name opsX) (c := c__law_name) (k := 1) (hd X G c) F sc__law_name rfl rfl rfl rfl rfl rfl (.cons (fx__law_draw X G c) (by decide) .nil) .nil ck__law_name⟩
theorem fx__law_name (X : K.In h) (G : h.Ns mainGlobals mg) (c : He.SaysX faL fnL tsL [] exB w h K) : FnF P w K mg base 2 "_law_name" (F__law_name opsX) := by
  obtain ⟨fd, F, g⟩ := fg__law_name (P := P) (base := base) X G c
  exact fn_make (c := c__law_name) (G := G__law_name opsX) F rfl g (glo X G c (by decide +kernel)) (F.bindsN fun _ _ _ _ _ _ us hl => match us, hl with | [_], _ => rfl)
theorem fg__law_end (X : K.In h) (G : h.Ns mainGlobals mg) (c : He.SaysX faL fnL tsL [] exB w h K) : ∃ fd, FunD K "_law_end" "_law_end" (defArgs s__law_end) (defBody s__law_end) (defScope s__law_end) [] [] (He.ga K "_law_end") fd ∧ FnG P w K mg base 3 (He.ga K "_law_end") fd ["_law_m"] (F__law_end opsX) := by
  obtain ⟨fd, F⟩ := c.t.d.def_ 14 (d := d__law_end) rfl
  exact ⟨fd, F, fn_makeG (T := T__law_end) (G := G__law_end opsX) (c := c__law_end) (k := 2) (hd X G c) F sc__law_end rfl rfl rfl rfl rfl rfl (.cons (fx__law_name X G c) (by decide) (.cons (fx__law_draw X G c) (by decide) .nil)) .nil ck__law_end⟩
theorem fx__law_end (X : K.In h) (G : h.Ns mainGlobals mg) (c : He.SaysX faL fnL tsL [] exB w h K) : FnF P w K mg base 3 "_law_end" (F__law_end opsX) := by
  obtain ⟨fd, F, g⟩ := fg__law_end (P := P) (base := base) X G c
  exact fn_make (c := c__law_end) (G := G__law_end opsX) F rfl g (glo X G c (by decide +kernel)) (F.bindsN fun _ _ _ _ _ _ us hl => match us, hl with | [_], _ => rfl)
theorem fg__law_step (X : K.In h) (G : h.Ns mainGlobals mg) (c : He.SaysX faL fnL tsL [] exB w h K) : ∃ fd, FunD K "_law_step" "_law_step" (defArgs s__law_step) (defBody s__law_step) (defScope s__law_step) [] [] (He.ga K "_law_step") fd ∧ FnG P w K mg base 4 (He.ga K "_law_step") fd ["_law_m"] (F__law_step opsX) := by
  obtain ⟨fd, F⟩ := c.t.d.def_ 15 (d := d__law_step) rfl
  exact ⟨fd, F, fn_makeG (T := T__law_step) (G := G__law_step opsX) (c := c__law_step) (k := 3) (hd X G c) F sc__law_step rfl rfl rfl rfl rfl rfl (.cons (fx__law_name X G c) (by decide) (.cons (fx__law_draw X G c) (by decide) (.cons (fx__law_end X G c) (by decide) .nil))) .nil ck__law_step⟩
theorem fx__law_step (X : K.In h) (G : h.Ns mainGlobals mg) (c : He.SaysX faL fnL tsL [] exB w h K) : FnF P w K mg base 4 "_law_step" (F__law_step opsX) := by
  obtain ⟨fd, F, g⟩ := fg__law_step (P := P) (base := base) X G c
  exact fn_make (c := c__law_step) (G := G__law_step opsX) F rfl g (glo X G c (by decide +kernel)) (F.bindsN fun _ _ _ _ _ _ us hl => match us, hl with | [_], _ => rfl)
theorem fg__law_bent (X : K.In h) (G : h.Ns mainGlobals mg) (c : He.SaysX faL fnL tsL [] exB w h K) : ∃ fd, FunD K "_law_bent" "_law_bent" (defArgs s__law_bent) (defBody s__law_bent) (defScope s__law_bent) [] [] (He.ga K "_law_bent") fd ∧ FnG P w K mg base 2 (He.ga K "_law_bent") fd ["_law_m", "_law_step_here"] (F__law_bent opsX) := by
  obtain ⟨fd, F⟩ := c.t.d.def_ 16 (d := d__law_bent) rfl
  exact ⟨fd, F, fn_makeG (T := T__law_bent) (G := G__law_bent opsX) (c := c__law_bent) (k := 1) (hd X G c) F sc__law_bent rfl rfl rfl rfl rfl rfl (.cons (fx__law_draw X G c) (by decide) .nil) .nil ck__law_bent⟩
theorem fx__law_bent (X : K.In h) (G : h.Ns mainGlobals mg) (c : He.SaysX faL fnL tsL [] exB w h K) : FnF P w K mg base 2 "_law_bent" (F__law_bent opsX) := by
  obtain ⟨fd, F, g⟩ := fg__law_bent (P := P) (base := base) X G c
  exact fn_make (c := c__law_bent) (G := G__law_bent opsX) F rfl g (glo X G c (by decide +kernel)) (F.bindsN fun _ _ _ _ _ _ us hl => match us, hl with | [_, _], _ => rfl)
theorem fg__law_is_name (X : K.In h) (G : h.Ns mainGlobals mg) (c : He.SaysX faL fnL tsL [] exB w h K) : ∃ fd, FunD K "_law_is_name" "_law_is_name" (defArgs s__law_is_name) (defBody s__law_is_name) (defScope s__law_is_name) [] [] (He.ga K "_law_is_name") fd ∧ FnG P w K mg base 1 (He.ga K "_law_is_name") fd ["_law_item"] (F__law_is_name opsX) := by
  obtain ⟨fd, F⟩ := c.t.d.def_ 17 (d := d__law_is_name) rfl
  exact ⟨fd, F, fn_makeG (T := T__law_is_name) (G := G__law_is_name opsX) (c := c__law_is_name) (k := 0) (hd X G c) F sc__law_is_name rfl rfl rfl rfl rfl rfl .nil .nil ck__law_is_name⟩
theorem fx__law_is_name (X : K.In h) (G : h.Ns mainGlobals mg) (c : He.SaysX faL fnL tsL [] exB w h K) : FnF P w K mg base 1 "_law_is_name" (F__law_is_name opsX) := by
  obtain ⟨fd, F, g⟩ := fg__law_is_name (P := P) (base := base) X G c
  exact fn_make (c := c__law_is_name) (G := G__law_is_name opsX) F rfl g (glo X G c (by decide +kernel)) (F.bindsN fun _ _ _ _ _ _ us hl => match us, hl with | [_], _ => rfl)
theorem fg__law_is_mode (X : K.In h) (G : h.Ns mainGlobals mg) (c : He.SaysX faL fnL tsL [] exB w h K) : ∃ fd, FunD K "_law_is_mode" "_law_is_mode" (defArgs s__law_is_mode) (defBody s__law_is_mode) (defScope s__law_is_mode) [] [] (He.ga K "_law_is_mode") fd ∧ FnG P w K mg base 1 (He.ga K "_law_is_mode") fd ["_law_item"] (F__law_is_mode opsX) := by
  obtain ⟨fd, F⟩ := c.t.d.def_ 18 (d := d__law_is_mode) rfl
  exact ⟨fd, F, fn_makeG (T := T__law_is_mode) (G := G__law_is_mode opsX) (c := c__law_is_mode) (k := 0) (hd X G c) F sc__law_is_mode rfl rfl rfl rfl rfl rfl .nil .nil ck__law_is_mode⟩
theorem fx__law_is_mode (X : K.In h) (G : h.Ns mainGlobals mg) (c : He.SaysX faL fnL tsL [] exB w h K) : FnF P w K mg base 1 "_law_is_mode" (F__law_is_mode opsX) := by
  obtain ⟨fd, F, g⟩ := fg__law_is_mode (P := P) (base := base) X G c
  exact fn_make (c := c__law_is_mode) (G := G__law_is_mode opsX) F rfl g (glo X G c (by decide +kernel)) (F.bindsN fun _ _ _ _ _ _ us hl => match us, hl with | [_], _ => rfl)
theorem fg__law_is_end (X : K.In h) (G : h.Ns mainGlobals mg) (c : He.SaysX faL fnL tsL [] exB w h K) : ∃ fd, FunD K "_law_is_end" "_law_is_end" (defArgs s__law_is_end) (defBody s__law_is_end) (defScope s__law_is_end) [] [] (He.ga K "_law_is_end") fd ∧ FnG P w K mg base 2 (He.ga K "_law_is_end") fd ["_law_item"] (F__law_is_end opsX) := by
  obtain ⟨fd, F⟩ := c.t.d.def_ 19 (d := d__law_is_end) rfl
  exact ⟨fd, F, fn_makeG (T := T__law_is_end) (G := G__law_is_end opsX) (c := c__law_is_end) (k := 1) (hd X G c) F sc__law_is_end rfl rfl rfl rfl rfl rfl (.cons (fx__law_is_name X G c) (by decide) .nil) .nil ck__law_is_end⟩
theorem fx__law_is_end (X : K.In h) (G : h.Ns mainGlobals mg) (c : He.SaysX faL fnL tsL [] exB w h K) : FnF P w K mg base 2 "_law_is_end" (F__law_is_end opsX) := by
  obtain ⟨fd, F, g⟩ := fg__law_is_end (P := P) (base := base) X G c
  exact fn_make (c := c__law_is_end) (G := G__law_is_end opsX) F rfl g (glo X G c (by decide +kernel)) (F.bindsN fun _ _ _ _ _ _ us hl => match us, hl with | [_], _ => rfl)
theorem fg__law_is_well_formed (X : K.In h) (G : h.Ns mainGlobals mg) (c : He.SaysX faL fnL tsL [] exB w h K) : ∃ fd, FunD K "_law_is_well_formed" "_law_is_well_formed" (defArgs s__law_is_well_formed) (defBody s__law_is_well_formed) (defScope s__law_is_well_formed) [] [] (He.ga K "_law_is_well_formed") fd ∧ FnG P w K mg base 3 (He.ga K "_law_is_well_formed") fd ["_law_step_here"] (F__law_is_well_formed opsX) := by
  obtain ⟨fd, F⟩ := c.t.d.def_ 20 (d := d__law_is_well_formed) rfl
  exact ⟨fd, F, fn_makeG (T := T__law_is_well_formed) (G := G__law_is_well_formed opsX) (c := c__law_is_well_formed) (k := 2) (hd X G c) F sc__law_is_well_formed rfl rfl rfl rfl rfl rfl (.cons (fx__law_is_name X G c) (by decide) (.cons (fx__law_is_mode X G c) (by decide) (.cons (fx__law_is_end X G c) (by decide) .nil))) .nil ck__law_is_well_formed⟩
theorem fx__law_is_well_formed (X : K.In h) (G : h.Ns mainGlobals mg) (c : He.SaysX faL fnL tsL [] exB w h K) : FnF P w K mg base 3 "_law_is_well_formed" (F__law_is_well_formed opsX) := by
  obtain ⟨fd, F, g⟩ := fg__law_is_well_formed (P := P) (base := base) X G c
  exact fn_make (c := c__law_is_well_formed) (G := G__law_is_well_formed opsX) F rfl g (glo X G c (by decide +kernel)) (F.bindsN fun _ _ _ _ _ _ us hl => match us, hl with | [_], _ => rfl)
theorem sx__law_said (X : K.In h) (G : h.Ns mainGlobals mg) (c : He.SaysX faL fnL tsL [] exB w h K) (k : Nat) : SdF P w K mg base k "_law_said" (F__law_said opsX) := by
  obtain ⟨fd, F⟩ := c.t.d.def_ 21 (d := d__law_said) rfl
  exact sd_make (T := T__law_said) (G := G__law_said opsX) (c := c__law_said) (hd X G c) F sc__law_said rfl rfl rfl rfl rfl rfl rfl rfl rfl rfl (glo X G c (by decide +kernel)) rfl (by decide +kernel) (by decide +kernel) (F.bindsN fun _ _ _ _ _ _ us hl => match us, hl with | [_], _ => rfl) ck__law_said
theorem fg__law_errors_right (X : K.In h) (G : h.Ns mainGlobals mg) (c : He.SaysX faL fnL tsL [] exB w h K) (Xb : K.In base) (Gb : base.Ns mainGlobals mg) (TB : ∀ c P, PySem.W.tabIn K "_law_errors_right" = some (c, P) → LamX.TabB base mg c P) : ∃ fd, FunD K "_law_errors_right" "_law_errors_right" (defArgs s__law_errors_right) (defBody s__law_errors_right) (defScope s__law_errors_right) [] [] (He.ga K "_law_errors_right") fd ∧ FnG P w K mg base 9 (He.ga K "_law_errors_right") fd ["_law_m", "_law_rows"] (F__law_errors_right opsX) := by
  obtain ⟨fd, F⟩ := c.t.d.def_ 22 (d := d__law_errors_right) rfl
  exact ⟨fd, F, fn_makeS (T := T__law_errors_right) (G := G__law_errors_right opsX) (c := c__law_errors_right) (k := 6) (hd X G c) F sc__law_errors_right rfl rfl rfl rfl rfl rfl (.cons (fx__law_draw X G c) (by decide) (.cons (fx__law_bent X G c) (by decide) (.cons (fx__law_is_well_formed X G c) (by decide) (.cons (fx_steps_text X G c) (by decide) (.cons (fx_read_steps X G c) (by decide) .nil))))) .nil (fun i x a hh => by simp [T__law_errors_right] at hh) (fun i x hh => by
    have hh : (i = 0 ∧ x = "_law_said") := by simpa [T__law_errors_right] using hh
    obtain ⟨rfl, rfl⟩ := hh
    exact ⟨_, rfl, sx__law_said X G c _⟩) rfl Xb Gb (glo X G c (by decide +kernel)) (fun _ => TB) ck__law_errors_right⟩
theorem fx__law_errors_right (X : K.In h) (G : h.Ns mainGlobals mg) (c : He.SaysX faL fnL tsL [] exB w h K) (Xb : K.In base) (Gb : base.Ns mainGlobals mg) (TB : ∀ c P, PySem.W.tabIn K "_law_errors_right" = some (c, P) → LamX.TabB base mg c P) : FnF P w K mg base 9 "_law_errors_right" (F__law_errors_right opsX) := by
  obtain ⟨fd, F, g⟩ := fg__law_errors_right (P := P) (base := base) X G c Xb Gb TB
  exact fn_make (c := c__law_errors_right) (G := G__law_errors_right opsX) F rfl g (glo X G c (by decide +kernel)) (F.bindsN fun _ _ _ _ _ _ us hl => match us, hl with | [_, _], _ => rfl)
theorem fg_law (X : K.In h) (G : h.Ns mainGlobals mg) (c : He.SaysX faL fnL tsL [] exB w h K) (Xb : K.In base) (Gb : base.Ns mainGlobals mg) (TB : ∀ c P, PySem.W.tabIn K "_law_errors_right" = some (c, P) → LamX.TabB base mg c P) : ∃ fd, FunD K "law" "law" (defArgs s_law) (defBody s_law) (defScope s_law) [] [] (He.ga K "law") fd ∧ FnG P w K mg base 12 (He.ga K "law") fd ["_law_script"] (F_law opsX) := by
  obtain ⟨fd, F⟩ := c.t.d.def_ 23 (d := d_law) rfl
  exact ⟨fd, F, fn_makeS (T := T_law) (G := G_law opsX) (c := c_law) (k := 9) (hd X G c) F sc_law rfl rfl rfl rfl rfl rfl (.cons (fx__law_begun X G c) (by decide) (.cons (fx__law_draw X G c) (by decide) (.cons (fx__law_step X G c) (by decide) (.cons (fx_steps_text X G c) (by decide) (.cons (fx_read_steps X G c) (by decide) (.cons (fx__law_errors_right X G c Xb Gb TB) (by decide) .nil)))))) .nil (fun i x a hh => by
    have hh : (i = 3 ∧ x = "steps_text" ∧ a = "steps") ∨ (i = 4 ∧ x = "read_steps" ∧ a = "text") := by simpa [T_law] using hh
    rcases hh with ⟨rfl, rfl, rfl⟩ | ⟨rfl, rfl, rfl⟩
    · exact ⟨_, _, rfl, by decide, kx_steps_text X G c⟩
    · exact ⟨_, _, rfl, by decide, kx_read_steps X G c⟩) (fun i x hh => by simp [T_law] at hh) rfl Xb Gb (glo X G c (by decide +kernel)) (fun z => absurd rfl z) ck_law⟩
theorem fx_law (X : K.In h) (G : h.Ns mainGlobals mg) (c : He.SaysX faL fnL tsL [] exB w h K) (Xb : K.In base) (Gb : base.Ns mainGlobals mg) (TB : ∀ c P, PySem.W.tabIn K "_law_errors_right" = some (c, P) → LamX.TabB base mg c P) : FnF P w K mg base 12 "law" (F_law opsX) := by
  obtain ⟨fd, F, g⟩ := fg_law (P := P) (base := base) X G c Xb Gb TB
  exact fn_make (c := c_law) (G := G_law opsX) F rfl g (glo X G c (by decide +kernel)) (F.bindsN fun _ _ _ _ _ _ us hl => match us, hl with | [_], _ => rfl)
end
--THEEND spiderwires_k65_step_texts 42 12 _law_script
end Ev
open PySem PySem.W PySem.Calls PyProof.Rows
set_option maxRecDepth 100000 in
set_option maxHeartbeats 0 in
theorem PySem.Challenge.cw_spiderwires_k65_step_texts_holds : PySem.Challenge.rw_spiderwires_k65_step_texts.Holds := by
  w_on; o_law
  refine HandSHeadRun.head_any (r := OpenLaw.row PySem.Challenge.rw_spiderwires_k65_step_texts) (q := view (PySem.W.OpenLaw.row PySem.Challenge.rw_spiderwires_k65_step_texts).prog [41, 42]) (H := Ev.hk) (ob := Ev.ob) (M := 20000) (loose := Ev.loose) (d := HandSHeadRun.topDef (PySem.W.OpenLaw.row PySem.Challenge.rw_spiderwires_k65_step_texts).prog 42) (kwd := []) Ev.ob_eq
    (by kernel_rfl) (fun s => by kernel_rfl) Ev.run (by kernel_rfl) (by kernel_rfl) (by kernel_rfl) (by rfl) (by first | assumption | decide +kernel) (by decide +kernel) ⟨rfl, rfl, rfl, rfl, rfl, by decide +kernel⟩ ?hw ?hc
  case hw => w_witness2
  case hc =>
    refine Ev.walk_ofGT (dE := HandSHeadRun.topDef (PySem.W.OpenLaw.row PySem.Challenge.rw_spiderwires_k65_step_texts).prog 41) (l := PySem.Challenge.rw_spiderwires_k65_step_texts) (n := 63) (k := 12) (x := "_law_script") [95, 108, 97, 119, 95, 101, 114, 114, 111, 114, 115, 95, 114, 105, 103, 104, 116] rfl (by decide) (by kernel_rfl) ⟨rfl, by decide, by decide⟩ (by kernel_rfl) ?F
    intro w mg fa h Y G hmg0
    obtain ⟨K, KX, c⟩ := Y
    have hmg : mg ("law" : PySem.Str) = some (.ref fa) := by
      have e : (HandSHeadRun.topDef (PySem.W.OpenLaw.row PySem.Challenge.rw_spiderwires_k65_step_texts).prog 42).name = ("law" : PySem.Str) := by kernel_rfl
      rw [← e]
      exact hmg0
    have e := hmg.symm.trans (Ev.glo KX G c (x := "law") (by decide +kernel))
    cases e
    obtain ⟨fd, F⟩ := c.t.d.def_ 23 (d := Ev.d_law) rfl
    refine ⟨K, fd, Ev.F_law Ev.opsX, KX, (have z := Ev.exB_all c.more; z.1), fun s u => L2.FunD.bindsA (ps := ["_law_script"]) F (fun _ _ _ _ _ _ us hl => match us, hl with | [_], _ => rfl) s [u] rfl, fun ns hn => Ev.F_law_ok Ev.opsX ns (Nat.le_trans hn (by decide)), fun base Xb Gb TB => ?_⟩
    obtain ⟨fd2, F2, g⟩ := Ev.fg_law (P := (PySem.Challenge.rw_spiderwires_k65_step_texts).prog) (base := base) KX G c Xb Gb TB
    have ef := Ev.fd_same F F2
    rw [ef]; exact g
end
