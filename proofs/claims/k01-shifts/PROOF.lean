import PyProof.Rows.All
import Wide.All
import OpenK.AllK
import Wide.FinOn
import HandS.ForMost
import HandS.ForExc
import HandS.Flow
import HandS.Wide
import HandS.WideBits
import HandS.TupAny
import HandS.Conv
import HandS.IsInst
import HandS.HeadHook2
import HandS.CallSlots
import HandS.FStr
import HandS.Iter
import HandS.Text
import PyProof.StrBlock2
import HandS.ExcIs
import HandS.ExcField
import HandS.ExcCtx
import KE.KTupSum
import HandS.HotCalls
import HandS.Property
import PyProof.InstEq
import KE.KOpsOwn
import HandS.ExcInit
import KE.KExcSuper
import HandS.Nested
import HandS.HeadEnd
import HandS.Words
import KE.KBits
import KE.BitLaws
import KE.OsArith
import KE.IntBitsLaws
import HandS.Head0
import HandS.Head1
import HandS.Head2
import KE.KStateDown
import Lean
import PySem.Challenge.RW_wirewatch_k01_words_shift
section
set_option Elab.async false
set_option linter.all false
set_option maxRecDepth 100000
/-! A small machine of my own: values D, objects O, the program's text as E and S, what it does. -/
namespace Ip
open PySem L2
/-- values: what never changes is written out, what may change stands at a place of the heap -/
inductive D where
  | non | bl (b : Bool) | int (i : Int) | str (s : Str) | tup (l : List D) | rol (l : List D) | ref (a : Nat) | cls (c : Str) | ty (n : String)
  /-- the error that is handled: where it stands, its class, its fields -/
  | exn (a dd : Nat) (c : Str) (ns : List Str) (ds : List D)
/-- objects that may change -/
inductive O where
  | lst (l : List D) | ins (c : Str) (fs : List (Str × D)) | dK (kvs : List (Key × D)) | dT (kvs : List (List Key × D))
abbrev Hs := List O
abbrev Sl := List (Option D)
inductive R (α : Type) where
  | ok (a : α) (h : Hs) | exc (c : Str) (fs : Option (List (Str × D))) (h : Hs) | bad
abbrev M (α : Type) := Hs → R α
def ret {α : Type} (a : α) : M α := fun h => .ok a h
def fail {α : Type} : M α := fun _ => .bad
def bnd {α β : Type} (m : M α) (f : α → M β) : M β := fun h => match m h with
  | .ok a h' => f a h'
  | .exc c fs h' => .exc c fs h'
  | .bad => .bad
def ofO {α : Type} : Option α → M α
  | some a => ret a
  | none => fail
def chk (b : Bool) : M Unit := if b then ret () else fail
def getH : M Hs := fun h => .ok h h
def alloc (o : O) : M D := fun h => .ok (.ref h.length) (h ++ [o])
def setO (a : Nat) (o : O) : M Unit := fun h => .ok () (h.set a o)
def newL (l : List D) : M D := if l.length ≤ sizeLine then alloc (.lst l) else fail
def newT (l : List D) : M D := if l.length ≤ sizeLine then ret (.tup l) else fail
/-! ### the text -/
abbrev FKey := Str × Option Str
inductive Bi where
  | len | int | str | tuple | list | abs | max | min | sum | all | any | isi
  deriving DecidableEq
inductive Bm where
  | append | pop
  deriving DecidableEq
/-- what a for, an assignment stores to: names, tuples of them -/
inductive Pt where
  | name (i : Nat)
  | tup (ts : List Pt)
mutual
inductive E where
  | non | bl (b : Bool) | int (i : Int) | str (s : Str)
  | var (i : Nat)
  | glob (x : Str)
  | bty (n : String)
  | bin (o : Operator) (a b : E)
  | un (o : UnaryOp) (a : E)
  | not (a : E)
  | and (a b : E)
  | or (a b : E)
  | cmp (o : CmpOp) (a b : E)
  | cmp2 (o p : CmpOp) (a b c : E)
  | ife (t a b : E)
  | tup (es : List E)
  | lst (es : List E)
  | idx (a i : E)
  | sl (a : E) (lo hi : Option E)
  | attr (a : E) (f : Str)
  | call (f : Str) (es : List E)
  | make (c : Str) (es : List E)
  | meth (o : E) (m : Str) (es : List E)
  | bi (f : Bi) (es : List E)
  | bm (o : E) (m : Bm) (es : List E)
  | fmt (e : E)
  | fstr (es : List E)
  | lc (e : E) (t : Pt) (own : List Nat) (it : It) (ifs : List E)
inductive It where
  | e (e : E)
  | rng (es : List E)
end
mutual
inductive S where
  | expr (e : E)
  | ret (e : E)
  | retN
  | pass
  | brk
  | cont
  | asg (t : Pt) (e : E)
  | sub (o i e : E)
  | fld (o : E) (f : Str) (e : E)
  | aug (i : Nat) (o : Operator) (e : E)
  | iff (c : E) (a b : List S)
  | for_ (t : Pt) (it : It) (b : List S)
  | whl (c : E) (b : List S)
  | raise (c : Str) (es : List E)
  | try_ (b : List S) (hs : Hd)
/-- except clauses -/
inductive Hd where
  | nil
  | cons (x : Str) (o : Option Nat) (b : List S) (r : Hd)
end
structure Fn where
  params : List Str
  names : List Str
  body : List S
/-! ### data compared -/
def mapO (f : D → Option PyData) : List D → Option (List PyData)
  | [] => some []
  | d :: r => match f d, mapO f r with
    | some p, some ps => some (p :: ps)
    | _, _ => none
def toPy (h : Hs) : Nat → D → Option PyData
  | 0, _ => none
  | _ + 1, .non => some .none
  | _ + 1, .bl b => some (.bool b)
  | _ + 1, .int i => some (.int i)
  | _ + 1, .str s => some (.str s)
  | n + 1, .tup l => (mapO (toPy h n) l).map .tuple
  | n + 1, .rol l => (mapO (toPy h n) l).map .list
  | n + 1, .ref a => match h[a]? with
    | some (.lst l) => (mapO (toPy h n) l).map .list
    | _ => none
  | _ + 1, _ => none
def pyOf (h : Hs) (d : D) : Option PyData := match toPy h 66 d with
  | some p => if SeqAt.shaped p then some p else none
  | none => none
def seqOf (h : Hs) : D → Option (List D)
  | .tup l => some l
  | .rol l => some l
  | .ref a => match h[a]? with
    | some (.lst l) => some l
    | _ => none
  | _ => none
def truthD (h : Hs) : D → Option Bool
  | .non => some false
  | .bl b => some b
  | .int i => some (i != 0)
  | .str s => if s.length ≤ sizeLine then some ((s.length : Int) != 0) else none
  | .tup l => some !l.isEmpty
  | .rol l => some !l.isEmpty
  | .ref a => match h[a]? with
    | some (.lst l) => some !l.isEmpty
    | some (.dK l) => some !l.isEmpty
    | _ => none
  | _ => none
/-! ### operators -/
def binI (o : Operator) (i j : Int) : Option Int := match o with
  | .Add => some (i + j)
  | .Sub => some (i - j)
  | .Mult => if i.natAbs.log2 + j.natAbs.log2 < 1000000 then some (i * j) else if (decide (-(2 ^ 64) < i) && decide (i < 2 ^ 64)) || (decide (-(2 ^ 64) < j) && decide (j < 2 ^ 64)) then some (i * j) else none
  | .FloorDiv => if decide (0 < j) && decide (j.natAbs.log2 < 9000) then some (i / j) else none
  | .Mod => if decide (0 < j) then some (i % j) else none
  | .Pow => if decide (0 ≤ j) && decide (j ≤ 1000000) && decide (i.natAbs < 2 ^ 64) then some (i ^ j.toNat) else none
  | .LShift => if decide (0 ≤ j) && decide ((Builtin.Int.intBits i : Int) + j ≤ 2 ^ 27) then some (i * 2 ^ j.toNat) else none
  | .RShift => if decide (0 ≤ j) then some (i / 2 ^ j.toNat) else none
  | .BitAnd => some (Builtin.bitAnd i j)
  | .BitOr => some (Builtin.bitOr i j)
  | .BitXor => some (Builtin.bitXor i j)
  | _ => none
structure G where
  cf : FKey → List D → M D
  cm : FKey → List D → M D
  gl : Str → Option D
  fld : Str → Str → Bool
  mth : Str → Str → Bool
  opo : Str → Operator → Bool
  opi : Str → Operator → Bool
  opu : Str → Bool
  eqo : Str → D → Bool
  isi : D → D → Option Bool
  ist : Str → Bool
  xc : Str → Option (List Str × E)
  hx : Option (Nat × Nat × Str)
  xfd : Str → Str → Bool
  xiz : Str → Bool
  prp : Str → Str → Bool
  exm : Str → Str → Option Bool
  ch : Option (Nat × Nat × Str) → FKey → List D → M D
  fuel : Nat
  hot : Bool
def binop (g : G) (o : Operator) (x y : D) : M D := match x, y with
  | .int i, .int j => match binI o i j with
    | some k => ret (.int k)
    | none => fail
  | .str a, .str b => match o with
    | .Add => if a.length + b.length ≤ sizeLine then ret (.str (a ++ b)) else fail
    | _ => fail
  | .str a, .int k => match o with
    | .Mult => if decide (0 < k) && decide (k ≤ 1000000) && decide (a.length * k.toNat ≤ sizeLine) then ret (.str (Txt.mul a k)) else fail
    | _ => fail
  | .tup a, .tup b => match o with
    | .Add => if a.length + b.length ≤ sizeLine then ret (.tup (a ++ b)) else fail
    | _ => fail
  | .ref a, .ref b => fun h => match o, h[a]?, h[b]? with
    | .Add, some (.lst l), some (.lst m) => if l.length + m.length ≤ sizeLine then alloc (.lst (l ++ m)) h else .bad
    | _, _, _ => .bad
  | .ref a, .int k => fun h => match o, h[a]? with
    | .Mult, some (.lst l) => if decide (-(2 ^ 63) ≤ k) && decide (k < 2 ^ 63) && decide (l.length * k.toNat ≤ sizeLine) then alloc (.lst (List.replicate k.toNat l).flatten) h else .bad
    | _, _ => .bad
  | _, _ => fail
/-- x op= y -/
def augop (o : Operator) (x y : D) : M D := match x, y with
  | .int i, .int j => match o with
    | .Add => ret (.int (i + j))
    | .Sub => ret (.int (i - j))
    | _ => fail
  | .str a, .str b => match o with
    | .Add => if a.length + b.length ≤ sizeLine then ret (.str (a ++ b)) else fail
    | _ => fail
  | _, _ => fail
def unop (o : UnaryOp) (x : D) : M D := match o, x with
  | .USub, .int i => ret (.int (-i))
  | .Invert, .int i => ret (.int (Builtin.bitNot i))
  | _, _ => fail
def flat : D → Bool
  | .non => true
  | .bl _ => true
  | .int _ => true
  | .str _ => true
  | _ => false
def eqF : D → D → Bool
  | .non, .non => true
  | .bl a, .bl b => a == b
  | .bl a, .int b => (if a then 1 else 0) == b
  | .int a, .bl b => a == (if b then 1 else 0)
  | .int a, .int b => a == b
  | .str a, .str b => a == b
  | _, _ => false
def isNon : D → Bool
  | .non => true
  | _ => false
def isBl (b : Bool) : D → Bool
  | .bl c => decide (c = b)
  | _ => false
def inD (h : Hs) (x y : D) : Option Bool := match seqOf h y with
  | some l => if flat x && l.all flat then some (l.any fun z => eqF z x) else none
  | none => none
def cmpB (h : Hs) (o : CmpOp) (x y : D) : Option Bool := match o with
  | .Eq => match pyOf h x, pyOf h y with
    | some p, some q => some (PyData.eqv p q)
    | _, _ => none
  | .NotEq => match pyOf h x, pyOf h y with
    | some p, some q => some (!PyData.eqv p q)
    | _, _ => none
  | .Lt => match x, y with
    | .int i, .int j => some (decide (i < j))
    | .str a, .str b => some (decide (a.cps.toList < b.cps.toList))
    | _, _ => none
  | .LtE => match x, y with
    | .int i, .int j => some (decide (i ≤ j))
    | .str a, .str b => some (!decide (b.cps.toList < a.cps.toList))
    | _, _ => none
  | .Gt => match x, y with
    | .int i, .int j => some (decide (j < i))
    | .str a, .str b => some (decide (b.cps.toList < a.cps.toList))
    | _, _ => none
  | .GtE => match x, y with
    | .int i, .int j => some (decide (j ≤ i))
    | .str a, .str b => some (!decide (a.cps.toList < b.cps.toList))
    | _, _ => none
  | .In => inD h x y
  | .NotIn => (inD h x y).map (!·)
  | .Is => match y with
    | .non => some (isNon x)
    | .bl b => some (isBl b x)
    | _ => none
  | .IsNot => match y with
    | .non => some (!isNon x)
    | .bl b => some (!isBl b x)
    | _ => none
def cmpop (g : G) (o : CmpOp) (x y : D) : M D := fun h => match cmpB h o x y with
  | some b => .ok (.bl b) h
  | none => .bad
def getitem (x i : D) : M D := fun h => match x, i with
  | .str z, .int k => if z.length ≤ sizeLine then (match atI z.cps.toList k with
    | some c => .ok (.str ⟨#[c]⟩) h
    | none => .bad) else .bad
  | x, .int k => (match seqOf h x with
    | some l => (match atI l k with
      | some d => .ok d h
      | none => .bad)
    | none => .bad)
  | _, _ => .bad
def cutD {α : Type} (xs : List α) (lo hi : Option Int) : List α := (xs.drop (HT.sIx xs.length 0 lo)).take (HT.sIx xs.length xs.length hi - HT.sIx xs.length 0 lo)
def slice (x : D) (lo hi : Option Int) : M D := match x with
  | .tup l => ret (.tup (cutD l lo hi))
  | .ref a => fun h => match h[a]? with
    | some (.lst l) => alloc (.lst (cutD l lo hi)) h
    | _ => .bad
  | .str z => if z.length ≤ sizeLine then ret (.str (cutS z lo hi)) else fail
  | _ => fail
def partOf : D → M (Option Int)
  | .int i => ret (some i)
  | _ => fail
def putD (f : Str) (v : D) : List (Str × D) → List (Str × D)
  | [] => [(f, v)]
  | (g, x) :: r => if g = f then (g, v) :: r else (g, x) :: putD f v r
/-- no error may come out -/
def noX {α : Type} : R α → R α
  | .ok a h => .ok a h
  | _ => .bad
def xOk (g : G) (a dd : Nat) (c : Str) : Bool := g.hot && decide (g.hx = some (a, dd, c))
def getattr (g : G) (x : D) (f : Str) : M D := fun h => match x with
  | .exn a dd c ns ds => if xOk g a dd c && g.xfd c f then (match (ns.zip ds).lookup f with
    | some d => .ok d h
    | none => .bad) else .bad
  | .ref a => (match h[a]? with
    | some (.ins c fs) => if g.fld c f then (match fs.lookup f with
      | some d => .ok d h
      | none => .bad) else if !g.hot && g.prp c f then noX (g.cm (c, some f) [.ref a] h) else .bad
    | _ => .bad)
  | _ => .bad
def setattr (g : G) (x : D) (f : Str) (v : D) : M Unit := fun h => match x with
  | .ref a => (match h[a]? with
    | some (.ins c fs) => if g.fld c f && decide (fs.length < 1000) then .ok () (h.set a (.ins c (putD f v fs))) else .bad
    | _ => .bad)
  | _ => .bad
def setitem (x i v : D) : M Unit := fun h => match x, i with
  | .ref a, .int k => (match h[a]? with
    | some (.lst l) => (match ixN l.length k with
      | some j => .ok () (h.set a (.lst (l.set j v)))
      | none => .bad)
    | _ => .bad)
  | _, _ => .bad
def mkI (g : G) (c : Str) (ds : List D) : M D := bnd (alloc (.ins c [])) fun x => bnd (g.cm (c, some "__init__") (x :: ds)) fun r => match r with
  | .non => ret x
  | _ => fail
def methC (g : G) (x : D) (m : Str) : M Str := fun h => match x with
  | .ref a => (match h[a]? with
    | some (.ins c fs) => (match fs.lookup m with
      | none => if g.mth c m then .ok c h else .bad
      | some _ => .bad)
    | _ => .bad)
  | _ => .bad
/-- a list is there -/
def isL (x : D) : M Unit := fun h => match x with
  | .ref a => (match h[a]? with
    | some (.lst _) => .ok () h
    | _ => .bad)
  | _ => .bad
def intsD : List D → Option (List Int)
  | [] => some []
  | .int i :: r => (intsD r).map (i :: ·)
  | _ :: _ => none
def boolsD : List D → Option (List Bool)
  | [] => some []
  | .bl i :: r => (boolsD r).map (i :: ·)
  | _ :: _ => none
def lenOf (h : Hs) : D → Option Nat
  | .str z => if z.length ≤ sizeLine then some z.length else none
  | x => (seqOf h x).map (·.length)
def tyOf (g : G) (h : Hs) : D → Option D
  | .non => some (.ty "NoneType")
  | .bl _ => some (.ty "bool")
  | .int _ => some (.ty "int")
  | .str _ => some (.ty "str")
  | .tup _ => some (.ty "tuple")
  | .rol _ => some (.ty "list")
  | .exn a dd c _ _ => if xOk g a dd c && g.xiz c then some (.cls c) else none
  | .ref a => match h[a]? with
    | some (.lst _) => some (.ty "list")
    | some (.dK _) => some (.ty "dict")
    | some (.dT _) => some (.ty "dict")
    | some (.ins c _) => if g.ist c then some (.cls c) else none
    | none => none
  | _ => none
def isiAny (g : G) (t : D) : List D → Option Bool
  | [] => some false
  | c :: r => match g.isi t c with
    | some true => some true
    | some false => isiAny g t r
    | none => none
def isCls : D → Bool
  | .cls _ => true
  | .ty _ => true
  | _ => false
def isiD (g : G) (t : D) : D → Option Bool
  | .tup cs => if cs.all isCls then isiAny g t cs else none
  | c => g.isi t c
def lstOf (h : Hs) : D → Option (List D)
  | .rol l => some l
  | .ref a => match h[a]? with
    | some (.lst l) => some l
    | _ => none
  | _ => none
def biF (g : G) (f : Bi) (ds : List D) : M D := fun h => match f, ds with
  | .len, [x] => (match lenOf h x with
    | some n => .ok (.int n) h
    | none => .bad)
  | .int, [.int i] => .ok (.int i) h
  | .int, [.bl b] => .ok (.int (if b then 1 else 0)) h
  | .int, [.str a] => if a.length ≤ 640 then (match PySem.intText? a with
    | some n => .ok (.int n) h
    | none => .bad) else .bad
  | .str, [.int i] => if i.natAbs.log2 < 1920 then .ok (.str (toString i)) h else .bad
  | .abs, [.int i] => .ok (.int (if i < 0 then -i else i)) h
  | .tuple, [x] => (match seqOf h x with
    | some l => .ok (.tup l) h
    | none => .bad)
  | .list, [x] => (match seqOf h x with
    | some l => alloc (.lst l) h
    | none => .bad)
  | .isi, [x, c] => (match (tyOf g h x).bind fun t => isiD g t c with
    | some b => .ok (.bl b) h
    | none => .bad)
  | .max, [.int i, .int j] => if g.hot then .bad else .ok (.int (if j > i then j else i)) h
  | .min, [.int i, .int j] => if g.hot then .bad else .ok (.int (if j < i then j else i)) h
  | .sum, [x] => if g.hot then .bad else (match (seqOf h x).bind intsD with
    | some l => .ok (.int l.sum) h
    | none => .bad)
  | .all, [x] => if g.hot then .bad else (match (lstOf h x).bind boolsD with
    | some l => .ok (.bl (l.all id)) h
    | none => .bad)
  | .any, [x] => if g.hot then .bad else (match (lstOf h x).bind boolsD with
    | some l => .ok (.bl (l.any id)) h
    | none => .bad)
  | _, _ => .bad
def bmf (m : Bm) (x : D) (ds : List D) : M D := fun h => match x with
  | .ref a => (match m, h[a]?, ds with
    | .append, some (.lst l), [y] => if l.length < sizeLine then .ok .non (h.set a (.lst (l ++ [y]))) else .bad
    | .pop, some (.lst l), [] => (match l[l.length - 1]? with
      | some y => .ok y (h.set a (.lst l.dropLast))
      | none => .bad)
    | _, _, _ => .bad)
  | _ => .bad
/-! ### operators of own classes -/
def insOf (h : Hs) : D → Option Str
  | .ref a => match h[a]? with
    | some (.ins c _) => some c
    | _ => none
  | _ => none
def isInt : D → Bool
  | .int _ => true
  | _ => false
def tyIs (c : Str) : Option D → Bool
  | some (.cls n) => decide (n = c)
  | _ => false
def binG (g : G) (o : Operator) (x y : D) : M D := fun h => match insOf h x with
  | some c => if (g.opo c o && tyIs c (tyOf g h y)) || (g.opi c o && isInt y) then g.cf (c, some (PySem.dunder o.info.2)) [x, y] h else .bad
  | none => binop g o x y h
def unG (g : G) (o : UnaryOp) (x : D) : M D := fun h => match insOf h x with
  | some c => if decide (o = .Invert) && g.opu c then g.cf (c, some "__invert__") [x] h else .bad
  | none => unop o x h
def eqT (g : G) (c : Str) : Option D → Bool
  | some t => g.eqo c t
  | none => false
def boolR : R D → R D
  | .ok (.bl b) h => .ok (.bl b) h
  | .exc c fs h => .exc c fs h
  | _ => .bad
def negR : R D → R D
  | .ok (.bl b) h => .ok (.bl (!b)) h
  | _ => .bad
def cmpG (g : G) (o : CmpOp) (x y : D) : M D := fun h => match insOf h x with
  | some c => match o with
    | .Eq => if eqT g c (tyOf g h y) then boolR (g.cf (c, some "__eq__") [x, y] h) else .bad
    | .NotEq => if !g.hot && eqT g c (tyOf g h y) then negR (g.cm (c, some "__eq__") [x, y] h) else .bad
    | o => cmpop g o x y h
  | none => cmpop g o x y h
/-! ### walks -/
inductive Src where
  | vals (l : List D) | live (a : Nat)
def Src.at (s : Src) (i : Nat) (h : Hs) : Option (Option D) := match s with
  | .vals l => some l[i]?
  | .live a => match h[a]? with
    | some (.lst l) => some l[i]?
    | _ => none
inductive RS where
  | next (δ : Sl) (h : Hs) | ret (d : D) (h : Hs) | brk (δ : Sl) (h : Hs) | cont (δ : Sl) (h : Hs) | exc (c : Str) (fs : Option (List (Str × D))) (δ : Sl) (h : Hs) | bad
mutual
def asgP (hot : Bool) : Pt → D → Sl → Option Sl
  | .name i, d, δ => some (δ.set i (some d))
  | .tup ts, d, δ => match hot, d with
    | false, .tup l => if l.length = ts.length then asgPs hot ts l δ else none
    | _, _ => none
def asgPs (hot : Bool) : List Pt → List D → Sl → Option Sl
  | [], [], δ => some δ
  | t :: ts, d :: ds, δ => match asgP hot t d δ with
    | some δ1 => asgPs hot ts ds δ1
    | none => none
  | _, _, _ => none
end
def forN (src : Src) (asg : D → Sl → Option Sl) (body : Sl → Hs → RS) : Nat → Nat → Sl → Hs → RS
  | 0, _, _, _ => .bad
  | n + 1, i, δ, h => match src.at i h with
    | none => .bad
    | some none => .next δ h
    | some (some d) => match asg d δ with
      | some δ1 => match body δ1 h with
        | .next δ2 h2 => forN src asg body n (i + 1) δ2 h2
        | .cont δ2 h2 => forN src asg body n (i + 1) δ2 h2
        | .brk δ2 h2 => .next δ2 h2
        | .ret d h2 => .ret d h2
        | .exc c fs δ2 h2 => .exc c fs δ2 h2
        | .bad => .bad
      | none => .bad
def whlN (tst : Sl → M Bool) (body : Sl → Hs → RS) : Nat → Sl → Hs → RS
  | 0, _, _ => .bad
  | n + 1, δ, h => match tst δ h with
    | .ok false h1 => .next δ h1
    | .ok true h1 => match body δ h1 with
      | .next δ2 h2 => whlN tst body n δ2 h2
      | .cont δ2 h2 => whlN tst body n δ2 h2
      | .brk δ2 h2 => .next δ2 h2
      | .ret d h2 => .ret d h2
      | .exc c fs δ2 h2 => .exc c fs δ2 h2
      | .bad => .bad
    | .exc c fs h1 => .exc c fs δ h1
    | .bad => .bad
def compN (src : Src) (asg : D → Sl → Option Sl) (tst : Sl → M Bool) (elt : Sl → M D) (δ0 : Sl) : Nat → Nat → List D → M (List D)
  | 0, _, _, _ => .bad
  | n + 1, i, acc, h => match src.at i h with
    | none => .bad
    | some none => .ok acc h
    | some (some d) => match asg d δ0 with
      | some δ1 => match tst δ1 h with
        | .ok true h2 => match elt δ1 h2 with
          | .ok y h3 => if acc.length < sizeLine then compN src asg tst elt δ0 n (i + 1) (acc ++ [y]) h3 else .bad
          | _ => .bad
        | .ok false h2 => compN src asg tst elt δ0 n (i + 1) acc h2
        | _ => .bad
      | none => .bad
def wipeD (δ : Sl) : List Nat → Sl
  | [] => δ
  | v :: vs => (wipeD δ vs).set v none
def srcOf (h : Hs) : D → Option Src
  | .tup l => some (.vals l)
  | .rol l => some (.vals l)
  | .ref a => match h[a]? with
    | some (.lst _) => some (.live a)
    | _ => none
  | .str z => some (.vals (z.cps.toList.map fun c => .str ⟨#[c]⟩))
  | _ => none
def rngOf : List D → Option Src
  | [.int j] => if decide (-(2 ^ 62) ≤ j) && decide (j < 2 ^ 62) then some (.vals ((List.range j.toNat).map fun (k : Nat) => .int (k : Int))) else none
  | [.int i, .int j] => if decide (-(2 ^ 62) ≤ i) && decide (i < 2 ^ 62) && decide (-(2 ^ 62) ≤ j) && decide (j < 2 ^ 62) then some (.vals ((List.range (j - i).toNat).map fun (k : Nat) => .int (i + k))) else none
  | [.int i, .int j, .int c] => if !decide (c = 0) && decide (c.natAbs < 1073741824) && Builtin.Range.small i j c && decide (0 ≤ Builtin.Range.rangeSize i j c) then some (.vals ((List.range (Builtin.Range.rangeSize i j c).toNat).map fun (k : Nat) => .int (i + k * c))) else none
  | _ => none
def tstOf (m : M D) : M Bool := bnd m fun x h => match truthD h x with
  | some b => .ok b h
  | none => .bad
def liftS (δ : Sl) (m : M Unit) : Hs → RS := fun h => match m h with
  | .ok _ h' => .next δ h'
  | .exc c fs h' => .exc c fs δ h'
  | .bad => .bad
def fmtD : D → M D
  | .str y => if y.length ≤ sizeLine then ret (.str y) else fail
  | .int i => if i.natAbs.log2 < 1920 then ret (.str (toString i)) else fail
  | _ => fail
mutual
def evalE (g : G) : E → Sl → M D
  | .non, _ => ret .non
  | .bl b, _ => ret (.bl b)
  | .int i, _ => ret (.int i)
  | .str s, _ => ret (.str s)
  | .var i, δ => match δ[i]? with
    | some (some d) => ret d
    | _ => fail
  | .glob x, _ => ofO (g.gl x)
  | .bty n, _ => ret (.ty n)
  | .bin o a b, δ => bnd (evalE g a δ) fun x => bnd (evalE g b δ) fun y => binG g o x y
  | .un o a, δ => bnd (evalE g a δ) fun x => unG g o x
  | .not a, δ => bnd (tstOf (evalE g a δ)) fun b => ret (.bl (!b))
  | .and a b, δ => bnd (evalE g a δ) fun x h => match truthD h x with
    | some true => evalE g b δ h
    | some false => .ok x h
    | none => .bad
  | .or a b, δ => bnd (evalE g a δ) fun x h => match truthD h x with
    | some true => .ok x h
    | some false => evalE g b δ h
    | none => .bad
  | .cmp o a b, δ => bnd (evalE g a δ) fun x => bnd (evalE g b δ) fun y => cmpG g o x y
  | .cmp2 o p a b c, δ => bnd (evalE g a δ) fun x => bnd (evalE g b δ) fun y h => match cmpB h o x y with
    | some true => bnd (evalE g c δ) (fun z => cmpop g p y z) h
    | some false => .ok (.bl false) h
    | none => .bad
  | .ife t a b, δ => bnd (tstOf (evalE g t δ)) fun c => match c with
    | true => evalE g a δ
    | false => evalE g b δ
  | .tup es, δ => bnd (evalEs g es δ) newT
  | .lst es, δ => bnd (evalEs g es δ) newL
  | .idx a i, δ => bnd (evalE g a δ) fun x => bnd (evalE g i δ) fun y => getitem x y
  | .sl a lo hi, δ => bnd (evalE g a δ) fun x => bnd (evalO g lo δ) fun l => bnd (evalO g hi δ) fun u => slice x l u
  | .attr a f, δ => bnd (evalE g a δ) fun x => getattr g x f
  | .call f es, δ => bnd (evalEs g es δ) fun ds => g.cf (f, none) ds
  | .make c es, δ => bnd (evalEs g es δ) fun ds => mkI g c ds
  | .meth o m es, δ => bnd (evalE g o δ) fun x => bnd (methC g x m) fun c => bnd (evalEs g es δ) fun ds => g.cf (c, some m) (x :: ds)
  | .bi f es, δ => bnd (evalEs g es δ) fun ds => biF g f ds
  | .bm o m es, δ => bnd (evalE g o δ) fun x => bnd (isL x) fun _ => bnd (evalEs g es δ) fun ds => bmf m x ds
  | .fmt e, δ => bnd (evalE g e δ) fmtD
  | .fstr es, δ => evalJ g es Str.empty δ
  | .lc e t own it ifs, δ => if g.hot then fail else bnd (evalI g it δ) fun src => bnd (compN src (asgP false t) (fun δ1 => evalC g ifs δ1) (fun δ1 => evalE g e δ1) (wipeD δ own) g.fuel 0 []) fun l => alloc (.lst l)
def evalJ (g : G) : List E → Str → Sl → M D
  | [], acc, _ => ret (.str acc)
  | e :: es, acc, δ => bnd (evalE g e δ) fun x => match x with
    | .str y => if (acc ++ y).length ≤ sizeLine then evalJ g es (acc ++ y) δ else fail
    | _ => fail
def evalEs (g : G) : List E → Sl → M (List D)
  | [], _ => ret []
  | e :: es, δ => bnd (evalE g e δ) fun x => bnd (evalEs g es δ) fun xs => ret (x :: xs)
def evalO (g : G) : Option E → Sl → M (Option Int)
  | none, _ => ret none
  | some e, δ => bnd (evalE g e δ) partOf
def evalC (g : G) : List E → Sl → M Bool
  | [], _ => ret true
  | e :: es, δ => bnd (tstOf (evalE g e δ)) fun b => match b with
    | true => evalC g es δ
    | false => ret false
def evalI (g : G) : It → Sl → M Src
  | .e e, δ => bnd (evalE g e δ) fun x h => match srcOf h x with
    | some s => .ok s h
    | none => .bad
  | .rng es, δ => bnd (evalEs g es δ) fun ds => ofO (rngOf ds)
end
/-- a machine that knows nothing: for the text of an error -/
def g0 : G := ⟨fun _ _ => fail, fun _ _ => fail, fun _ => none, fun _ _ => false, fun _ _ => false, fun _ _ => false, fun _ _ => false, fun _ => false, fun _ _ => false, fun _ _ => none, fun _ => false, fun _ => none, none, fun _ _ => false, fun _ => false, fun _ _ => false, fun _ _ => none, fun _ _ _ => fail, 0, false⟩
/-- an error is made: its text, its fields -/
def mkX (g : G) (c : Str) (ds : List D) (δ : Sl) (h : Hs) : RS := match g.xc c with
  | some (fl, arg) => if ds.length = fl.length then (match evalE g0 arg (none :: (ds.map some ++ [none])) h with
    | .ok _ h' => .exc c (some (fl.zip ds).reverse) δ h'
    | _ => .bad) else .bad
  | none => .bad
/-- a statement behind an expression -/
def thenS {α : Type} (δ : Sl) (r : R α) (k : α → Hs → RS) : RS := match r with
  | .ok d h' => k d h'
  | .exc c fs h' => .exc c fs δ h'
  | .bad => .bad
/-- a for's, an assignment's store -/
def nextS (o : Option Sl) (h : Hs) : RS := match o with
  | some δ1 => .next δ1 h
  | none => .bad
/-- the machine within an except suite -/
def gH (g : G) (hx : Option (Nat × Nat × Str)) : G := { g with cf := g.ch hx, cm := fun _ _ => fail, hot := true, hx := hx }
open Classical in
/-- the same whereever the error stands -/
noncomputable def allEq (f : Nat → Nat → RS) : RS := if ∀ a b, f a b = f 0 0 then f 0 0 else .bad
/-- no error leaves a suite -/
def noXS : RS → RS
  | .exc _ _ _ _ => .bad
  | r => r
def wipeS (i : Nat) : RS → RS
  | .next δ h => .next (δ.set i none) h
  | .ret d h => .ret d h
  | .brk δ h => .brk (δ.set i none) h
  | .cont δ h => .cont (δ.set i none) h
  | _ => .bad
noncomputable def suiteN (o : Option Nat) (fs : Option (List (Str × D))) (c : Str) (δ : Sl) (f : Option (Nat × Nat × Str) → Sl → RS) : RS := match o with
  | none => noXS (f none δ)
  | some i => match fs with
    | some l => allEq fun a dd => wipeS i (f (some (a, dd, c)) (δ.set i (some (.exn a dd c (l.map (·.1)) (l.map (·.2))))))
    | none => .bad
mutual
noncomputable def execS (g : G) : S → Sl → Hs → RS
  | .expr e, δ, h => thenS δ (evalE g e δ h) fun _ h' => .next δ h'
  | .ret e, δ, h => thenS δ (evalE g e δ h) fun d h' => .ret d h'
  | .retN, _, h => .ret .non h
  | .pass, δ, h => .next δ h
  | .brk, δ, h => .brk δ h
  | .cont, δ, h => .cont δ h
  | .asg t e, δ, h => thenS δ (evalE g e δ h) fun d h' => nextS (asgP g.hot t d δ) h'
  | .sub o i e, δ, h => liftS δ (bnd (evalE g e δ) fun d => bnd (evalE g o δ) fun x => bnd (evalE g i δ) fun y => setitem x y d) h
  | .fld o f e, δ, h => liftS δ (bnd (evalE g e δ) fun d => bnd (evalE g o δ) fun x => setattr g x f d) h
  | .aug i o e, δ, h => match δ[i]? with
    | some (some x) => thenS δ (bnd (evalE g e δ) (augop o x) h) fun d h' => .next (δ.set i (some d)) h'
    | _ => .bad
  | .iff c a b, δ, h => thenS δ (tstOf (evalE g c δ) h) fun t h' => match t with
    | true => execSs g a δ h'
    | false => execSs g b δ h'
  | .for_ t it b, δ, h => if g.hot then .bad else thenS δ (evalI g it δ h) fun src h' => forN src (asgP false t) (fun δ1 => execSs g b δ1) g.fuel 0 δ h'
  | .whl c b, δ, h => whlN (fun δ1 => tstOf (evalE g c δ1)) (fun δ1 => execSs g b δ1) g.fuel δ h
  | .raise c es, δ, h => if g.hot then .bad else thenS δ (evalEs g es δ h) fun ds h' => mkX g c ds δ h'
  | .try_ b hs, δ, h => if g.hot then .bad else match execSs g b δ h with
    | .exc c fs δ1 h1 => execH g hs c fs δ1 h1
    | r => r
noncomputable def execH (g : G) : Hd → Str → Option (List (Str × D)) → Sl → Hs → RS
  | .nil, c, fs, δ, h => .exc c fs δ h
  | .cons x o b r, c, fs, δ, h => match g.exm c x with
    | some true => suiteN o fs c δ fun hx δ1 => execSs (gH g hx) b δ1 h
    | some false => execH g r c fs δ h
    | none => .bad
noncomputable def execSs (g : G) : List S → Sl → Hs → RS
  | [], δ, h => .next δ h
  | s :: ss, δ, h => match execS g s δ h with
    | .next δ1 h1 => execSs g ss δ1 h1
    | .ret d h1 => .ret d h1
    | .brk δ1 h1 => .brk δ1 h1
    | .cont δ1 h1 => .cont δ1 h1
    | .exc c fs δ1 h1 => .exc c fs δ1 h1
    | .bad => .bad
end
end Ip
end
section
set_option Elab.async false
set_option linter.all false
set_option maxRecDepth 100000
/-! what a state of the machine has to do with the layer's heap -/
namespace Ip
open PySem L2
/-- a list that never changes -/
def FzL (K : PySem.W.Frag) (H : Hp) (p : Addr) (vs : List V) : Prop := (∃ o, H p = some (.frz o (.lst vs))) ∨
  ∃ (o : Obj) (its : Array Value) (n : Nat), K.lookup p = some o ∧ o.cls = .type "list" ∧ o.dict = none ∧ o.data = .seq its n ∧ its.size ≤ sizeLine ∧ Vals vs its.toList
theorem FzL.sq {K : PySem.W.Frag} {H : Hp} {p : Addr} {vs : List V} (h : FzL K H p vs) : SqL K H p vs := by
  rcases h with ⟨o, h⟩ | h
  · exact .inl (.inr ⟨o, h⟩)
  · exact .inr h
/-- a tuple -/
def TpL (K : PySem.W.Frag) (H : Hp) (p : Addr) (vs : List V) : Prop := H p = some (.tup vs) ∨
  ∃ (o : Obj) (its : Array Value) (n : Nat), K.lookup p = some o ∧ o.cls = .type "tuple" ∧ o.data = .seq its n ∧ its.size ≤ sizeLine ∧ Vals vs its.toList
theorem TpL.sq {K : PySem.W.Frag} {H : Hp} {p : Addr} {vs : List V} (h : TpL K H p vs) : SqT K H p vs := by
  rcases h with h | h
  · exact .inl (.inl h)
  · exact .inr h
mutual
def RV (K : PySem.W.Frag) (ρ : List Addr) (H : Hp) : D → V → Prop
  | .non, v => v = .non
  | .bl b, v => v = .bl b
  | .int i, v => v = .int i
  | .str s, v => v = .str s
  | .tup l, v => ∃ p vs, v = .ref p ∧ TpL K H p vs ∧ RVs K ρ H l vs
  | .rol l, v => ∃ p vs, v = .ref p ∧ FzL K H p vs ∧ RVs K ρ H l vs
  | .ref a, v => ∃ p, ρ[a]? = some p ∧ v = .ref p
  | .cls c, v => v = .ref (He.ga K c)
  | .ty n, v => v = .ty n
  | .exn a dd _ ns ds, v => v = .ref a ∧ ∃ ws, H dd = some (.xd (ns.zip ws)) ∧ RVs K ρ H ds ws
def RVs (K : PySem.W.Frag) (ρ : List Addr) (H : Hp) : List D → List V → Prop
  | [], vs => vs = []
  | d :: ds, vs => ∃ v r, vs = v :: r ∧ RV K ρ H d v ∧ RVs K ρ H ds r
end
def RF (K : PySem.W.Frag) (ρ : List Addr) (H : Hp) : List (Str × D) → List (Str × V) → Prop
  | [], vs => vs = []
  | (f, d) :: ds, vs => ∃ v r, vs = (f, v) :: r ∧ RV K ρ H d v ∧ RF K ρ H ds r
def RKs {κ : Type} (K : PySem.W.Frag) (ρ : List Addr) (H : Hp) : List (κ × D) → List (κ × V) → Prop
  | [], vs => vs = []
  | (f, d) :: ds, vs => ∃ v r, vs = (f, v) :: r ∧ RV K ρ H d v ∧ RKs K ρ H ds r
def RO (K : PySem.W.Frag) (ρ : List Addr) (H : Hp) : O → Addr → Prop
  | .lst l, p => ∃ vs, H p = some (.lst vs) ∧ RVs K ρ H l vs
  | .ins c fs, p => ∃ dx vs, H p = some (.ins (He.ga K c) dx vs) ∧ RF K ρ H fs vs
  | .dK kvs, p => ∃ vs, H p = some (.dK vs) ∧ RKs K ρ H kvs vs
  | .dT kvs, p => ∃ vs, H p = some (.dT vs) ∧ RKs K ρ H kvs vs
structure Rl (K : PySem.W.Frag) (ρ : List Addr) (h : Hs) (H : Hp) : Prop where
  nd : ρ.Nodup
  len : ρ.length = h.length
  ob : ∀ (i : Nat) o p, h[i]? = some o → ρ[i]? = some p → RO K ρ H o p
/-- what happens to the layer's heap -/
structure Ex (ρ ρ' : List Addr) (H H' : Hp) : Prop where
  pre : ∀ (i : Nat) p, ρ[i]? = some p → ρ'[i]? = some p
  kp : ∀ p o, H p = some o → p ∉ ρ → H' p = some o
  nw : ∀ p, p ∈ ρ' → p ∈ ρ ∨ H p = none
theorem Ex.refl (ρ : List Addr) (H : Hp) : Ex ρ ρ H H := ⟨fun _ _ e => e, fun _ _ e _ => e, fun _ m => .inl m⟩
theorem Ex.trans {ρ ρ1 ρ2 : List Addr} {H H1 H2 : Hp} (a : Ex ρ ρ1 H H1) (b : Ex ρ1 ρ2 H1 H2) : Ex ρ ρ2 H H2 where
  pre := fun i p e => b.pre i p (a.pre i p e)
  kp := fun p o e n => b.kp p o (a.kp p o e n) fun m => by
    rcases a.nw p m with m | m
    · exact n m
    · rw [e] at m; cases m
  nw := fun p m => by
    rcases b.nw p m with m | m
    · exact a.nw p m
    · cases e : H p with
      | none => exact .inr rfl
      | some o =>
        by_cases n : p ∈ ρ
        · exact .inl n
        · rw [a.kp p o e n] at m; cases m
section
variable {K : PySem.W.Frag} {ρ ρ' : List Addr} {h h' : Hs} {H H' : Hp}
theorem Rl.at (r : Rl K ρ h H) {i : Nat} {o : O} (e : h[i]? = some o) : ∃ p, ρ[i]? = some p ∧ RO K ρ H o p := by
  have hi : i < ρ.length := by rw [r.len]; exact (List.getElem?_eq_some_iff.mp e).1
  exact ⟨ρ[i], by simp [hi], r.ob i o _ e (by simp [hi])⟩
theorem Rl.of (r : Rl K ρ h H) {i : Nat} {p : Addr} (e : ρ[i]? = some p) : ∃ o, h[i]? = some o ∧ RO K ρ H o p := by
  have hi : i < h.length := by rw [← r.len]; exact (List.getElem?_eq_some_iff.mp e).1
  exact ⟨h[i], by simp [hi], r.ob i _ p (by simp [hi]) e⟩
theorem Rl.mem (r : Rl K ρ h H) {p : Addr} (m : p ∈ ρ) : ∃ o, RO K ρ H o p := by
  obtain ⟨i, hi, e⟩ := List.mem_iff_getElem.mp m
  obtain ⟨o, _, ro⟩ := r.of (i := i) (p := p) (by simp [hi, e])
  exact ⟨o, ro⟩
theorem RO.some {o : O} {p : Addr} (r : RO K ρ H o p) : ∃ u, H p = some u := by
  cases o with
  | lst l => obtain ⟨vs, e, _⟩ := r; exact ⟨_, e⟩
  | ins c fs => obtain ⟨dx, vs, e, _⟩ := r; exact ⟨_, e⟩
  | dK l => obtain ⟨vs, e, _⟩ := r; exact ⟨_, e⟩
  | dT l => obtain ⟨vs, e, _⟩ := r; exact ⟨_, e⟩
theorem Rl.tup (r : Rl K ρ h H) {p : Addr} {vs : List V} (e : H p = some (.tup vs)) : p ∉ ρ := fun m => by
  obtain ⟨o, ro⟩ := r.mem m
  cases o with
  | lst l => obtain ⟨vs, e', _⟩ := ro; rw [e] at e'; cases e'
  | ins c fs => obtain ⟨dx, vs, e', _⟩ := ro; rw [e] at e'; cases e'
  | dK l => obtain ⟨vs, e', _⟩ := ro; rw [e] at e'; cases e'
  | dT l => obtain ⟨vs, e', _⟩ := ro; rw [e] at e'; cases e'
theorem Rl.frz (r : Rl K ρ h H) {p : Addr} {o : Obj} {u : HO} (e : H p = some (.frz o u)) : p ∉ ρ := fun m => by
  obtain ⟨o, ro⟩ := r.mem m
  cases o with
  | lst l => obtain ⟨vs, e', _⟩ := ro; rw [e] at e'; cases e'
  | ins c fs => obtain ⟨dx, vs, e', _⟩ := ro; rw [e] at e'; cases e'
  | dK l => obtain ⟨vs, e', _⟩ := ro; rw [e] at e'; cases e'
  | dT l => obtain ⟨vs, e', _⟩ := ro; rw [e] at e'; cases e'
theorem Rl.xd (r : Rl K ρ h H) {p : Addr} {fs : List (Str × V)} (e : H p = some (.xd fs)) : p ∉ ρ := fun m => by
  obtain ⟨o, ro⟩ := r.mem m
  cases o with
  | lst l => obtain ⟨vs, e', _⟩ := ro; rw [e] at e'; cases e'
  | ins c fs => obtain ⟨dx, vs, e', _⟩ := ro; rw [e] at e'; cases e'
  | dK l => obtain ⟨vs, e', _⟩ := ro; rw [e] at e'; cases e'
  | dT l => obtain ⟨vs, e', _⟩ := ro; rw [e] at e'; cases e'
/-- tuples and what is locked stay -/
structure St' (K : PySem.W.Frag) (ρ ρ' : List Addr) (H H' : Hp) : Prop where
  pre : ∀ (i : Nat) p, ρ[i]? = some p → ρ'[i]? = some p
  tp : ∀ p vs, TpL K H p vs → TpL K H' p vs
  fz : ∀ p vs, FzL K H p vs → FzL K H' p vs
  xk : ∀ p fs, H p = some (.xd fs) → H' p = some (.xd fs)
theorem Rl.st (r : Rl K ρ h H) (x : Ex ρ ρ' H H') : St' K ρ ρ' H H' where
  pre := x.pre
  tp := fun p vs e => by
    rcases e with e | e
    · exact .inl (x.kp p _ e (r.tup e))
    · exact .inr e
  fz := fun p vs e => by
    rcases e with ⟨o, e⟩ | e
    · exact .inl ⟨o, x.kp p _ e (r.frz e)⟩
    · exact .inr e
  xk := fun p fs e => x.kp p _ e (r.xd e)
mutual
theorem RV.st (x : St' K ρ ρ' H H') : ∀ (d : D) {v : V}, RV K ρ H d v → RV K ρ' H' d v
  | .non, _, e => e
  | .bl _, _, e => e
  | .int _, _, e => e
  | .str _, _, e => e
  | .tup l, _, ⟨p, vs, e, s, r⟩ => ⟨p, vs, e, x.tp p vs s, RVs.st x l r⟩
  | .rol l, _, ⟨p, vs, e, s, r⟩ => ⟨p, vs, e, x.fz p vs s, RVs.st x l r⟩
  | .ref a, _, ⟨p, e, q⟩ => ⟨p, x.pre a p e, q⟩
  | .cls _, _, e => e
  | .ty _, _, e => e
  | .exn a dd _ ns ds, _, ⟨e, ws, q, r⟩ => ⟨e, ws, x.xk dd _ q, RVs.st x ds r⟩
theorem RVs.st (x : St' K ρ ρ' H H') : ∀ (ds : List D) {vs : List V}, RVs K ρ H ds vs → RVs K ρ' H' ds vs
  | [], _, e => e
  | d :: ds, _, ⟨v, r, e, a, b⟩ => ⟨v, r, e, RV.st x d a, RVs.st x ds b⟩
end
theorem RF.st (x : St' K ρ ρ' H H') : ∀ (ds : List (Str × D)) {vs : List (Str × V)}, RF K ρ H ds vs → RF K ρ' H' ds vs
  | [], _, e => e
  | (f, d) :: ds, _, ⟨v, r, e, a, b⟩ => ⟨v, r, e, a.st x d, RF.st x ds b⟩
theorem RKs.st {κ : Type} (x : St' K ρ ρ' H H') : ∀ (ds : List (κ × D)) {vs : List (κ × V)}, RKs K ρ H ds vs → RKs K ρ' H' ds vs
  | [], _, e => e
  | (f, d) :: ds, _, ⟨v, r, e, a, b⟩ => ⟨v, r, e, a.st x d, RKs.st x ds b⟩
theorem RO.st (x : St' K ρ ρ' H H') {p : Addr} (e : H' p = H p) : ∀ {o : O}, RO K ρ H o p → RO K ρ' H' o p
  | .lst _, ⟨vs, q, r⟩ => ⟨vs, e.trans q, r.st x⟩
  | .ins _ _, ⟨dx, vs, q, r⟩ => ⟨dx, vs, e.trans q, r.st x⟩
  | .dK _, ⟨vs, q, r⟩ => ⟨vs, e.trans q, r.st x⟩
  | .dT _, ⟨vs, q, r⟩ => ⟨vs, e.trans q, r.st x⟩
theorem RV.mono (r : Rl K ρ h H) (x : Ex ρ ρ' H H') {d : D} {v : V} (e : RV K ρ H d v) : RV K ρ' H' d v := e.st (r.st x)
theorem RVs.mono (r : Rl K ρ h H) (x : Ex ρ ρ' H H') {d : List D} {v : List V} (e : RVs K ρ H d v) : RVs K ρ' H' d v := e.st (r.st x)
theorem RVs.length : ∀ {ds : List D} {vs : List V}, RVs K ρ H ds vs → vs.length = ds.length
  | [], _, e => by rw [show _ = [] from e]; rfl
  | d :: ds, _, ⟨v, r, e, a, b⟩ => by rw [e, List.length_cons, List.length_cons, RVs.length b]
theorem RVs.get : ∀ {ds : List D} {vs : List V} {i : Nat} {d : D}, RVs K ρ H ds vs → ds[i]? = some d → ∃ v, vs[i]? = some v ∧ RV K ρ H d v
  | [], _, _, _, _, e => by simp at e
  | d :: ds, _, 0, _, ⟨v, r, e, a, b⟩, q => by
    rw [e]
    rw [List.getElem?_cons_zero] at q
    cases q
    exact ⟨v, rfl, a⟩
  | d :: ds, _, i + 1, _, ⟨v, r, e, a, b⟩, q => by
    rw [e]
    exact RVs.get (i := i) b (by simpa using q)
theorem RVs.append : ∀ {as bs : List D} {vs ws : List V}, RVs K ρ H as vs → RVs K ρ H bs ws → RVs K ρ H (as ++ bs) (vs ++ ws)
  | [], _, _, _, e, b => by rw [show _ = [] from e]; exact b
  | d :: ds, _, _, _, ⟨v, r, e, a, q⟩, b => by rw [e]; exact ⟨v, _, rfl, a, RVs.append q b⟩
theorem RVs.take : ∀ (n : Nat) {as : List D} {vs : List V}, RVs K ρ H as vs → RVs K ρ H (as.take n) (vs.take n)
  | 0, as, vs, _ => by show RVs K ρ H (as.take 0) (vs.take 0); simp only [List.take_zero]; rfl
  | _ + 1, [], _, e => by rw [show _ = [] from e]; rfl
  | n + 1, d :: ds, _, ⟨v, r, e, a, q⟩ => by rw [e]; exact ⟨v, _, rfl, a, RVs.take n q⟩
theorem RVs.drop : ∀ (n : Nat) {as : List D} {vs : List V}, RVs K ρ H as vs → RVs K ρ H (as.drop n) (vs.drop n)
  | 0, as, vs, e => e
  | _ + 1, [], _, e => by rw [show _ = [] from e]; rfl
  | n + 1, d :: ds, _, ⟨v, r, e, a, q⟩ => by rw [e]; exact RVs.drop n q
theorem RVs.set {d : D} {v : V} (hd : RV K ρ H d v) : ∀ (n : Nat) {as : List D} {vs : List V}, RVs K ρ H as vs → RVs K ρ H (as.set n d) (vs.set n v)
  | _, [], _, e => by rw [show _ = [] from e]; rfl
  | 0, d :: ds, _, ⟨v, r, e, a, q⟩ => by rw [e]; exact ⟨_, _, rfl, hd, q⟩
  | n + 1, d :: ds, _, ⟨v, r, e, a, q⟩ => by rw [e]; exact ⟨v, _, rfl, a, RVs.set hd n q⟩
theorem RVs.one {d : D} {v : V} (hd : RV K ρ H d v) : RVs K ρ H [d] [v] := ⟨v, [], rfl, hd, rfl⟩
theorem RVs.dropLast : ∀ {as : List D} {vs : List V}, RVs K ρ H as vs → RVs K ρ H as.dropLast vs.dropLast := fun {as vs} e => by
  rw [List.dropLast_eq_take, List.dropLast_eq_take, e.length]; exact e.take _
theorem RVs.rep : ∀ (n : Nat) {as : List D} {vs : List V}, RVs K ρ H as vs → RVs K ρ H (List.replicate n as).flatten (List.replicate n vs).flatten
  | 0, _, _, _ => rfl
  | n + 1, _, _, e => by
    rw [List.replicate_succ, List.replicate_succ, List.flatten_cons, List.flatten_cons]
    exact e.append (RVs.rep n e)
/-- a new object -/
theorem Rl.new (r : Rl K ρ h H) {o : O} {u : HO} {p : Addr} (hp : H p = none) (ho : RO K (ρ ++ [p]) (upd H p u) o p) : Rl K (ρ ++ [p]) (h ++ [o]) (upd H p u) ∧ Ex ρ (ρ ++ [p]) H (upd H p u) := by
  have hn : p ∉ ρ := fun m => by
    obtain ⟨o, ro⟩ := r.mem m
    obtain ⟨u, e⟩ := ro.some
    rw [hp] at e; cases e
  have x : Ex ρ (ρ ++ [p]) H (upd H p u) := by
    refine ⟨fun i q e => ?_, fun q o e n => ?_, fun q m => ?_⟩
    · rw [List.getElem?_append_left (List.getElem?_eq_some_iff.mp e).1]; exact e
    · rw [upd_ne (ne_of_none e hp)]; exact e
    · rcases List.mem_append.mp m with m | m
      · exact .inl m
      · rw [List.mem_singleton.mp m]; exact .inr hp
  refine ⟨⟨?_, by simp [r.len], fun i o' q e1 e2 => ?_⟩, x⟩
  · rw [List.nodup_append]
    refine ⟨r.nd, by simp, fun a ha b hb => ?_⟩
    rw [List.mem_singleton.mp hb]
    rintro rfl
    exact hn ha
  · by_cases hi : i < h.length
    · rw [List.getElem?_append_left hi] at e1
      have hi' : i < ρ.length := by rw [r.len]; exact hi
      rw [List.getElem?_append_left hi'] at e2
      refine (r.ob i o' q e1 e2).st (r.st x) ?_
      obtain ⟨u', e'⟩ := (r.ob i o' q e1 e2).some
      exact upd_ne (ne_of_none e' hp)
    · have hi2 : i < h.length + 1 := by
        have := (List.getElem?_eq_some_iff.mp e1).1
        simpa using this
      have hi3 : i = h.length := by omega
      subst hi3
      rw [List.getElem?_append_right (Nat.le_refl _)] at e1
      rw [List.getElem?_append_right (by rw [r.len]; exact Nat.le_refl _)] at e2
      simp [r.len] at e1 e2
      subst e1 e2
      exact ho
/-- a tuple laid -/
theorem Rl.newT (r : Rl K ρ h H) {u : HO} {p : Addr} (hp : H p = none) : Rl K ρ h (upd H p u) ∧ Ex ρ ρ H (upd H p u) := by
  have x : Ex ρ ρ H (upd H p u) := ⟨fun i q e => e, fun q o e n => by rw [upd_ne (ne_of_none e hp)]; exact e, fun q m => .inl m⟩
  refine ⟨⟨r.nd, r.len, fun i o' q e1 e2 => ?_⟩, x⟩
  refine (r.ob i o' q e1 e2).st (r.st x) ?_
  obtain ⟨u', e'⟩ := (r.ob i o' q e1 e2).some
  exact upd_ne (ne_of_none e' hp)
/-- an object written -/
theorem Rl.wr (r : Rl K ρ h H) {a : Nat} {p : Addr} (hp : ρ[a]? = some p) {o : O} {u : HO} (ho : St' K ρ ρ H (upd H p u) → RO K ρ (upd H p u) o p) : Rl K ρ (h.set a o) (upd H p u) ∧ Ex ρ ρ H (upd H p u) := by
  have hm : p ∈ ρ := List.mem_of_getElem? hp
  have x : Ex ρ ρ H (upd H p u) := ⟨fun i q e => e, fun q o e n => by rw [upd_ne (show q ≠ p from fun z => n (by rw [z]; exact hm))]; exact e, fun q m => .inl m⟩
  refine ⟨⟨r.nd, by simp [r.len], fun i o' q e1 e2 => ?_⟩, x⟩
  by_cases hi : i = a
  · subst hi
    rw [hp] at e2; cases e2
    have hl : i < h.length := by rw [← r.len]; exact (List.getElem?_eq_some_iff.mp hp).1
    rw [List.getElem?_set_self hl] at e1; cases e1
    exact ho (r.st x)
  · rw [List.getElem?_set_ne (Ne.symm hi)] at e1
    refine (r.ob i o' q e1 e2).st (r.st x) (upd_ne fun z => hi ?_)
    exact nodupA r.nd e2 (z ▸ hp)
where
  nodupA {N : List Addr} (hN : N.Nodup) {i j : Nat} {x : Addr} (a : N[i]? = some x) (b : N[j]? = some x) : i = j := by
    obtain ⟨h1, e1⟩ := List.getElem?_eq_some_iff.mp a
    obtain ⟨h2, e2⟩ := List.getElem?_eq_some_iff.mp b
    exact (List.getElem_inj hN).mp (e1.trans e2.symm)
end
/-! ### slots -/
def RSl (K : PySem.W.Frag) (ρ : List Addr) (H : Hp) (δ : Sl) (σ : St) : Prop := δ.length = σ.length ∧ ∀ (i : Nat) d, δ[i]? = some (some d) → ∃ v, σ[i]? = some (some v) ∧ RV K ρ H d v
section
variable {K : PySem.W.Frag} {ρ ρ' : List Addr} {h h' : Hs} {H H' : Hp} {δ : Sl} {σ : St}
theorem RSl.mono (r : Rl K ρ h H) (x : Ex ρ ρ' H H') (s : RSl K ρ H δ σ) : RSl K ρ' H' δ σ := ⟨s.1, fun i d e => let ⟨v, a, b⟩ := s.2 i d e; ⟨v, a, b.mono r x⟩⟩
theorem RSl.set (s : RSl K ρ H δ σ) {i : Nat} {d : D} {v : V} (r : RV K ρ H d v) : RSl K ρ H (δ.set i (some d)) (σ.set i (some v)) := by
  refine ⟨by simp [s.1], fun j d' e => ?_⟩
  by_cases hj : i = j
  · subst hj
    have hl : i < δ.length := by
      have := (List.getElem?_eq_some_iff.mp e).1
      simpa using this
    rw [List.getElem?_set_self hl] at e
    cases e
    exact ⟨v, List.getElem?_set_self (by rw [← s.1]; exact hl), r⟩
  · rw [List.getElem?_set_ne hj] at e
    rw [List.getElem?_set_ne hj]
    exact s.2 j d' e
theorem RSl.wipe (s : RSl K ρ H δ σ) : ∀ vs : List Nat, RSl K ρ H (wipeD δ vs) (L2.wipe σ vs)
  | [] => s
  | v :: vs => by
    have ih := RSl.wipe s vs
    refine ⟨by simp [wipeD, L2.wipe, ih.1], fun j d e => ?_⟩
    unfold wipeD at e
    unfold L2.wipe
    by_cases hj : v = j
    · subst hj
      have hl : v < (wipeD δ vs).length := by
        have := (List.getElem?_eq_some_iff.mp e).1
        simpa using this
      rw [List.getElem?_set_self hl] at e
      cases e
    · rw [List.getElem?_set_ne hj] at e
      rw [List.getElem?_set_ne hj]
      exact ih.2 j d e
end
/-! ### what is wanted of an end -/
def XR (K : PySem.W.Frag) (ρ : List Addr) (H : Hp) : Option (List (Str × D)) → Option Addr → Prop
  | none, d => d = none
  | some fs, d => ∃ p vs, d = some p ∧ H p = some (.xd vs) ∧ RF K ρ H fs vs
def Po {α β : Type} (K : PySem.W.Frag) (rel : List Addr → Hp → α → β → Prop) (W : XK) (ρ : List Addr) (H : Hp) (Q : β → Hp → Prop) : R α → Prop
  | .ok a h' => ∀ ρ' H' b, Ex ρ ρ' H H' → Rl K ρ' h' H' → rel ρ' H' a b → Q b H'
  | .exc c fs h' => ∀ ρ' H' d, Ex ρ ρ' H H' → Rl K ρ' h' H' → XR K ρ' H' fs d → W (.ref (He.ga K c)) d H'
  | .bad => False
section
variable {α β γ : Type} {K : PySem.W.Frag} {rel : List Addr → Hp → α → β → Prop} {W : XK} {ρ ρ' : List Addr} {H H' : Hp} {Q : β → Hp → Prop} {h : Hs}
theorem Po.mono {r : R α} (p : Po K rel W ρ H Q r) (x : Ex ρ ρ' H H') : Po K rel W ρ' H' Q r := by
  cases r with
  | ok a h' => exact fun ρ2 H2 b e r q => p ρ2 H2 b (x.trans e) r q
  | exc c fs h' => exact fun ρ2 H2 b e r q => p ρ2 H2 b (x.trans e) r q
  | bad => exact p
theorem Po.bnd {δ' : Type} {rel2 : List Addr → Hp → γ → δ' → Prop} {m : M γ} {f : γ → M α} (p : Po K rel W ρ H Q (Ip.bnd m f h)) {Rq : δ' → Hp → Prop}
    (k : ∀ d h1 ρ1 H1 v, m h = .ok d h1 → Ex ρ ρ1 H H1 → Rl K ρ1 h1 H1 → rel2 ρ1 H1 d v → Po K rel W ρ1 H1 Q (f d h1) → Rq v H1) : Po K rel2 W ρ H Rq (m h) := by
  unfold Ip.bnd at p
  cases e : m h with
  | ok d h1 =>
    rw [e] at p
    exact fun ρ1 H1 v x r q => k d h1 ρ1 H1 v e x r q (p.mono x)
  | exc c fs h1 => rw [e] at p; exact p
  | bad => rw [e] at p; exact p
theorem Po.ok {a : α} {h : Hs} (p : Po K rel W ρ H Q (.ok a h)) (r : Rl K ρ h H) {b : β} (q : rel ρ H a b) : Q b H := p ρ H b (.refl _ _) r q
end
abbrev relV (K : PySem.W.Frag) : List Addr → Hp → D → V → Prop := fun ρ H d v => RV K ρ H d v
abbrev relVs (K : PySem.W.Frag) : List Addr → Hp → List D → List V → Prop := fun ρ H d v => RVs K ρ H d v
abbrev relB : List Addr → Hp → Bool → Bool → Prop := fun _ _ a b => a = b
def rdE (K : PySem.W.Frag) (W : WX) (m : Sl → M D) : TE := fun σ H Q => ∃ ρ h δ, Rl K ρ h H ∧ RSl K ρ H δ σ ∧ Po K (relV K) (fun c d H' => W c d σ H') ρ H Q (m δ h)
def rdA (K : PySem.W.Frag) (W : WX) (m : Sl → M (List D)) : TA := fun σ H Q => ∃ ρ h δ, Rl K ρ h H ∧ RSl K ρ H δ σ ∧ Po K (relVs K) (fun c d H' => W c d σ H') ρ H Q (m δ h)
def rdT (K : PySem.W.Frag) (W : WX) (m : Sl → M Bool) : TT := fun σ H Q => ∃ ρ h δ, Rl K ρ h H ∧ RSl K ρ H δ σ ∧ Po K relB (fun c d H' => W c d σ H') ρ H Q (m δ h)
theorem PE.imp {X : Cx} {e : Expr} {t t' : TE} (p : PE X e t) (k : ∀ σ H Q, t' σ H Q → t σ H Q) : PE X e t' := ⟨fun pins s σ H Q I h => p.run pins s σ H Q I (k σ H Q h)⟩
theorem PT.imp {X : Cx} {e : Expr} {t t' : TT} (p : PT X e t) (k : ∀ σ H Q, t' σ H Q → t σ H Q) : PT X e t' := ⟨fun pins s σ H Q I h => p.run pins s σ H Q I (k σ H Q h)⟩
theorem PA.imp {X : Cx} {e : List Expr} {t t' : TA} (p : PA X e t) (k : ∀ σ H Q, t' σ H Q → t σ H Q) : PA X e t' := ⟨fun pos pins s σ H Q I h => p.run pos pins s σ H Q I (k σ H Q h)⟩
theorem PE.or {X : Cx} {e : Expr} {t t' : TE} (p : PE X e t) (q : PE X e t') : PE X e (fun σ H Q => t σ H Q ∨ t' σ H Q) := ⟨fun pins s σ H Q I h => h.elim (p.run pins s σ H Q I) (q.run pins s σ H Q I)⟩
theorem OpR.or {X : Cx} {f : Value → Value → Sem Value} {r r' : R2} (a : OpR X f r) (b : OpR X f r') : OpR X f (fun x y H Q => r x y H Q ∨ r' x y H Q) := fun pins s σ H x y v u Q I rx ry h => h.elim (a pins s σ H x y v u Q I rx ry) (b pins s σ H x y v u Q I rx ry)
theorem OpR.imp {X : Cx} {f : Value → Value → Sem Value} {r r' : R2} (a : OpR X f r) (k : ∀ x y H Q, r' x y H Q → r x y H Q) : OpR X f r' := fun pins s σ H x y v u Q I rx ry h => a pins s σ H x y v u Q I rx ry (k x y H Q h)
theorem OpR.no {X : Cx} {f : Value → Value → Sem Value} : OpR X f (fun _ _ _ _ => False) := fun _ _ _ _ _ _ _ _ _ _ _ _ h => h.elim
end Ip
end
section
set_option Elab.async false
set_option linter.all false
set_option maxRecDepth 100000
/-! operators by values -/
namespace Ip
open PySem L2
section
variable {X : Cx} {K : PySem.W.Frag} {ρ : List Addr} {h : Hs} {H : Hp} {W : XK} {g : G}
theorem binI_ok {o : Operator} {i j k : Int} (e : binI o i j = some k) {Q : VK} {H : Hp} (q : Q (.int k) H) :
    ∃ r : R2, OpR X (binaryOp o) r ∧ r (.int i) (.int j) H Q := by
  cases o with
  | Add => cases e; exact ⟨_, op_add, i, j, rfl, rfl, q⟩
  | Sub => cases e; exact ⟨_, op_sub, i, j, rfl, rfl, q⟩
  | Mult =>
    unfold binI at e
    dsimp only at e
    split at e
    · rename_i c
      cases e; exact ⟨_, op_mulW, i, j, rfl, rfl, c, q⟩
    · split at e
      · rename_i c
        cases e
        simp only [Bool.or_eq_true, Bool.and_eq_true, decide_eq_true_eq] at c
        exact ⟨_, op_mul, i, j, rfl, rfl, c, q⟩
      · cases e
  | FloorDiv =>
    unfold binI at e
    dsimp only at e
    split at e
    · rename_i c
      cases e
      simp only [Bool.and_eq_true, decide_eq_true_eq] at c
      exact ⟨_, op_fdivW, i, j, rfl, rfl, c, q⟩
    · cases e
  | Mod =>
    unfold binI at e
    dsimp only at e
    split at e
    · rename_i c
      cases e
      simp only [decide_eq_true_eq] at c
      exact ⟨_, op_mod, i, j, rfl, rfl, c, q⟩
    · cases e
  | Pow =>
    unfold binI at e
    dsimp only at e
    split at e
    · rename_i c
      cases e
      simp only [Bool.and_eq_true, decide_eq_true_eq] at c
      exact ⟨_, op_pow, i, j, rfl, rfl, ⟨c.1.1, c.1.2, c.2⟩, q⟩
    · cases e
  | LShift =>
    unfold binI at e
    dsimp only at e
    split at e
    · rename_i c
      cases e
      simp only [Bool.and_eq_true, decide_eq_true_eq] at c
      exact ⟨_, op_shlW, i, j, rfl, rfl, c, q⟩
    · cases e
  | RShift =>
    unfold binI at e
    dsimp only at e
    split at e
    · rename_i c
      cases e
      simp only [decide_eq_true_eq] at c
      exact ⟨_, op_shr, i, j, rfl, rfl, c, q⟩
    · cases e
  | BitAnd => cases e; exact ⟨_, op_and, i, j, rfl, rfl, q⟩
  | BitOr => cases e; exact ⟨_, op_or, i, j, rfl, rfl, q⟩
  | BitXor => cases e; exact ⟨_, op_xor, i, j, rfl, rfl, q⟩
  | _ => cases e
/-- a two-place operation of the machine, told by values -/
def rdO (K : PySem.W.Frag) (f : D → D → M D) : R2 := fun x y H Q => ∃ ρ h a b, Rl K ρ h H ∧ RV K ρ H a x ∧ RV K ρ H b y ∧ Po K (relV K) (fun _ _ _ => False) ρ H Q (f a b h)
theorem OpR.by {f : Value → Value → Sem Value} {r : R2} (k : ∀ x y H Q, r x y H Q → ∃ r' : R2, OpR X f r' ∧ r' x y H Q) : OpR X f r := fun pins s σ H x y v u Q I rx ry q =>
  let ⟨_, o, q'⟩ := k x y H Q q
  o pins s σ H x y v u Q I rx ry q'
theorem po_new (r : Rl K ρ h H) {o : O} {u : HO} {Q : VK} {p : Addr} (hp : H p = none) (q : Po K (relV K) W ρ H Q (alloc o h)) (ho : Rl K ρ h H → St' K ρ (ρ ++ [p]) H (upd H p u) → RO K (ρ ++ [p]) (upd H p u) o p) : Q (.ref p) (upd H p u) := by
  have hn : p ∉ ρ := fun m => by
    obtain ⟨o, ro⟩ := r.mem m
    obtain ⟨u, e⟩ := ro.some
    rw [hp] at e; cases e
  have x : Ex ρ (ρ ++ [p]) H (upd H p u) := by
    refine ⟨fun i q e => ?_, fun q o e n => ?_, fun q m => ?_⟩
    · rw [List.getElem?_append_left (List.getElem?_eq_some_iff.mp e).1]; exact e
    · rw [upd_ne (ne_of_none e hp)]; exact e
    · rcases List.mem_append.mp m with m | m
      · exact .inl m
      · rw [List.mem_singleton.mp m]; exact .inr hp
  obtain ⟨r', x'⟩ := r.new hp (ho r (r.st x))
  exact q _ _ _ x' r' ⟨p, by rw [← r.len, List.getElem?_append_right (Nat.le_refl _)]; simp, rfl⟩
theorem po_newL (r : Rl K ρ h H) {l : List D} {vs : List V} (rv : RVs K ρ H l vs) {Q : VK} {p : Addr} (hp : H p = none) (q : Po K (relV K) W ρ H Q (alloc (.lst l) h)) : Q (.ref p) (upd H p (.lst vs)) :=
  po_new r hp q fun _ st => ⟨vs, upd_same, rv.st st⟩
theorem po_newT (r : Rl K ρ h H) {l : List D} {vs : List V} (rv : RVs K ρ H l vs) {Q : VK} {p : Addr} (hp : H p = none) (q : Po K (relV K) W ρ H Q (.ok (.tup l) h)) : Q (.ref p) (upd H p (.tup vs)) := by
  obtain ⟨r', x⟩ := r.newT (u := .tup vs) hp
  exact q _ _ _ x r' ⟨p, vs, rfl, .inl upd_same, rv.mono r x⟩
theorem RVs.nil_iff {l : List D} {vs : List V} (r : RVs K ρ H l vs) : vs.isEmpty = l.isEmpty := by
  have := r.length
  cases vs <;> cases l <;> simp_all
theorem op_mul_str : OpR X (binaryOp .Mult) (fun x y H Q => ∃ i k, x = .str i ∧ y = .int k ∧ MulOk i k ∧ Q (.str (Txt.mul i k)) H) := by
  intro pins s σ H x y v u Q I rx ry h
  obtain ⟨i, k, rfl, rfl, hz, q⟩ := h
  obtain ⟨t, rfl⟩ := rx
  obtain ⟨t', rfl⟩ := ry
  exact SB.mul hz fun t' tk => ⟨.str (Txt.mul i k), H, I.tok _, ⟨_, rfl⟩, q⟩
theorem mulOk_of {i : Str} {k : Int} (h0 : 0 < k) (h1 : k ≤ 1000000) (h2 : i.length * k.toNat ≤ sizeLine) : MulOk i k := by
  refine ⟨?_, fun _ _ => ?_, fun _ _ => ?_⟩
  · simp only [Bool.or_eq_false_iff, decide_eq_false_iff_not]
    constructor <;> omega
  · have e : sizeLine = 16777216 := by decide
    rw [e] at h2
    have h3 : i.length ≤ 16777216 := Nat.le_trans (Nat.le_mul_of_pos_right _ (by omega)) h2
    have h4 : (9223372036854775807 : Int) / 1000000 ≤ (2 ^ 63 - 1) / k := by
      rw [show (2 ^ 63 - 1 : Int) = 9223372036854775807 by decide]
      rw [Int.le_ediv_iff_mul_le h0]
      calc (9223372036854775807 : Int) / 1000000 * k ≤ 9223372036854775807 / 1000000 * 1000000 := Int.mul_le_mul_of_nonneg_left h1 (by decide)
        _ ≤ 9223372036854775807 := by decide
    have h5 : (9223372036854775807 : Int) / 1000000 = 9223372036854 := by decide
    omega
  · unfold Builtin.Str.tooLong
    simp only [decide_eq_false_iff_not]
    omega
theorem op_bin {o : Operator} : OpR X (binaryOp o) (rdO X.K (binop g o)) := by
  refine OpR.by fun x y H Q ⟨ρ, h, a, b, rl, ra, rb, p⟩ => ?_
  cases a with
  | int i =>
    cases b with
    | int j =>
      rw [show x = _ from ra, show y = _ from rb]
      have p : Po X.K (relV X.K) (fun _ _ _ => False) ρ H Q ((match binI o i j with
        | some k => Ip.ret (.int k)
        | none => fail : M D) h) := p
      cases e : binI o i j with
      | some k => rw [e] at p; exact binI_ok e (p.ok rl rfl)
      | none => rw [e] at p; exact False.elim p
    | _ => exact False.elim p
  | str i =>
    cases b with
    | str j =>
      rw [show x = _ from ra, show y = _ from rb]
      cases o with
      | Add =>
        have p : Po X.K (relV X.K) (fun _ _ _ => False) ρ H Q ((if i.length + j.length ≤ sizeLine then Ip.ret (.str (i ++ j)) else fail : M D) h) := p
        by_cases c : i.length + j.length ≤ sizeLine
        · rw [if_pos c] at p
          exact ⟨_, op_add_str, i, j, rfl, rfl, c, p.ok rl rfl⟩
        · rw [if_neg c] at p; exact False.elim p
      | _ => exact False.elim p
    | int k =>
      rw [show x = _ from ra, show y = _ from rb]
      cases o with
      | Mult =>
        have p : Po X.K (relV X.K) (fun _ _ _ => False) ρ H Q ((if decide (0 < k) && decide (k ≤ 1000000) && decide (i.length * k.toNat ≤ sizeLine) then Ip.ret (.str (Txt.mul i k)) else fail : M D) h) := p
        by_cases c : (decide (0 < k) && decide (k ≤ 1000000) && decide (i.length * k.toNat ≤ sizeLine)) = true
        · rw [if_pos c] at p
          simp only [Bool.and_eq_true, decide_eq_true_eq] at c
          exact ⟨_, op_mul_str, i, k, rfl, rfl, mulOk_of c.1.1 c.1.2 c.2, p.ok rl rfl⟩
        · rw [if_neg c] at p; exact False.elim p
      | _ => exact False.elim p
    | _ => exact False.elim p
  | tup i =>
    cases b with
    | tup j =>
      cases o with
      | Add =>
        have p : Po X.K (relV X.K) (fun _ _ _ => False) ρ H Q ((if i.length + j.length ≤ sizeLine then Ip.ret (.tup (i ++ j)) else fail : M D) h) := p
        by_cases c : i.length + j.length ≤ sizeLine
        · rw [if_pos c] at p
          obtain ⟨p1, vs, rfl, s1, r1⟩ := ra
          obtain ⟨p2, ws, rfl, s2, r2⟩ := rb
          refine ⟨_, op_catA, p1, p2, vs, ws, rfl, rfl, s1.sq, s2.sq, by rw [r1.length, r2.length]; exact c, fun e => ?_, fun _ e => ?_, fun _ _ q hq => ?_⟩
          · subst e
            have hi : i = [] := by have := r1.length; cases i <;> simp_all
            subst hi
            exact p.ok rl ⟨p2, ws, rfl, s2, r2⟩
          · subst e
            have hi : j = [] := by have := r2.length; cases j <;> simp_all
            subst hi
            rw [List.append_nil] at p
            exact p.ok rl ⟨p1, vs, rfl, s1, r1⟩
          · exact po_newT rl (r1.append r2) hq p
        · rw [if_neg c] at p; exact False.elim p
      | _ => exact False.elim p
    | _ => exact False.elim p
  | ref i =>
    cases b with
    | ref j =>
      obtain ⟨p1, e1, rfl⟩ := ra
      obtain ⟨p2, e2, rfl⟩ := rb
      obtain ⟨o1, g1, ro1⟩ := rl.of e1
      obtain ⟨o2, g2, ro2⟩ := rl.of e2
      cases o with
      | Add =>
        have p : Po X.K (relV X.K) (fun _ _ _ => False) ρ H Q (match h[i]?, h[j]? with
          | some (.lst l), some (.lst m) => if l.length + m.length ≤ sizeLine then alloc (.lst (l ++ m)) h else .bad
          | _, _ => .bad) := by
            have p' := p
            simp only [rdO, binop] at p'
            revert p'
            rw [g1, g2]
            cases o1 <;> cases o2 <;> exact fun z => z
        rw [g1, g2] at p
        cases o1 with
        | lst l =>
          cases o2 with
          | lst m =>
            obtain ⟨vs, q1, r1⟩ := ro1
            obtain ⟨ws, q2, r2⟩ := ro2
            dsimp only at p
            by_cases c : l.length + m.length ≤ sizeLine
            · rw [if_pos c] at p
              exact ⟨_, op_cat, p1, p2, vs, ws, rfl, rfl, q1, q2, by rw [r1.length, r2.length]; exact c, fun q hq => po_newL rl (r1.append r2) hq p⟩
            · rw [if_neg c] at p; exact False.elim p
          | _ => exact False.elim p
        | _ => exact False.elim p
      | _ => exact False.elim p
    | int k =>
      obtain ⟨p1, e1, rfl⟩ := ra
      obtain ⟨o1, g1, ro1⟩ := rl.of e1
      cases o with
      | Mult =>
        have p : Po X.K (relV X.K) (fun _ _ _ => False) ρ H Q (match h[i]? with
          | some (.lst l) => if decide (-(2 ^ 63) ≤ k) && decide (k < 2 ^ 63) && decide (l.length * k.toNat ≤ sizeLine) then alloc (.lst (List.replicate k.toNat l).flatten) h else .bad
          | _ => .bad) := by
            have p' := p
            simp only [rdO, binop] at p'
            revert p'
            rw [g1]
            cases o1 <;> exact fun z => z
        rw [g1] at p
        cases o1 with
        | lst l =>
          obtain ⟨vs, q1, r1⟩ := ro1
          dsimp only at p
          by_cases c : (decide (-(2 ^ 63) ≤ k) && decide (k < 2 ^ 63) && decide (l.length * k.toNat ≤ sizeLine)) = true
          · rw [if_pos c] at p
            simp only [Bool.and_eq_true, decide_eq_true_eq] at c
            rw [show y = _ from rb]
            exact ⟨_, op_rep, p1, k, vs, rfl, rfl, q1, c.1.1, c.1.2, by rw [r1.length]; exact c.2, fun q hq => po_newL rl (r1.rep _) hq p⟩
          · rw [if_neg c] at p; exact False.elim p
        | _ => exact False.elim p
      | _ => exact False.elim p
    | _ => exact False.elim p
  | _ => exact False.elim p
/-! ### comparisons -/
theorem toPy_ok (rl : Rl K ρ h H) : ∀ (n : Nat) {d : D} {v : V} {p : PyData}, toPy h n d = some p → RV K ρ H d v → Dp K H v p := by
  intro n
  induction n with
  | zero => intro d v p e _; cases e
  | succ n ih =>
    have all : ∀ (l : List D) {vs : List V} {ps : List PyData}, mapO (toPy h n) l = some ps → RVs K ρ H l vs → DpAll K H vs ps := by
      intro l
      induction l with
      | nil =>
        intro vs ps e r
        cases e
        rw [show vs = [] from r]
        exact .nil
      | cons d l ihl =>
        intro vs ps e r
        obtain ⟨v, r', rfl, ra, rb⟩ := r
        unfold mapO at e
        split at e
        · rename_i p ps' e1 e2
          cases e
          exact .cons (ih e1 ra) (ihl e2 rb)
        · cases e
    intro d v p e r
    cases d with
    | non => cases e; rw [show v = _ from r]; exact .non
    | bl b => cases e; rw [show v = _ from r]; exact .bl b
    | int i => cases e; rw [show v = _ from r]; exact .int i
    | str s => cases e; rw [show v = _ from r]; exact .str s
    | tup l =>
      obtain ⟨q, vs, rfl, s, rs⟩ := r
      have e : (mapO (toPy h n) l).map PyData.tuple = some p := e
      cases e1 : mapO (toPy h n) l with
      | none => rw [e1] at e; cases e
      | some ps => rw [e1] at e; cases e; exact .tup s.sq (all l e1 rs)
    | rol l =>
      obtain ⟨q, vs, rfl, s, rs⟩ := r
      have e : (mapO (toPy h n) l).map PyData.list = some p := e
      cases e1 : mapO (toPy h n) l with
      | none => rw [e1] at e; cases e
      | some ps => rw [e1] at e; cases e; exact .lst s.sq (all l e1 rs)
    | ref a =>
      obtain ⟨q, e0, rfl⟩ := r
      obtain ⟨o, g1, ro⟩ := rl.of e0
      have e : (match h[a]? with
        | some (.lst l) => (mapO (toPy h n) l).map PyData.list
        | _ => none) = some p := e
      rw [g1] at e
      cases o with
      | lst l =>
        obtain ⟨vs, q1, rs⟩ := ro
        dsimp only at e
        cases e1 : mapO (toPy h n) l with
        | none => rw [e1] at e; cases e
        | some ps => rw [e1] at e; cases e; exact .lst (SqL.of q1) (all l e1 rs)
      | _ => cases e
    | _ => cases e
theorem pyOf_ok (rl : Rl K ρ h H) {d : D} {v : V} {p : PyData} (e : pyOf h d = some p) (r : RV K ρ H d v) : Dp K H v p ∧ SeqAt.shaped p = true := by
  unfold pyOf at e
  split at e
  · rename_i q e1
    split at e
    · rename_i c
      cases e
      exact ⟨toPy_ok rl _ e1 r, c⟩
    · cases e
  · cases e
theorem seqOf_ok (rl : Rl K ρ h H) {d : D} {v : V} {l : List D} (e : seqOf h d = some l) (r : RV K ρ H d v) : ∃ p vs, v = .ref p ∧ RVs K ρ H l vs ∧ (SqL K H p vs ∨ TpL K H p vs) := by
  cases d with
  | tup l' => cases e; obtain ⟨q, vs, rfl, s, rs⟩ := r; exact ⟨q, vs, rfl, rs, .inr s⟩
  | rol l' => cases e; obtain ⟨q, vs, rfl, s, rs⟩ := r; exact ⟨q, vs, rfl, rs, .inl s.sq⟩
  | ref a =>
    obtain ⟨q, e0, rfl⟩ := r
    obtain ⟨o, g1, ro⟩ := rl.of e0
    have e : (match h[a]? with
      | some (.lst l) => some l
      | _ => none) = some l := e
    rw [g1] at e
    cases o with
    | lst l => cases e; obtain ⟨vs, q1, rs⟩ := ro; exact ⟨q, vs, rfl, rs, .inl (SqL.of q1)⟩
    | _ => cases e
  | _ => cases e
theorem lstOf_ok (rl : Rl K ρ h H) {d : D} {v : V} {l : List D} (e : lstOf h d = some l) (r : RV K ρ H d v) : ∃ p vs, v = .ref p ∧ RVs K ρ H l vs ∧ SqL K H p vs := by
  cases d with
  | rol l' => cases e; obtain ⟨q, vs, rfl, s, rs⟩ := r; exact ⟨q, vs, rfl, rs, s.sq⟩
  | ref a =>
    obtain ⟨q, e0, rfl⟩ := r
    obtain ⟨o, g1, ro⟩ := rl.of e0
    have e : (match h[a]? with
      | some (.lst l) => some l
      | _ => none) = some l := e
    rw [g1] at e
    cases o with
    | lst l => cases e; obtain ⟨vs, q1, rs⟩ := ro; exact ⟨q, vs, rfl, rs, SqL.of q1⟩
    | _ => cases e
  | _ => cases e
theorem flat_ok {d : D} {v : V} (e : flat d = true) (r : RV K ρ H d v) : flatV v = true := by
  cases d with
  | non => rw [show v = _ from r]; rfl
  | bl b => rw [show v = _ from r]; rfl
  | int i => rw [show v = _ from r]; rfl
  | str s => rw [show v = _ from r]; rfl
  | _ => cases e
theorem eqF_ok {d d' : D} {v v' : V} (e : flat d = true) (e' : flat d' = true) (r : RV K ρ H d v) (r' : RV K ρ H d' v') : eqV v v' = eqF d d' := by
  cases d with
  | non => rw [show v = _ from r]; cases d' with
    | non => rw [show v' = _ from r']; rfl
    | bl b => rw [show v' = _ from r']; rfl
    | int i => rw [show v' = _ from r']; rfl
    | str s => rw [show v' = _ from r']; rfl
    | _ => cases e'
  | bl b => rw [show v = _ from r]; cases d' with
    | non => rw [show v' = _ from r']; rfl
    | bl b => rw [show v' = _ from r']; rfl
    | int i => rw [show v' = _ from r']; rfl
    | str s => rw [show v' = _ from r']; rfl
    | _ => cases e'
  | int i => rw [show v = _ from r]; cases d' with
    | non => rw [show v' = _ from r']; rfl
    | bl b => rw [show v' = _ from r']; rfl
    | int i => rw [show v' = _ from r']; rfl
    | str s => rw [show v' = _ from r']; rfl
    | _ => cases e'
  | str s => rw [show v = _ from r]; cases d' with
    | non => rw [show v' = _ from r']; rfl
    | bl b => rw [show v' = _ from r']; rfl
    | int i => rw [show v' = _ from r']; rfl
    | str s => rw [show v' = _ from r']; rfl
    | _ => cases e'
  | _ => cases e
theorem flats_ok : ∀ {l : List D} {vs : List V}, l.all flat = true → RVs K ρ H l vs → vs.all flatV = true
  | [], _, _, r => by rw [show _ = [] from r]; rfl
  | d :: l, _, e, ⟨v, r, e1, a, b⟩ => by
    rw [e1]
    simp only [List.all_cons, Bool.and_eq_true] at e ⊢
    exact ⟨flat_ok e.1 a, flats_ok e.2 b⟩
theorem inV_ok {x : D} {vx : V} (fx : flat x = true) (rx : RV K ρ H x vx) : ∀ {l : List D} {vs : List V}, l.all flat = true → RVs K ρ H l vs → inV vx vs = l.any fun z => eqF z x
  | [], _, _, r => by rw [show _ = [] from r]; rfl
  | d :: l, _, e, ⟨v, r, e1, a, b⟩ => by
    rw [e1]
    simp only [List.all_cons, Bool.and_eq_true] at e
    show (eqV v vx || inV vx r) = (eqF d x || l.any fun z => eqF z x)
    rw [eqF_ok e.1 fx a rx, inV_ok fx rx e.2 b]
theorem isNon_ok {d : D} {v : V} (r : RV K ρ H d v) : decide (v = .non) = isNon d := by
  cases d with
  | non => rw [show v = _ from r]; rfl
  | bl b => rw [show v = _ from r]; rfl
  | int i => rw [show v = _ from r]; rfl
  | str s => rw [show v = _ from r]; rfl
  | tup l => obtain ⟨q, vs, rfl, _⟩ := r; rfl
  | rol l => obtain ⟨q, vs, rfl, _⟩ := r; rfl
  | ref a => obtain ⟨q, _, rfl⟩ := r; rfl
  | cls c => rw [show v = _ from r]; rfl
  | ty n => rw [show v = _ from r]; rfl
  | exn a dd cc ns ds => obtain ⟨rfl, _⟩ := r; rfl
theorem isBl_ok {d : D} {v : V} {b : Bool} (r : RV K ρ H d v) : decide (v = .bl b) = isBl b d := by
  cases d with
  | non => rw [show v = _ from r]; rfl
  | bl c => rw [show v = _ from r]; simp [isBl]
  | int i => rw [show v = _ from r]; rfl
  | str s => rw [show v = _ from r]; rfl
  | tup l => obtain ⟨q, vs, rfl, _⟩ := r; rfl
  | rol l => obtain ⟨q, vs, rfl, _⟩ := r; rfl
  | ref a => obtain ⟨q, _, rfl⟩ := r; rfl
  | cls c => rw [show v = _ from r]; rfl
  | ty n => rw [show v = _ from r]; rfl
  | exn a dd cc ns ds => obtain ⟨rfl, _⟩ := r; rfl
theorem isB_gen {X : Cx} {v : V} {u : Value} {b : Bool} (rx : RelV v u) : plainIs u (.bool b) = true ∧ (u == Value.bool b) = decide (v = .bl b) := by
  cases v with
  | non => cases rx; exact ⟨rfl, rfl⟩
  | bl c => cases rx; cases b <;> cases c <;> exact ⟨rfl, rfl⟩
  | int i => obtain ⟨t, rfl⟩ := rx; exact ⟨rfl, rfl⟩
  | str i => obtain ⟨t, rfl⟩ := rx; exact ⟨rfl, rfl⟩
  | byt i => obtain ⟨t, rfl⟩ := rx; exact ⟨rfl, rfl⟩
  | flt i => obtain ⟨t, rfl⟩ := rx; exact ⟨rfl, rfl⟩
  | ref i => cases rx; exact ⟨rfl, rfl⟩
  | ty i => cases rx; exact ⟨rfl, rfl⟩
theorem op_isB {X : Cx} {b : Bool} : OpR X (compareOp .Is) (fun x y H Q => y = .bl b ∧ Q (.bl (decide (x = .bl b))) H) := by
  intro pins s σ H x y v u Q I rx ry h
  obtain ⟨rfl, q⟩ := h
  cases ry
  have e := isB_gen (X := X) (b := b) rx
  exact wpAny_is_plain e.1 ⟨.bl _, H, I, by rw [e.2]; rfl, q⟩
theorem op_notB {X : Cx} {b : Bool} : OpR X (compareOp .IsNot) (fun x y H Q => y = .bl b ∧ Q (.bl (!decide (x = .bl b))) H) := by
  intro pins s σ H x y v u Q I rx ry h
  obtain ⟨rfl, q⟩ := h
  cases ry
  have e := isB_gen (X := X) (b := b) rx
  exact wpAny_isNot_plain e.1 ⟨.bl _, H, I, by rw [e.2]; rfl, q⟩
theorem in_ok (rl : Rl K ρ h H) {x y : D} {vx vy : V} {b : Bool} (e : inD h x y = some b) (rx : RV K ρ H x vx) (ry : RV K ρ H y vy) : ∃ p vs, vy = .ref p ∧ (SqL K H p vs ∨ SqT K H p vs) ∧ flatV vx = true ∧ vs.all flatV = true ∧ inV vx vs = b := by
  unfold inD at e
  split at e
  · rename_i l e1
    split at e
    · rename_i c
      simp only [Bool.and_eq_true] at c
      cases e
      obtain ⟨p, vs, rfl, rs, s⟩ := seqOf_ok rl e1 ry
      exact ⟨p, vs, rfl, s.imp id TpL.sq, flat_ok c.1 rx, flats_ok c.2 rs, inV_ok c.1 rx c.2 rs⟩
    · cases e
  · cases e
theorem cmpB_ok (hu : X.A.units + 64 < cLine) {ρ : List Addr} (rl : Rl X.K ρ h H) {o : CmpOp} {x y : D} {vx vy : V} {b : Bool} (e : cmpB h o x y = some b) (rx : RV X.K ρ H x vx) (ry : RV X.K ρ H y vy) {Q : VK} (q : Q (.bl b) H) :
    ∃ r : R2, OpR X (compareOp o) r ∧ r vx vy H Q := by
  cases o with
  | Eq =>
    unfold cmpB at e
    dsimp only at e
    split at e
    · rename_i p p' e1 e2
      cases e
      obtain ⟨d1, s1⟩ := pyOf_ok rl e1 rx
      obtain ⟨d2, s2⟩ := pyOf_ok rl e2 ry
      exact ⟨_, op_eqD hu, p, p', d1, d2, s1, s2, q⟩
    · cases e
  | NotEq =>
    unfold cmpB at e
    dsimp only at e
    split at e
    · rename_i p p' e1 e2
      cases e
      obtain ⟨d1, s1⟩ := pyOf_ok rl e1 rx
      obtain ⟨d2, s2⟩ := pyOf_ok rl e2 ry
      exact ⟨_, op_neD hu, p, p', d1, d2, s1, s2, q⟩
    · cases e
  | Lt =>
    unfold cmpB at e
    dsimp only at e
    split at e
    · cases e; rw [show vx = _ from rx, show vy = _ from ry]; exact ⟨_, op_lt, _, _, rfl, rfl, q⟩
    · cases e; rw [show vx = _ from rx, show vy = _ from ry]; exact ⟨_, op_lt_str, _, _, rfl, rfl, q⟩
    · cases e
  | LtE =>
    unfold cmpB at e
    dsimp only at e
    split at e
    · cases e; rw [show vx = _ from rx, show vy = _ from ry]; exact ⟨_, op_le, _, _, rfl, rfl, q⟩
    · cases e; rw [show vx = _ from rx, show vy = _ from ry]; exact ⟨_, op_le_str, _, _, rfl, rfl, q⟩
    · cases e
  | Gt =>
    unfold cmpB at e
    dsimp only at e
    split at e
    · cases e; rw [show vx = _ from rx, show vy = _ from ry]; exact ⟨_, op_gt, _, _, rfl, rfl, q⟩
    · cases e; rw [show vx = _ from rx, show vy = _ from ry]; exact ⟨_, op_gt_str, _, _, rfl, rfl, q⟩
    · cases e
  | GtE =>
    unfold cmpB at e
    dsimp only at e
    split at e
    · cases e; rw [show vx = _ from rx, show vy = _ from ry]; exact ⟨_, op_ge, _, _, rfl, rfl, q⟩
    · cases e; rw [show vx = _ from rx, show vy = _ from ry]; exact ⟨_, op_ge_str, _, _, rfl, rfl, q⟩
    · cases e
  | In =>
    obtain ⟨p, vs, rfl, s, f1, f2, f3⟩ := in_ok rl (show inD h x y = some b from e) rx ry
    exact ⟨_, op_in_seq, p, vs, rfl, s, f1, f2, by rw [if_neg Bool.false_ne_true, f3]; exact q⟩
  | NotIn =>
    have e : (inD h x y).map (!·) = some b := e
    cases e1 : inD h x y with
    | none => rw [e1] at e; cases e
    | some c =>
      rw [e1] at e
      cases e
      obtain ⟨p, vs, rfl, s, f1, f2, f3⟩ := in_ok rl e1 rx ry
      exact ⟨_, op_notIn_seq, p, vs, rfl, s, f1, f2, by rw [if_pos rfl, f3]; exact q⟩
  | Is =>
    unfold cmpB at e
    dsimp only at e
    split at e
    · cases e; rw [show vy = _ from ry]; exact ⟨_, op_isN, rfl, by rw [isNon_ok rx]; exact q⟩
    · cases e; rw [show vy = _ from ry]; exact ⟨_, op_isB, rfl, by rw [isBl_ok rx]; exact q⟩
    · cases e
  | IsNot =>
    unfold cmpB at e
    dsimp only at e
    split at e
    · cases e; rw [show vy = _ from ry]; exact ⟨_, op_notN, rfl, by rw [isNon_ok rx]; exact q⟩
    · cases e; rw [show vy = _ from ry]; exact ⟨_, op_notB, rfl, by rw [isBl_ok rx]; exact q⟩
    · cases e
theorem op_cmp (hu : X.A.units + 64 < cLine) {o : CmpOp} : OpR X (compareOp o) (rdO X.K (cmpop g o)) := by
  refine OpR.by fun x y H Q ⟨ρ, h, a, b, rl, ra, rb, p⟩ => ?_
  unfold cmpop at p
  cases e : cmpB h o a b with
  | none => rw [e] at p; exact False.elim p
  | some c => rw [e] at p; exact cmpB_ok hu rl e ra rb (p.ok rl rfl)
/-! ### truth -/
theorem truthD_ok (rl : Rl K ρ h H) {d : D} {v : V} {b : Bool} (e : truthD h d = some b) (r : RV K ρ H d v) : TruV K v H b := by
  cases d with
  | non => cases e; rw [show v = _ from r]; rfl
  | bl b => cases e; rw [show v = _ from r]; rfl
  | int i => cases e; rw [show v = _ from r]; rfl
  | str s =>
    have e : (if s.length ≤ sizeLine then some ((s.length : Int) != 0) else none) = some b := e
    split at e
    · rename_i c
      cases e; rw [show v = _ from r]; exact ⟨c, rfl⟩
    · cases e
  | tup l => cases e; obtain ⟨q, vs, rfl, s, rs⟩ := r; exact .inr (.inl ⟨vs, s.sq, by rw [rs.nil_iff]⟩)
  | rol l => cases e; obtain ⟨q, vs, rfl, s, rs⟩ := r; exact .inl ⟨vs, s.sq, by rw [rs.nil_iff]⟩
  | ref a =>
    obtain ⟨q, e0, rfl⟩ := r
    obtain ⟨o, g1, ro⟩ := rl.of e0
    have e : (match h[a]? with
      | some (.lst l) => some !l.isEmpty
      | some (.dK l) => some !l.isEmpty
      | _ => none) = some b := e
    rw [g1] at e
    cases o with
    | lst l => cases e; obtain ⟨vs, q1, rs⟩ := ro; exact .inl ⟨vs, SqL.of q1, by rw [rs.nil_iff]⟩
    | dK l =>
      cases e
      obtain ⟨vs, q1, rs⟩ := ro
      refine .inr (.inr ⟨vs, q1, ?_⟩)
      cases l with
      | nil => rw [show vs = [] from rs]; rfl
      | cons a l => obtain ⟨k, d⟩ := a; obtain ⟨v, r, e, _⟩ := rs; rw [e]; rfl
    | _ => cases e
  | _ => cases e
end
end Ip
end
section
set_option Elab.async false
set_option linter.all false
set_option maxRecDepth 100000
set_option maxHeartbeats 1000000
/-! the error that is handled: its class asked by isinstance, its fields -/
namespace Ip
open PySem PySem.Spec PySem.Calls PyProof.Rows PySem.W
section
variable {prog : Program} {w : World} {A : Around} {E : Value → Shared → Prop} {K : Frag} {x D : Addr} {ox od : Obj}
/-- __class__ of an error that has a dict -/
theorem err_class {s : Shared} {Q : Option Value → Shared → Prop} (T : L2.ExcC K D) (X : K.In s.heap) (I : InstAt s.heap x ox D (some od)) (q : Q (some (.ref D)) { s with toks := s.toks + 1 }) : wpAny (model prog w) A (getAttr? (.ref x) "__class__") Q E s := by
  obtain ⟨hp, gg, dr, tk, os⟩ := s
  have isC : (clsIn K D).isSome = true := by
    obtain ⟨cd, e, _⟩ := any_some T.hd
    rw [e]; rfl
  have where_ := looks_find (M := model prog w) X I (findObj_data (od := od) isC T.ha T.hn T.ht)
  have tyx := I.type (M := model prog w)
  have own : Looks (model prog w) hp (isInstance (.ref x) (.type "BaseException")) true := tyx.andThen (looks_subIn X T.hs)
  have nob : (Value.builtin "BaseException.__getattribute__" == Value.builtin "object.__getattribute__") = false := by decide +kernel
  unfold getAttr? getAttrBy? getAttrBy
  refine wpAny_bind (wpAny_mkText (wpAny_bind (wpAny_attempt (wpAny_holding (wpAny_bind (tyx.at (wpAny_bind ((looks_findIn (M := model prog w) X T.hg).at ?_))))))))
  have b1 : (onTheHeap (Value.ref D) && Value.builtin "BaseException.__getattribute__" == Value.builtin "object.__getattribute__") = false := by
    rw [nob]; rfl
  dsimp only
  rw [b1, if_neg Bool.false_ne_true]
  unfold getAttrByItsOwn hookBefore
  refine wpAny_bind ?_
  rw [if_pos (by rfl : onTheHeap (Value.ref D) = true)]
  refine (looks_findIn (M := model prog w) X T.hk).at (wpAny_bind (wpAny_attempt (wpAny_holding ?_)))
  unfold callGetattribute
  rw [if_neg (by decide : ¬ (false && onTheHeap (Value.builtin "BaseException.__getattribute__")) = true)]
  unfold boundAndCalled
  rw [PySem.F.excAttr_ValueError.ga.bind (.ref x)]
  refine wpAny_bind (wpAny_pure (wpAny_call (codeAny_call_builtin PySem.F.excAttr_ValueError.ga.plain PySem.F.entry_bexc_ga ?_)))
  refine check_slot (i := "BaseException.__getattribute__") (owner := "BaseException") (n := "__getattribute__") (s := ⟨hp, gg, dr, tk + 1, os⟩) (self := .ref x) (rest := [.str "__class__" tk]) (kw := []) (by decide +kernel) (by decide +kernel) own (PySem.F.args_bexc_ga _ _) ?_
  unfold Builtin.«object.__getattribute__»
  refine wpAny_bind (wpAny_of_eq (a := ((Value.ref x : Value), [Value.str "__class__" tk])) (by first | rfl | (simp only [slotArgs]; rfl)) (wpAny_bind (wpAny_pure (wpAny_bind (tyx.at (wpAny_bind (where_.at ?_)))))))
  refine wpAny_bind (wpAny_holding (wpAny_call (class_get (s := ⟨hp, gg, dr, tk + 1, os⟩) X I T.hm (wpAny_pure ?_))))
  dsimp only
  rw [handedOut_of (v := Value.ref D) rfl]
  first
    | exact wpAny_pure (wpAny_pure q)
    | exact wpAny_pure q
    | exact wpAny_pure (wpAny_bind (wpAny_pure (wpAny_pure q)))
theorem cls_at (h : hasDictIn K D = true) : ∃ c d cd sl, K.lookup D = some ⟨c, d, .cls cd, sl⟩ := by
  obtain ⟨cd, e, _⟩ := any_some h
  unfold clsIn at e
  split at e
  · rename_i e'
    exact ⟨_, _, _, _, e'⟩
  · cases e
theorem kitx_err (T : L2.ExcC K D) : KitX K (.ref x) (.ref D) (fun h => InstAt h x ox D (some od)) where
  ty := fun _ _ _ I => I.type
  it := fun _ h X _ => by
    obtain ⟨c, d, cd, sl, e⟩ := cls_at T.hd
    intro A Q E s k q
    unfold isType loadHead
    exact wpAny_bind (wpAny_loadPart (k _ _ (X _ _ e)) (wpAny_pure q))
  ne := fun h tp dd its n sl X ht => by
    obtain ⟨c, d, cd, sl', e⟩ := cls_at T.hd
    cases q : (Value.ref D == Value.ref tp) with
    | false => rfl
    | true =>
      cases Value.ref.inj (beq_iff_eq.mp q)
      rw [X _ _ e] at ht
      cases ht
  ca := fun X I q => err_class T X I q
end
end Ip
namespace Ip
open PySem L2
/-- the error that the machine takes for handled is pinned -/
def HxIn (X : Cx) (g : G) : Prop := ∀ a dd c, g.hot = true → g.hx = some (a, dd, c) → ∃ oe, (a, oe) ∈ X.pn ∧ L2N.Zn (.ref (He.ga X.K c)) (some dd) oe ∧ ∃ vs, oe.data = .fields vs
/-- its class lets fields be read, isinstance be asked -/
structure XcF (K : PySem.W.Frag) (g : G) : Prop where
  fd : ∀ c f, g.xfd c f = true → XfC K (He.ga K c) ∧ PySem.W.findIn K (.ref (He.ga K c)) f = some none
  iz : ∀ c, g.xiz c = true → ExcC K (He.ga K c)
/-- what isinstance asks of a value -/
def KtX (X : Cx) (H : Hp) (v : V) (t : Value) : Prop := ∀ (pins : List (Addr × Obj)) (s : Shared) (σ : St) (u : Value), Inv X pins σ H s → RelV v u → ∃ P : Heap → Prop, PySem.W.KitX X.K u t P ∧ P s.heap ∧ u ≠ .builtin "__main__.__loader__#opaque"
section
variable {X : Cx} {g : G} {H : Hp}
theorem KtX.of {v : V} {t : Value} (y : TyX X.K H v t) : KtX X H v t := fun _ _ _ _ I r => kit_of I r y
theorem err_at (hx : HxIn X g) {a dd : Addr} {c : Str} (e : xOk g a dd c = true) {fs : List (Str × V)} (hd : H dd = some (.xd fs)) {pins : List (Addr × Obj)} {s : Shared} {σ : St} (I : Inv X pins σ H s) :
    ∃ (oe od : Obj) (mA : Str → Option Value), PySem.W.InstAt s.heap a oe (He.ga X.K c) (some od) ∧ (∀ f, RelO (fs.lookup f) (mA f)) ∧ ∀ n, PySem.W.lookIn n od = some (mA n) := by
  obtain ⟨e1, e2⟩ := Bool.and_eq_true_iff.mp e
  obtain ⟨oe, m, hz, vs, hv⟩ := hx a dd c e1 (of_decide_eq_true e2)
  obtain ⟨ha, _⟩ := I.pin (a, oe) (List.mem_append_left _ m)
  obtain ⟨mA, hns, hr⟩ := (show ObjOk X.prog X.w H s.heap dd (.xd fs) from I.hok dd _ hd)
  obtain ⟨od, ho, hl⟩ := lookIn_ns hns
  exact ⟨oe, od, mA, ⟨ha, hz.1, by unfold PySem.W.notCls; rw [hv] <;> rfl, by rw [hz.2.1]; exact ho⟩, hr, hl⟩
theorem KtX.err (hx : HxIn X g) (xf : XcF X.K g) {a dd : Addr} {c : Str} (e : xOk g a dd c = true) (hi : g.xiz c = true) {fs : List (Str × V)} (hd : H dd = some (.xd fs)) : KtX X H (.ref a) (.ref (He.ga X.K c)) := fun pins s σ u I r => by
  cases (show u = Value.ref a from r)
  obtain ⟨oe, od, mA, J, _⟩ := err_at hx e hd I
  exact ⟨_, kitx_err (xf.iz c hi), J, fun z => nomatch z⟩
theorem ci_one : CallR X (.builtin "isinstance") (fun xs H Q => ∃ (x c : V) (t u : Value) (b : Bool), xs = [x, c] ∧ ClsV c u ∧ KtX X H x t ∧ PySem.W.kitOne X.K t u = some b ∧ Q (.bl b) H) := by
  rintro pins s σ H xs us Q I r ⟨x, c, t, u, b, rfl, k, ty, e, q⟩
  obtain ⟨w1, w2, rfl, r1, r2⟩ := vals2 r
  cases k.eq r2
  obtain ⟨P, Z, p, hx⟩ := ty pins s σ w1 I r1
  exact PySem.W.kia_one Z I.kIn p e hx fun tk => ⟨.bl b, _, I.tok tk, rfl, q⟩
theorem ci_tup : CallR X (.builtin "isinstance") (fun xs H Q => ∃ (x : V) (tp : Addr) (cs : List V) (t : Value) (us : List Value) (b : Bool), xs = [x, .ref tp] ∧ TpL X.K H tp cs ∧ Paired ClsV cs us ∧ KtX X H x t ∧ PySem.W.kitAny X.K t us = some b ∧ Q (.bl b) H) := by
  rintro pins s σ H xs us Q I r ⟨x, tp, cs, t, ws, b, rfl, hT, k, ty, e, q⟩
  obtain ⟨w1, w2, rfl, r1, r2⟩ := vals2 r
  cases (show w2 = Value.ref tp from r2)
  obtain ⟨P, Z, p, hx⟩ := ty pins s σ w1 I r1
  rcases hT with hT | ⟨o, its, n, h1, h2, h3, _, h5⟩
  · obtain ⟨_, its, rv, ⟨oc, od, dt, sl⟩, h1, h2, n, h3⟩ := (show ObjOk X.prog X.w H s.heap tp (.tup cs) from I.hok tp _ hT)
    cases ClsV.all k rv
    cases h2
    cases h3
    exact PySem.W.kia_tup Z I.kIn p h1 e hx fun tk => ⟨.bl b, _, I.tok tk, rfl, q⟩
  · obtain ⟨oc, od, dt, sl⟩ := o
    cases h2
    cases h3
    have ei : its = ws.toArray := by rw [← ClsV.all k h5]
    subst ei
    exact PySem.W.kia_tup Z I.kIn p (I.kIn _ _ h1) e hx fun tk => ⟨.bl b, _, I.tok tk, rfl, q⟩
/-- e.f -/
theorem xf_ga (hx : HxIn X g) (xf : XcF X.K g) {p dd : Addr} {c f : Str} {fs : List (Str × V)} {v : V} (e : xOk g p dd c = true) (hf : g.xfd c f = true) (hd : H dd = some (.xd fs)) (hl : fs.lookup f = some v) {pins : List (Addr × Obj)} {s : Shared} {σ : St} {A : Around} {E : Value → Shared → Prop}
    {b : Bool} {Q : VK} (I : Inv X pins σ H s) (q : Q v H) : wpAny (model X.prog X.w) A (getAttr (.ref p) f b) (EP X pins σ Q) E s := by
  obtain ⟨oe, od, mA, J, hr, hm⟩ := err_at hx e hd I
  obtain ⟨T, hno⟩ := xf.fd c f hf
  have hv := hr f
  rw [hl] at hv
  obtain ⟨u, hu, ru⟩ := RelO.some_of (v := v) (o := mA f) hv
  exact HandSPX.exc_get I.kIn J T.ga T.gg T.exC (PySem.W.findObj_own T.hdC hno rfl (by rw [hm, hu])) (handed_of ru) ⟨v, H, I.tok _, ru, q⟩
end
end Ip
end
section
set_option Elab.async false
set_option linter.all false
set_option maxRecDepth 100000
/-! subscripts, fields, built-ins by values -/
namespace Ip
open PySem L2
section
variable {X : Cx} {K : PySem.W.Frag} {ρ : List Addr} {h : Hs} {H : Hp} {W : XK} {g : G}
theorem RVs.atI {l : List D} {vs : List V} {i : Int} {d : D} (r : RVs K ρ H l vs) (e : L2.atI l i = some d) : ∃ v, L2.atI vs i = some v ∧ RV K ρ H d v := by
  unfold L2.atI at e ⊢
  rw [r.length]
  cases q : ixN l.length i with
  | none => rw [q] at e; cases e
  | some j => rw [q] at e; exact r.get e
theorem IxR.by {r : R2} (k : ∀ x y H Q, r x y H Q → ∃ r' : R2, IxR X r' ∧ r' x y H Q) : IxR X r := fun value slice pins s σ H x y v u Q I rx ry q =>
  let ⟨_, o, q'⟩ := k x y H Q q
  o value slice pins s σ H x y v u Q I rx ry q'
theorem ix_get : IxR X (rdO X.K getitem) := by
  refine IxR.by fun x y H Q ⟨ρ, h, a, b, rl, ra, rb, p⟩ => ?_
  have seq : ∀ k, b = .int k → Po X.K (relV X.K) (fun _ _ _ => False) ρ H Q (match seqOf h a with
    | some l => (match atI l k with
      | some d => .ok d h
      | none => .bad)
    | none => .bad) → ∃ r' : R2, IxR X r' ∧ r' x y H Q := fun k eb p => by
    rename_i p0
    clear p0
    subst eb
    rw [show y = _ from rb]
    cases e : seqOf h a with
    | none => rw [e] at p; exact False.elim p
    | some l =>
      rw [e] at p
      dsimp only at p
      cases e2 : atI l k with
      | none => rw [e2] at p; exact False.elim p
      | some d =>
        rw [e2] at p
        obtain ⟨q, vs, rfl, rs, s⟩ := seqOf_ok rl e ra
        obtain ⟨v, ev, rv⟩ := rs.atI e2
        rcases s with s | s
        · exact ⟨_, ix_list, q, vs, k, v, rfl, rfl, s, ev, p.ok rl rv⟩
        · exact ⟨_, ix_tup, q, vs, k, v, rfl, rfl, s.sq, ev, p.ok rl rv⟩
  cases b with
  | int k =>
    cases a with
    | str z =>
      rw [show x = _ from ra, show y = _ from rb]
      have p : Po X.K (relV X.K) (fun _ _ _ => False) ρ H Q (if z.length ≤ sizeLine then (match atI z.cps.toList k with
        | some c => .ok (.str ⟨#[c]⟩) h
        | none => .bad) else .bad) := p
      by_cases c : z.length ≤ sizeLine
      · rw [if_pos c] at p
        cases e : atI z.cps.toList k with
        | none => rw [e] at p; exact False.elim p
        | some cc => rw [e] at p; exact ⟨_, ix_str, z, k, cc, rfl, rfl, c, e, p.ok rl rfl⟩
      · rw [if_neg c] at p; exact False.elim p
    | tup l => exact seq k rfl p
    | rol l => exact seq k rfl p
    | ref l => exact seq k rfl p
    | _ => exact False.elim p
  | _ => cases a <;> exact False.elim p
/-- slices -/
def rdSl (K : PySem.W.Frag) : V → Option Int → Option Int → Hp → VK → Prop := fun x lo hi H Q => ∃ ρ h a, Rl K ρ h H ∧ RV K ρ H a x ∧ Po K (relV K) (fun _ _ _ => False) ρ H Q (slice a lo hi h)
theorem SlR.by {r : V → Option Int → Option Int → Hp → VK → Prop} (k : ∀ x lo hi H Q, r x lo hi H Q → ∃ r' : V → Option Int → Option Int → Hp → VK → Prop, SlR X r' ∧ r' x lo hi H Q) : SlR X r := fun pins s σ H x v vl vu lo hi sl Q I rx hs pl pu q =>
  let ⟨_, o, q'⟩ := k x lo hi H Q q
  o pins s σ H x v vl vu lo hi sl Q I rx hs pl pu q'
theorem RVs.cut {l : List D} {vs : List V} (r : RVs K ρ H l vs) (lo hi : Option Int) : RVs K ρ H (cutD l lo hi) (cutV vs lo hi) := by
  unfold cutD cutV
  rw [r.length]
  exact (r.drop _).take _
theorem sl_get : SlR X (rdSl X.K) := by
  refine SlR.by fun x lo hi H Q ⟨ρ, h, a, rl, ra, p⟩ => ?_
  cases a with
  | tup l =>
    have p : Po X.K (relV X.K) (fun _ _ _ => False) ρ H Q (.ok (.tup (cutD l lo hi)) h) := p
    obtain ⟨q, vs, rfl, s, rs⟩ := ra
    refine ⟨_, sl_tupA, q, vs, rfl, s.sq, fun e => ?_, fun e q hq => po_newT rl (rs.cut lo hi) hq p⟩
    have rc := rs.cut lo hi
    have e2 : cutV vs lo hi = vs := by unfold cutV; rw [e.1, e.2]; simp
    rw [e2] at rc
    exact p.ok rl ⟨_, vs, rfl, s, rc⟩
  | ref i =>
    obtain ⟨q, e0, rfl⟩ := ra
    obtain ⟨o, g1, ro⟩ := rl.of e0
    have p : Po X.K (relV X.K) (fun _ _ _ => False) ρ H Q (match h[i]? with
      | some (.lst l) => alloc (.lst (cutD l lo hi)) h
      | _ => .bad) := p
    rw [g1] at p
    cases o with
    | lst l =>
      obtain ⟨vs, q1, rs⟩ := ro
      exact ⟨_, sl_list, q, vs, rfl, SqL.of q1, fun q hq => po_newL rl (rs.cut lo hi) hq p⟩
    | _ => exact False.elim p
  | str z =>
    rw [show x = _ from ra]
    have p : Po X.K (relV X.K) (fun _ _ _ => False) ρ H Q ((if z.length ≤ sizeLine then Ip.ret (.str (cutS z lo hi)) else fail : M D) h) := p
    by_cases c : z.length ≤ sizeLine
    · rw [if_pos c] at p
      exact ⟨_, sl_str, z, rfl, c, p.ok rl rfl⟩
    · rw [if_neg c] at p; exact False.elim p
  | _ => exact False.elim p
/-- o[i] = v -/
def PoU (K : PySem.W.Frag) (W : XK) (ρ : List Addr) (H : Hp) (Q : Hp → Prop) (r : R Unit) : Prop := Po K (fun _ _ (_ : Unit) (_ : Unit) => True) W ρ H (fun _ H' => Q H') r
def rdSet (K : PySem.W.Frag) : TSet := fun o i v H Q => ∃ ρ h a b c, Rl K ρ h H ∧ RV K ρ H a o ∧ RV K ρ H b i ∧ RV K ρ H c v ∧ PoU K (fun _ _ _ => False) ρ H Q (setitem a b c h)
theorem set_item : PSet X (rdSet X.K) := by
  intro pins s σ H o i v ov iv u Q I ro ri rv ⟨ρ, h, a, b, c, rl, ra, rb, rc, p⟩
  have fin : ∃ t : TSet, PSet X t ∧ t o i v H Q := by
    cases a with
    | ref a =>
      cases b with
      | int k =>
        obtain ⟨q, e0, rfl⟩ := ra
        rw [show i = _ from rb]
        obtain ⟨o, g1, r1⟩ := rl.of e0
        have p : PoU X.K (fun _ _ _ => False) ρ H Q (match h[a]? with
          | some (.lst l) => (match ixN l.length k with
            | some j => .ok () (h.set a (.lst (l.set j c)))
            | none => .bad)
          | _ => .bad) := p
        rw [g1] at p
        cases o with
        | lst l =>
          obtain ⟨vs, q1, rs⟩ := r1
          dsimp only at p
          cases e : ixN l.length k with
          | none => rw [e] at p; exact False.elim p
          | some j =>
            rw [e] at p
            obtain ⟨r', x⟩ := rl.wr (a := a) (p := q) (u := .lst (vs.set j v)) (o := .lst (l.set j c)) e0 fun st => ⟨_, upd_same, (rs.set rc j).st st⟩
            exact ⟨_, set_list, q, vs, k, j, rfl, rfl, q1, by rw [rs.length]; exact e, p _ _ () x r' True.intro⟩
        | _ => exact False.elim p
      | _ => exact False.elim p
    | _ => exact False.elim p
  obtain ⟨t, pt, q⟩ := fin
  exact pt pins s σ H o i v ov iv u Q I ro ri rv q
/-! ### built-ins -/
def rdC (K : PySem.W.Frag) (m : List D → M D) : List V → Hp → VK → Prop := fun xs H Q => ∃ ρ h ds, Rl K ρ h H ∧ RVs K ρ H ds xs ∧ Po K (relV K) (fun _ _ _ => False) ρ H Q (m ds h)
theorem CallR.by {f : Value} {r : List V → Hp → VK → Prop} (k : ∀ xs H Q, r xs H Q → ∃ r' : List V → Hp → VK → Prop, CallR X f r' ∧ r' xs H Q) : CallR X f r := fun pins s σ H xs us Q I rx q =>
  let ⟨_, o, q'⟩ := k xs H Q q
  o pins s σ H xs us Q I rx q'
def biVal : Bi → Value
  | .len => .builtin "len"
  | .int => .type "int"
  | .str => .type "str"
  | .tuple => .type "tuple"
  | .list => .type "list"
  | .abs => .builtin "abs"
  | .max => .builtin "max"
  | .min => .builtin "min"
  | .sum => .builtin "sum"
  | .all => .builtin "all"
  | .any => .builtin "any"
  | .isi => .builtin "isinstance"
def biName : Bi → Str
  | .len => "len"
  | .int => "int"
  | .str => "str"
  | .tuple => "tuple"
  | .list => "list"
  | .abs => "abs"
  | .max => "max"
  | .min => "min"
  | .sum => "sum"
  | .all => "all"
  | .any => "any"
  | .isi => "isinstance"
def tv (K : PySem.W.Frag) : D → Value
  | .ty n => .type n
  | .cls c => .ref (He.ga K c)
  | _ => .none
/-- what the machine's table of isinstance answers must have -/
structure IsOk (K : PySem.W.Frag) (g : G) : Prop where
  one : ∀ t c b, g.isi t c = some b → PySem.W.kitOne K (tv K t) (tv K c) = some b ∧ ((∃ n, c = .ty n) ∨ ∃ x, c = .cls x)
  ist : ∀ c, g.ist c = true → Cls K (He.ga K c) ∧ PySem.W.findIn K (.ref (He.ga K c)) "__class__" = some (some (.builtin "object.__class__")) ∧
    PySem.W.specialIn K (.builtin "object.__class__") "__get__" = some (some (.builtin "getset_descriptor.__get__")) ∧ PySem.W.takesIn K (.builtin "object.__class__") = some true ∧ PySem.W.mroIn K (He.ga K c) (.type "object") = some true
theorem clsV {c : D} {v : V} (r : RV K ρ H c v) (hc : (∃ n, c = .ty n) ∨ ∃ x, c = .cls x) : ClsV v (tv K c) := by
  rcases hc with ⟨n, rfl⟩ | ⟨n, rfl⟩
  · rw [show v = _ from r]; exact .ty n
  · rw [show v = _ from r]; exact .own _
theorem sqT_ty {p : Addr} {vs : List V} (s : TpL K H p vs) : TyX K H (.ref p) (.type "tuple") := by
  rcases s with e | ⟨o, its, n, e, c, _⟩
  · exact .base (.tup e)
  · exact .kTuple e c
theorem fzL_ty {p : Addr} {vs : List V} (s : FzL K H p vs) : TyX K H (.ref p) (.type "list") := by
  rcases s with ⟨o, e⟩ | ⟨o, its, n, e, c, _⟩
  · exact .base (.frz e)
  · exact .kList e c
theorem tyOf_ok {X : Cx} (ik : IsOk X.K g) (hx : HxIn X g) (xf : XcF X.K g) (rl : Rl X.K ρ h H) {d t : D} {v : V} (e : tyOf g h d = some t) (r : RV X.K ρ H d v) : KtX X H v (tv X.K t) := by
  cases d with
  | non => cases e; rw [show v = _ from r]; exact .of <| .base .non
  | bl b => cases e; rw [show v = _ from r]; exact .of <| .base (.bl b)
  | int b => cases e; rw [show v = _ from r]; exact .of <| .base (.int b)
  | str b => cases e; rw [show v = _ from r]; exact .of <| .base (.str b)
  | tup l => cases e; obtain ⟨q, vs, rfl, s, rs⟩ := r; exact .of (sqT_ty s)
  | rol l => cases e; obtain ⟨q, vs, rfl, s, rs⟩ := r; exact .of (fzL_ty s)
  | ref a =>
    obtain ⟨q, e0, rfl⟩ := r
    obtain ⟨o, g1, ro⟩ := rl.of e0
    have e : (match h[a]? with
      | some (.lst _) => some (D.ty "list")
      | some (.dK _) => some (.ty "dict")
      | some (.dT _) => some (.ty "dict")
      | some (.ins c _) => if g.ist c then some (.cls c) else none
      | none => none) = some t := e
    rw [g1] at e
    cases o with
    | lst l => cases e; obtain ⟨vs, q1, _⟩ := ro; exact .of <| .base (.lst q1)
    | dK l => cases e; obtain ⟨vs, q1, _⟩ := ro; exact .of <| .base (.dK q1)
    | dT l => cases e; obtain ⟨vs, q1, _⟩ := ro; exact .of <| .base (.dT q1)
    | ins c fs =>
      dsimp only at e
      cases hc : g.ist c with
      | false => rw [hc] at e; cases e
      | true =>
        rw [hc] at e; cases e
        obtain ⟨dx, vs, q1, _⟩ := ro
        obtain ⟨a1, a2, a3, a4, a5⟩ := ik.ist c hc
        exact .of <| .base (.ins q1 a1 a2 a3 a4 a5)
  | exn a dd c ns ds =>
    have e : (if xOk g a dd c && g.xiz c then some (D.cls c) else none) = some t := e
    split at e
    · rename_i q
      obtain ⟨q1, q2⟩ := Bool.and_eq_true_iff.mp q
      cases e
      obtain ⟨rfl, ws, hd, _⟩ := r
      exact .err hx xf q1 q2 hd
    · cases e
  | _ => cases e
theorem isiAny_ok (ik : IsOk K g) {t : D} : ∀ {cs : List D} {b : Bool}, isiAny g t cs = some b → PySem.W.kitAny K (tv K t) (cs.map (tv K)) = some b
  | [], _, e => e
  | c :: cs, b, e => by
    unfold isiAny at e
    unfold PySem.W.kitAny
    rw [List.map_cons]
    dsimp only
    cases e1 : g.isi t c with
    | none => rw [e1] at e; cases e
    | some k =>
      rw [e1] at e
      rw [(ik.one t c k e1).1]
      cases k with
      | true => exact e
      | false => exact isiAny_ok ik e
theorem clsVs : ∀ {cs : List D} {vs : List V}, cs.all isCls = true → RVs K ρ H cs vs → Paired ClsV vs (cs.map (tv K))
  | [], _, _, r => by rw [show _ = [] from r]; exact .nil
  | c :: cs, _, e, ⟨v, r, e1, a, b⟩ => by
    rw [e1]
    simp only [List.all_cons, Bool.and_eq_true] at e
    refine .cons (clsV a ?_) (clsVs e.2 b)
    cases c with
    | ty n => exact .inl ⟨n, rfl⟩
    | cls n => exact .inr ⟨n, rfl⟩
    | _ => cases e.1
theorem vs1 {d : D} {vs : List V} (r : RVs K ρ H [d] vs) : ∃ v, vs = [v] ∧ RV K ρ H d v := by
  obtain ⟨v, r', rfl, a, b⟩ := r
  rw [show r' = [] from b]
  exact ⟨v, rfl, a⟩
theorem vs2 {d e : D} {vs : List V} (r : RVs K ρ H [d, e] vs) : ∃ v w, vs = [v, w] ∧ RV K ρ H d v ∧ RV K ρ H e w := by
  obtain ⟨v, r', rfl, a, b⟩ := r
  obtain ⟨w, rfl, c⟩ := vs1 b
  exact ⟨v, w, rfl, a, c⟩
open PySem.Spec PySem.Calls PyProof.Rows PyProof.V in
/-- sum(xs) of a tuple of ints -/
theorem cr_sumT {X : Cx} (hc : X.calm = true) : CallR X (.builtin "sum") (fun vs H Q => ∃ (a : Addr) (ns : List Int), vs = [V.ref a] ∧ SqT X.K H a (ns.map V.int) ∧ Q (.int ns.sum) H) := by
  intro pins s σ H vs us Q I r h
  obtain ⟨a, ns, rfl, hs, q⟩ := h
  obtain ⟨its, rv, hl, _⟩ := I.tuple hs
  rw [Vals.ref1 r]
  have hi := rv.ints
  obtain ⟨xs, e⟩ := hi.allInts.items
  have hn : numsOf (intItems xs).toList = ns := by rw [← e]; exact hi.numsOf
  rw [nums_intItems] at hn
  rw [e] at hl
  refine PySem.W.ktm_sumG (I.ok.hd hc) hl fun h' tk t' hk => ?_
  rw [preSum_eq, List.take_of_length_le (by simp), hn]
  exact ⟨.int _, H, I.kept hk, ⟨_, rfl⟩, q⟩
theorem ints_ok : ∀ {l : List D} {vs : List V} {ns : List Int}, intsD l = some ns → RVs K ρ H l vs → vs = ns.map V.int
  | [], _, _, e, r => by cases e; exact r
  | .int i :: l, _, ns, e, ⟨v, r, e1, a, b⟩ => by
    have e : (intsD l).map (i :: ·) = some ns := e
    cases q : intsD l with
    | none => rw [q] at e; cases e
    | some ms => rw [q] at e; cases e; rw [e1, show v = _ from a, ints_ok q b]; rfl
  | .non :: _, _, _, e, _ => nomatch e
  | .bl _ :: _, _, _, e, _ => nomatch e
  | .str _ :: _, _, _, e, _ => nomatch e
  | .tup _ :: _, _, _, e, _ => nomatch e
  | .rol _ :: _, _, _, e, _ => nomatch e
  | .ref _ :: _, _, _, e, _ => nomatch e
  | .cls _ :: _, _, _, e, _ => nomatch e
  | .ty _ :: _, _, _, e, _ => nomatch e
  | .exn _ _ _ _ _ :: _, _, _, e, _ => nomatch e
theorem bools_ok : ∀ {l : List D} {vs : List V} {ns : List Bool}, boolsD l = some ns → RVs K ρ H l vs → vs = ns.map V.bl
  | [], _, _, e, r => by cases e; exact r
  | .bl i :: l, _, ns, e, ⟨v, r, e1, a, b⟩ => by
    have e : (boolsD l).map (i :: ·) = some ns := e
    cases q : boolsD l with
    | none => rw [q] at e; cases e
    | some ms => rw [q] at e; cases e; rw [e1, show v = _ from a, bools_ok q b]; rfl
  | .non :: _, _, _, e, _ => nomatch e
  | .int _ :: _, _, _, e, _ => nomatch e
  | .str _ :: _, _, _, e, _ => nomatch e
  | .tup _ :: _, _, _, e, _ => nomatch e
  | .rol _ :: _, _, _, e, _ => nomatch e
  | .ref _ :: _, _, _, e, _ => nomatch e
  | .cls _ :: _, _, _, e, _ => nomatch e
  | .ty _ :: _, _, _, e, _ => nomatch e
  | .exn _ _ _ _ _ :: _, _, _, e, _ => nomatch e
theorem len_ok (rl : Rl K ρ h H) {d : D} {v : V} {n : Nat} (e : lenOf h d = some n) (r : RV K ρ H d v) : LenV K v H n := by
  have seq : (seqOf h d).map (·.length) = some n → LenV K v H n := fun e => by
    cases q : seqOf h d with
    | none => rw [q] at e; cases e
    | some l =>
      rw [q] at e; cases e
      obtain ⟨p, vs, rfl, rs, s⟩ := seqOf_ok rl q r
      rcases s with s | s
      · exact .inl ⟨vs, s, rs.length.symm⟩
      · exact .inr ⟨vs, s.sq, rs.length.symm⟩
  cases d with
  | str z =>
    have e : (if z.length ≤ sizeLine then some z.length else none) = some n := e
    split at e
    · rename_i c; cases e; rw [show v = _ from r]; exact ⟨c, rfl⟩
    · cases e
  | _ => exact seq e
theorem bi_call (ik : IsOk X.K g) (hx : HxIn X g) (xf : XcF X.K g) (hc : g.hot = false → X.calm = true) {f : Bi} : CallR X (biVal f) (rdC X.K (biF g f)) := by
  refine CallR.by fun xs H Q ⟨ρ, h, ds, rl, rs, p⟩ => ?_
  have hot : ∀ {r : R D}, Po X.K (relV X.K) (fun _ _ _ => False) ρ H Q (if g.hot then .bad else r) → X.calm = true ∧ Po X.K (relV X.K) (fun _ _ _ => False) ρ H Q r := fun {r} p => by
    cases e : g.hot with
    | true => rw [e] at p; exact False.elim p
    | false => rw [e] at p; exact ⟨hc e, p⟩
  cases f with
  | len =>
    cases ds with
    | nil => exact False.elim p
    | cons x ds =>
      cases ds with
      | cons y ds => cases x <;> exact False.elim p
      | nil =>
        obtain ⟨v, rfl, r⟩ := vs1 rs
        have p : Po X.K (relV X.K) (fun _ _ _ => False) ρ H Q (match lenOf h x with
          | some n => .ok (.int n) h
          | none => .bad) := p
        cases e : lenOf h x with
        | none => rw [e] at p; exact False.elim p
        | some n => rw [e] at p; exact ⟨_, call_len, v, n, rfl, len_ok rl e r, p.ok rl rfl⟩
  | int =>
    cases ds with
    | nil => exact False.elim p
    | cons x ds =>
      cases ds with
      | cons y ds => cases x <;> exact False.elim p
      | nil =>
        cases x with
        | int i =>
          obtain ⟨v, rfl, r⟩ := vs1 rs
          rw [show v = _ from r]
          have p : Po X.K (relV X.K) (fun _ _ _ => False) ρ H Q (.ok (.int i) h) := p
          exact ⟨_, call_int1, .inl ⟨i, rfl, p.ok rl rfl⟩⟩
        | bl i =>
          obtain ⟨v, rfl, r⟩ := vs1 rs
          rw [show v = _ from r]
          have p : Po X.K (relV X.K) (fun _ _ _ => False) ρ H Q (.ok (.int (if i then 1 else 0)) h) := p
          exact ⟨_, call_int1, .inr ⟨i, rfl, p.ok rl rfl⟩⟩
        | str z =>
          obtain ⟨v, rfl, r⟩ := vs1 rs
          rw [show v = _ from r]
          have p : Po X.K (relV X.K) (fun _ _ _ => False) ρ H Q (if z.length ≤ 640 then (match PySem.intText? z with
            | some n => .ok (.int n) h
            | none => .bad) else .bad) := p
          by_cases c : z.length ≤ 640
          · rw [if_pos c] at p
            cases e : PySem.intText? z with
            | none => rw [e] at p; exact False.elim p
            | some n => rw [e] at p; exact ⟨_, call_int_str, z, n, rfl, e, c, p.ok rl rfl⟩
          · rw [if_neg c] at p; exact False.elim p
        | _ => exact False.elim p
  | str =>
    cases ds with
    | nil => exact False.elim p
    | cons x ds =>
      cases ds with
      | cons y ds => cases x <;> exact False.elim p
      | nil =>
        cases x with
        | int i =>
          obtain ⟨v, rfl, r⟩ := vs1 rs
          rw [show v = _ from r]
          have p : Po X.K (relV X.K) (fun _ _ _ => False) ρ H Q (if i.natAbs.log2 < 1920 then .ok (.str (toString i)) h else .bad) := p
          by_cases c : i.natAbs.log2 < 1920
          · rw [if_pos c] at p
            exact ⟨_, call_str_int, i, rfl, c, p.ok rl rfl⟩
          · rw [if_neg c] at p; exact False.elim p
        | _ => exact False.elim p
  | abs =>
    cases ds with
    | nil => exact False.elim p
    | cons x ds =>
      cases ds with
      | cons y ds => cases x <;> exact False.elim p
      | nil =>
        cases x with
        | int i =>
          obtain ⟨v, rfl, r⟩ := vs1 rs
          rw [show v = _ from r]
          have p : Po X.K (relV X.K) (fun _ _ _ => False) ρ H Q (.ok (.int (if i < 0 then -i else i)) h) := p
          exact ⟨_, call_abs, i, rfl, p.ok rl rfl⟩
        | _ => exact False.elim p
  | tuple =>
    cases ds with
    | nil => exact False.elim p
    | cons x ds =>
      cases ds with
      | cons y ds => cases x <;> exact False.elim p
      | nil =>
        obtain ⟨v, rfl, r⟩ := vs1 rs
        have p : Po X.K (relV X.K) (fun _ _ _ => False) ρ H Q (match seqOf h x with
          | some l => .ok (.tup l) h
          | none => .bad) := p
        cases e : seqOf h x with
        | none => rw [e] at p; exact False.elim p
        | some l =>
          rw [e] at p
          obtain ⟨q, vs, rfl, rs, s⟩ := seqOf_ok rl e r
          rcases s with s | s
          · exact ⟨_, call_tuple_of, q, vs, rfl, .inl ⟨s, fun l hl => po_newT rl rs hl p⟩⟩
          · exact ⟨_, call_tuple_of, q, vs, rfl, .inr ⟨s.sq, p.ok rl ⟨q, vs, rfl, s, rs⟩⟩⟩
  | list =>
    cases ds with
    | nil => exact False.elim p
    | cons x ds =>
      cases ds with
      | cons y ds => cases x <;> exact False.elim p
      | nil =>
        obtain ⟨v, rfl, r⟩ := vs1 rs
        have p : Po X.K (relV X.K) (fun _ _ _ => False) ρ H Q (match seqOf h x with
          | some l => alloc (.lst l) h
          | none => .bad) := p
        cases e : seqOf h x with
        | none => rw [e] at p; exact False.elim p
        | some l =>
          rw [e] at p
          obtain ⟨q, vs, rfl, rs, s⟩ := seqOf_ok rl e r
          exact ⟨_, call_list_of, q, vs, rfl, s.imp id TpL.sq, fun l hl => po_newL rl rs hl p⟩
  | isi =>
    cases ds with
    | nil => exact False.elim p
    | cons x ds =>
      cases ds with
      | nil => cases x <;> exact False.elim p
      | cons c ds =>
        cases ds with
        | cons z ds => cases x <;> cases c <;> exact False.elim p
        | nil =>
          obtain ⟨v, w, rfl, r1, r2⟩ := vs2 rs
          have p : Po X.K (relV X.K) (fun _ _ _ => False) ρ H Q (match (tyOf g h x).bind fun t => isiD g t c with
            | some b => .ok (.bl b) h
            | none => .bad) := p
          cases e : tyOf g h x with
          | none => rw [e] at p; exact False.elim p
          | some t =>
            rw [e] at p
            have p : Po X.K (relV X.K) (fun _ _ _ => False) ρ H Q (match isiD g t c with
              | some b => .ok (.bl b) h
              | none => .bad) := p
            cases e2 : isiD g t c with
            | none => rw [e2] at p; exact False.elim p
            | some b =>
              rw [e2] at p
              have pb : Q (.bl b) H := p.ok rl rfl
              have ty := tyOf_ok ik hx xf rl e r1
              have one : g.isi t c = some b → ∃ r' : List V → Hp → VK → Prop, CallR X (biVal .isi) r' ∧ r' [v, w] H Q := fun e2 => by
                obtain ⟨k1, k2⟩ := ik.one t c b e2
                exact ⟨_, ci_one, v, w, _, _, b, rfl, clsV r2 k2, ty, k1, pb⟩
              cases c with
              | tup cs =>
                have e2 : (if cs.all isCls then isiAny g t cs else none) = some b := e2
                split at e2
                · rename_i c
                  obtain ⟨q, vs, rfl, s, rs⟩ := r2
                  exact ⟨_, ci_tup, v, q, vs, _, _, b, rfl, s, clsVs c rs, ty, isiAny_ok ik e2, pb⟩
                · cases e2
              | _ => exact one e2
  | max =>
    cases ds with
    | nil => exact False.elim p
    | cons x ds =>
      cases ds with
      | nil => cases x <;> exact False.elim p
      | cons y ds =>
        cases ds with
        | cons z ds => cases x <;> cases y <;> exact False.elim p
        | nil =>
          cases x with
          | int i =>
            cases y with
            | int j =>
              obtain ⟨v, w, rfl, r1, r2⟩ := vs2 rs
              rw [show v = _ from r1, show w = _ from r2]
              obtain ⟨c, p⟩ := hot (r := .ok (.int (if j > i then j else i)) h) p
              exact ⟨_, call_max2 c, i, j, rfl, p.ok rl rfl⟩
            | _ => exact False.elim p
          | _ => cases y <;> exact False.elim p
  | min =>
    cases ds with
    | nil => exact False.elim p
    | cons x ds =>
      cases ds with
      | nil => cases x <;> exact False.elim p
      | cons y ds =>
        cases ds with
        | cons z ds => cases x <;> cases y <;> exact False.elim p
        | nil =>
          cases x with
          | int i =>
            cases y with
            | int j =>
              obtain ⟨v, w, rfl, r1, r2⟩ := vs2 rs
              rw [show v = _ from r1, show w = _ from r2]
              obtain ⟨c, p⟩ := hot (r := .ok (.int (if j < i then j else i)) h) p
              exact ⟨_, call_min2 c, i, j, rfl, p.ok rl rfl⟩
            | _ => exact False.elim p
          | _ => cases y <;> exact False.elim p
  | sum =>
    cases ds with
    | nil => exact False.elim p
    | cons x ds =>
      cases ds with
      | cons y ds => cases x <;> exact False.elim p
      | nil =>
        obtain ⟨v, rfl, r⟩ := vs1 rs
        obtain ⟨c, p⟩ := hot (r := (match (seqOf h x).bind intsD with
          | some l => .ok (.int l.sum) h
          | none => .bad)) p
        cases e : seqOf h x with
        | none => rw [e] at p; exact False.elim p
        | some l =>
          rw [e] at p
          have p : Po X.K (relV X.K) (fun _ _ _ => False) ρ H Q (match intsD l with
            | some l => .ok (.int l.sum) h
            | none => .bad) := p
          cases e2 : intsD l with
          | none => rw [e2] at p; exact False.elim p
          | some ns =>
            rw [e2] at p
            obtain ⟨q, vs, rfl, rs, s⟩ := seqOf_ok rl e r
            rcases s with s | s
            · exact ⟨_, cr_sum c, q, ns, rfl, by rw [← ints_ok e2 rs]; exact s, p.ok rl rfl⟩
            · exact ⟨_, cr_sumT c, q, ns, rfl, by rw [← ints_ok e2 rs]; exact s.sq, p.ok rl rfl⟩
  | all =>
    cases ds with
    | nil => exact False.elim p
    | cons x ds =>
      cases ds with
      | cons y ds => cases x <;> exact False.elim p
      | nil =>
        obtain ⟨v, rfl, r⟩ := vs1 rs
        obtain ⟨c, p⟩ := hot (r := (match (lstOf h x).bind boolsD with
          | some l => .ok (.bl (l.all id)) h
          | none => .bad)) p
        cases e : lstOf h x with
        | none => rw [e] at p; exact False.elim p
        | some l =>
          rw [e] at p
          have p : Po X.K (relV X.K) (fun _ _ _ => False) ρ H Q (match boolsD l with
            | some l => .ok (.bl (l.all id)) h
            | none => .bad) := p
          cases e2 : boolsD l with
          | none => rw [e2] at p; exact False.elim p
          | some ns =>
            rw [e2] at p
            obtain ⟨q, vs, rfl, rs, s⟩ := lstOf_ok rl e r
            exact ⟨_, cr_all c, q, ns, rfl, by rw [← bools_ok e2 rs]; exact s, p.ok rl rfl⟩
  | any =>
    cases ds with
    | nil => exact False.elim p
    | cons x ds =>
      cases ds with
      | cons y ds => cases x <;> exact False.elim p
      | nil =>
        obtain ⟨v, rfl, r⟩ := vs1 rs
        obtain ⟨c, p⟩ := hot (r := (match (lstOf h x).bind boolsD with
          | some l => .ok (.bl (l.any id)) h
          | none => .bad)) p
        cases e : lstOf h x with
        | none => rw [e] at p; exact False.elim p
        | some l =>
          rw [e] at p
          have p : Po X.K (relV X.K) (fun _ _ _ => False) ρ H Q (match boolsD l with
            | some l => .ok (.bl (l.any id)) h
            | none => .bad) := p
          cases e2 : boolsD l with
          | none => rw [e2] at p; exact False.elim p
          | some ns =>
            rw [e2] at p
            obtain ⟨q, vs, rfl, rs, s⟩ := lstOf_ok rl e r
            exact ⟨_, cr_any c, q, ns, rfl, by rw [← bools_ok e2 rs]; exact s, p.ok rl rfl⟩
end
end Ip
end
section
set_option Elab.async false
set_option linter.all false
set_option maxRecDepth 100000
/-! expressions -/
namespace Ip
open PySem L2
abbrev SE (X : Cx) (W : WX) (g : G) (E : E) (e : Expr) : Prop := PE X e (rdE X.K W (evalE g E))
abbrev ST (X : Cx) (W : WX) (g : G) (E : E) (e : Expr) : Prop := PT X e (rdT X.K W fun δ => tstOf (evalE g E δ))
abbrev SA (X : Cx) (W : WX) (g : G) (Es : List E) (es : List Expr) : Prop := PA X es (rdA X.K W (evalEs g Es))
section
variable {X : Cx} {W : WX} {g : G} {A B C : E} {a b c : Expr} {pos : Pos}
theorem rdE.ok {K : PySem.W.Frag} {W : WX} {m : Sl → M D} {σ : St} {H : Hp} {Q : VK} {d : D} {v : V} (h : rdE K W m σ H Q) (e : ∀ δ h, m δ h = .ok d h) (r : ∀ ρ H, RV K ρ H d v) : Q v H := by
  obtain ⟨ρ, h, δ, rl, sl, p⟩ := h
  rw [e] at p
  exact p.ok rl (r _ _)
theorem se_non {j} : SE X W g .non (.Constant .none j pos) := PE.imp pe_non fun σ H Q h => h.ok (fun _ _ => rfl) (fun _ _ => rfl)
theorem se_bl {x j} : SE X W g (.bl x) (.Constant (.bool x) j pos) := PE.imp pe_bl fun σ H Q h => h.ok (fun _ _ => rfl) (fun _ _ => rfl)
theorem se_int {x j} : SE X W g (.int x) (.Constant (.int x) j pos) := PE.imp pe_int fun σ H Q h => h.ok (fun _ _ => rfl) (fun _ _ => rfl)
theorem se_str {x j} : SE X W g (.str x) (.Constant (.str x) j pos) := PE.imp pe_str fun σ H Q h => h.ok (fun _ _ => rfl) (fun _ _ => rfl)
theorem se_var {i : Nat} {x : Str} (hN : X.N[i]? = some x) (hv : Vis X.env.scope x) (hd : (x == ("__debug__" : Str)) = false) (hcd : (x == ("__classdict__" : Str)) = false) : SE X W g (.var i) (.Name x pos) := by
  refine PE.imp (pe_var hN hv hd hcd) fun σ H Q h => ?_
  obtain ⟨ρ, h, δ, rl, sl, p⟩ := h
  have p : Po X.K (relV X.K) (fun c d H' => W c d σ H') ρ H Q ((match δ[i]? with
    | some (some d) => ret d
    | _ => fail : M D) h) := by
      have q : evalE g (.var i) δ = (match δ[i]? with
        | some (some d) => ret d
        | _ => fail : M D) := by unfold evalE; rfl
      rw [← q]; exact p
  cases e : δ[i]? with
  | none => rw [e] at p; exact False.elim p
  | some o =>
    cases o with
    | none => rw [e] at p; exact False.elim p
    | some d =>
      rw [e] at p
      obtain ⟨v, e2, rv⟩ := sl.2 i d e
      exact ⟨v, e2, p.ok rl rv⟩
theorem se_glob {x : Str} (hg : Gl X x) (hm : ∀ d, g.gl x = some d → ∃ u v, X.mg x = some u ∧ RelV v u ∧ ∀ ρ H, RV X.K ρ H d v) (hd : (x == ("__debug__" : Str)) = false) : SE X W g (.glob x) (.Name x pos) := by
  cases e : g.gl x with
  | none =>
    refine ⟨fun pins s σ H Q I h => ?_⟩
    obtain ⟨ρ, h, δ, rl, sl, p⟩ := h
    have q : evalE g (.glob x) δ = ofO (g.gl x) := by unfold evalE; rfl
    rw [q, e] at p
    exact False.elim p
  | some d =>
    obtain ⟨u, v, h1, h2, h3⟩ := hm d e
    refine PE.imp (pe_glob hg h1 h2 hd) fun σ H Q h => ?_
    refine h.ok (fun δ h => ?_) h3
    have q : evalE g (.glob x) δ = ofO (g.gl x) := by unfold evalE; rfl
    rw [q, e]; rfl
theorem se_bty {x : Str} {n : String} (hg : Gl X x) (hm : X.mg x = none) (hv : bootBuiltins x = some (.type n)) (hn : x ≠ "__name__") (hd : (x == ("__debug__" : Str)) = false) : SE X W g (.bty n) (.Name x pos) :=
  PE.imp (pe_bltn (v := .ty n) hg hm hv rfl hn hd) fun σ H Q h => h.ok (fun _ _ => rfl) (fun _ _ => rfl)
/-- two values, then an operation -/
theorem rd2 {K : PySem.W.Frag} {f : D → D → M D} {r : R2} {ma mb : Sl → M D} {σ : St} {H : Hp} {Q : VK} (h : rdE K W (fun δ => bnd (ma δ) fun x => bnd (mb δ) fun y => f x y) σ H Q)
    (hf : ∀ ρ h x y vx vy H, Rl K ρ h H → RV K ρ H x vx → RV K ρ H y vy → Po K (relV K) (fun c d H' => W c d σ H') ρ H Q (f x y h) → r vx vy H Q) : tOp r (rdE K W ma) (rdE K W mb) σ H Q := by
  obtain ⟨ρ, h, δ, rl, sl, p⟩ := h
  refine ⟨ρ, h, δ, rl, sl, p.bnd fun d h1 ρ1 H1 v _ x1 rl1 r1 p1 => ?_⟩
  refine ⟨ρ1, h1, δ, rl1, sl.mono rl x1, p1.bnd fun d2 h2 ρ2 H2 v2 _ x2 rl2 r2 p2 => ?_⟩
  exact hf ρ2 h2 d d2 v v2 H2 rl2 (r1.mono rl1 x2) r2 p2
theorem Po.noexc {α β : Type} {K : PySem.W.Frag} {rel : List Addr → Hp → α → β → Prop} {W W' : XK} {ρ : List Addr} {H : Hp} {Q : β → Hp → Prop} {r : R α} (p : Po K rel W ρ H Q r) (n : ∀ c fs h, r ≠ .exc c fs h) : Po K rel W' ρ H Q r := by
  cases r with
  | ok a h => exact p
  | exc c fs h => exact absurd rfl (n c fs h)
  | bad => exact p
theorem binop_noexc {o : Operator} {x y : D} {h : Hs} {c : Str} {fs : Option (List (Str × D))} {h' : Hs} : binop g o x y h ≠ .exc c fs h' := by
  intro e
  cases x with
  | int i =>
    cases y with
    | int j =>
      have e : (match binI o i j with
        | some k => ret (.int k)
        | none => fail : M D) h = .exc c fs h' := e
      cases q : binI o i j with
      | none => rw [q] at e; cases e
      | some k => rw [q] at e; cases e
    | _ => cases e
  | str a =>
    cases y with
    | str b =>
      cases o with
      | Add =>
        have e : (if a.length + b.length ≤ sizeLine then ret (.str (a ++ b)) else fail : M D) h = .exc c fs h' := e
        split at e <;> cases e
      | _ => cases e
    | int k =>
      cases o with
      | Mult =>
        have e : (if decide (0 < k) && decide (k ≤ 1000000) && decide (a.length * k.toNat ≤ sizeLine) then ret (.str (Txt.mul a k)) else fail : M D) h = .exc c fs h' := e
        split at e <;> cases e
      | _ => cases e
    | _ => cases e
  | tup a =>
    cases y with
    | tup b =>
      cases o with
      | Add =>
        have e : (if a.length + b.length ≤ sizeLine then ret (.tup (a ++ b)) else fail : M D) h = .exc c fs h' := e
        split at e <;> cases e
      | _ => cases e
    | _ => cases e
  | ref a =>
    cases y with
    | ref b =>
      simp only [binop] at e
      split at e
      · split at e
        · cases e
        · cases e
      · cases e
    | int k =>
      simp only [binop] at e
      split at e
      · split at e
        · cases e
        · cases e
      · cases e
    | _ => cases e
  | _ => cases e
theorem cmpop_noexc {o : CmpOp} {x y : D} {h : Hs} {c : Str} {fs : Option (List (Str × D))} {h' : Hs} : cmpop g o x y h ≠ .exc c fs h' := by
  unfold cmpop
  split <;> (intro e; cases e)
theorem getitem_noexc {x y : D} {h : Hs} {c : Str} {fs : Option (List (Str × D))} {h' : Hs} : getitem x y h ≠ .exc c fs h' := by
  unfold getitem
  repeat' split
  all_goals (intro e; first | cases e | (split at e <;> first | cases e | (split at e <;> cases e)))
theorem se_idx (ha : SE X W g A a) (hb : SE X W g B b) (hs : PlainIx b) : SE X W g (.idx A B) (.Subscript a b pos) :=
  PE.imp (pe_ix ix_get ha hb hs) fun σ H Q h => rd2 (f := getitem) h fun ρ h x y vx vy H rl rx ry p => ⟨ρ, h, x, y, rl, rx, ry, p.noexc fun _ _ _ => getitem_noexc⟩
/-! ### tests -/
theorem rdT.of {K : PySem.W.Frag} {m : Sl → M D} {σ : St} {H : Hp} {Q : Bool → Hp → Prop} (h : rdT K W (fun δ => tstOf (m δ)) σ H Q) : rdE K W m σ H fun x H1 => ∃ k, TruV K x H1 k ∧ Q k H1 := by
  obtain ⟨ρ, h, δ, rl, sl, p⟩ := h
  refine ⟨ρ, h, δ, rl, sl, Po.bnd p fun d h1 ρ1 H1 v _ x1 rl1 r1 p1 => ?_⟩
  cases e : truthD h1 d with
  | none => rw [e] at p1; exact False.elim p1
  | some k => rw [e] at p1; exact ⟨k, truthD_ok rl1 e r1, p1.ok rl1 rfl⟩
theorem st_plain (ha : SE X W g A a) (he : ∀ whole, isTrue a X.env whole = (do let v ← whole; standAt a.pos; holding [v] (PySem.truthy v))) : ST X W g A a :=
  PT.imp (pt_truth ha he) fun σ H Q h => h.of
theorem rdT.to {K : PySem.W.Frag} {m : Sl → M Bool} {σ : St} {H : Hp} {Q : VK} (h : rdE K W (fun δ => bnd (m δ) fun b => ret (.bl b)) σ H Q) : rdT K W m σ H fun b H1 => Q (.bl b) H1 := by
  obtain ⟨ρ, h, δ, rl, sl, p⟩ := h
  refine ⟨ρ, h, δ, rl, sl, Po.bnd p fun d h1 ρ1 H1 v _ x1 rl1 r1 p1 => ?_⟩
  cases r1
  exact p1.ok rl1 rfl
end
end Ip
end
section
set_option Elab.async false
set_option linter.all false
set_option maxRecDepth 100000
/-! expressions, further -/
namespace Ip
open PySem L2
section
variable {X : Cx} {W : WX} {g : G} {A B C : E} {a b c : Expr} {pos : Pos}
theorem rdT.re {K : PySem.W.Frag} {m m' : Sl → M Bool} {σ : St} {H : Hp} {Q : Bool → Hp → Prop} (h : rdT K W m σ H Q) (e : ∀ δ, m δ = m' δ) : rdT K W m' σ H Q := by
  rw [show m' = m from funext fun δ => (e δ).symm]; exact h
theorem rdE.re {K : PySem.W.Frag} {m m' : Sl → M D} {σ : St} {H : Hp} {Q : VK} (h : rdE K W m σ H Q) (e : ∀ δ, m δ = m' δ) : rdE K W m' σ H Q := by
  rw [show m' = m from funext fun δ => (e δ).symm]; exact h
theorem bnd_assoc {α β γ : Type} (m : M α) (f : α → M β) (k : β → M γ) : bnd (bnd m f) k = bnd m fun x => bnd (f x) k := by
  funext h
  unfold bnd
  cases m h <;> rfl
/-- a test, then something of its answer -/
theorem rdT.bndT {K : PySem.W.Frag} {m : Sl → M Bool} {f : Bool → Sl → M Bool} {σ : St} {H : Hp} {Q : Bool → Hp → Prop} (h : rdT K W (fun δ => bnd (m δ) fun b => f b δ) σ H Q) : rdT K W m σ H fun b H1 => rdT K W (f b) σ H1 Q := by
  obtain ⟨ρ, h, δ, rl, sl, p⟩ := h
  refine ⟨ρ, h, δ, rl, sl, p.bnd fun d h1 ρ1 H1 v _ x1 rl1 r1 p1 => ?_⟩
  cases r1
  exact ⟨ρ1, h1, δ, rl1, sl.mono rl x1, p1⟩
theorem rdT.bndE {K : PySem.W.Frag} {m : Sl → M Bool} {f : Bool → Sl → M D} {σ : St} {H : Hp} {Q : VK} (h : rdE K W (fun δ => bnd (m δ) fun b => f b δ) σ H Q) : rdT K W m σ H fun b H1 => rdE K W (f b) σ H1 Q := by
  obtain ⟨ρ, h, δ, rl, sl, p⟩ := h
  refine ⟨ρ, h, δ, rl, sl, p.bnd fun d h1 ρ1 H1 v _ x1 rl1 r1 p1 => ?_⟩
  cases r1
  exact ⟨ρ1, h1, δ, rl1, sl.mono rl x1, p1⟩
theorem rdT.pure {K : PySem.W.Frag} {b : Bool} {σ : St} {H : Hp} {Q : Bool → Hp → Prop} (h : rdT K W (fun _ => ret b) σ H Q) : Q b H := by
  obtain ⟨ρ, h, δ, rl, sl, p⟩ := h
  exact p.ok rl rfl
theorem rdE.pure {K : PySem.W.Frag} {d : D} {v : V} {σ : St} {H : Hp} {Q : VK} (h : rdE K W (fun _ => ret d) σ H Q) (r : ∀ ρ, RV K ρ H d v) : Q v H := by
  obtain ⟨ρ, h, δ, rl, sl, p⟩ := h
  exact p.ok rl (r ρ)
theorem not_E (δ : Sl) : evalE g (.not A) δ = bnd (tstOf (evalE g A δ)) fun b => ret (.bl (!b)) := by rw [evalE]
theorem tst_bl {m : M Bool} {f : Bool → Bool} : tstOf (bnd m fun b => ret (.bl (f b))) = bnd m fun b => ret (f b) := by
  unfold tstOf
  rw [bnd_assoc]
  rfl
theorem Po.impQ {α β : Type} {K : PySem.W.Frag} {rel : List Addr → Hp → α → β → Prop} {W : XK} {ρ : List Addr} {H : Hp} {Q Q' : β → Hp → Prop} {r : R α} (p : Po K rel W ρ H Q r) (k : ∀ b H, Q b H → Q' b H) : Po K rel W ρ H Q' r := by
  cases r with
  | ok a h => exact fun ρ' H' b x rl re => k b H' (p ρ' H' b x rl re)
  | exc c fs h => exact p
  | bad => exact p
theorem rdT.mono {K : PySem.W.Frag} {m : Sl → M Bool} {σ : St} {H : Hp} {Q Q' : Bool → Hp → Prop} (h : rdT K W m σ H Q) (k : ∀ b H, Q b H → Q' b H) : rdT K W m σ H Q' := by
  obtain ⟨ρ, h, δ, rl, sl, p⟩ := h
  exact ⟨ρ, h, δ, rl, sl, p.impQ k⟩
theorem rdE.mono {K : PySem.W.Frag} {m : Sl → M D} {σ : St} {H : Hp} {Q Q' : VK} (h : rdE K W m σ H Q) (k : ∀ b H, Q b H → Q' b H) : rdE K W m σ H Q' := by
  obtain ⟨ρ, h, δ, rl, sl, p⟩ := h
  exact ⟨ρ, h, δ, rl, sl, p.impQ k⟩
theorem se_not (ha : SE X W g A a) : SE X W g (.not A) (.UnaryOp .Not a pos) := by
  refine PE.imp (pe_notT ha) fun σ H Q h => ?_
  have h : rdE X.K W (fun δ => bnd (tstOf (evalE g A δ)) fun b => ret (.bl (!b))) σ H Q := h
  exact rdT.of (rdT.mono (rdT.bndE (f := fun b _ => ret (.bl (!b))) h) fun b H q => rdE.pure q fun _ => rfl)
theorem st_not (ha : ST X W g A a) : ST X W g (.not A) (.UnaryOp .Not a pos) := by
  refine PT.imp (pt_not ha) fun σ H Q h => ?_
  have h := rdT.re h fun δ => show tstOf (evalE g (.not A) δ) = bnd (tstOf (evalE g A δ)) fun b => ret (!b) by rw [not_E, tst_bl (f := fun b => !b)]
  exact rdT.mono (rdT.bndT (f := fun b _ => ret (!b)) h) fun b H q => rdT.pure q
theorem and_E (δ : Sl) : evalE g (.and A B) δ = bnd (evalE g A δ) fun x h => match truthD h x with
    | some true => evalE g B δ h
    | some false => .ok x h
    | none => .bad := by rw [evalE]; try rfl
theorem or_E (δ : Sl) : evalE g (.or A B) δ = bnd (evalE g A δ) fun x h => match truthD h x with
    | some true => .ok x h
    | some false => evalE g B δ h
    | none => .bad := by rw [evalE]; try rfl
theorem and_T (δ : Sl) : tstOf (evalE g (.and A B) δ) = bnd (tstOf (evalE g A δ)) fun b => match b with
    | true => tstOf (evalE g B δ)
    | false => ret false := by
  rw [and_E]
  unfold tstOf
  rw [bnd_assoc, bnd_assoc]
  funext h
  unfold bnd
  cases evalE g A δ h with
  | ok x h1 =>
    dsimp only
    cases e : truthD h1 x with
    | none => rfl
    | some t =>
      cases t with
      | true => rfl
      | false => dsimp only; rw [e]; rfl
  | exc c fs h1 => rfl
  | bad => rfl
theorem or_T (δ : Sl) : tstOf (evalE g (.or A B) δ) = bnd (tstOf (evalE g A δ)) fun b => match b with
    | true => ret true
    | false => tstOf (evalE g B δ) := by
  rw [or_E]
  unfold tstOf
  rw [bnd_assoc, bnd_assoc]
  funext h
  unfold bnd
  cases evalE g A δ h with
  | ok x h1 =>
    dsimp only
    cases e : truthD h1 x with
    | none => rfl
    | some t =>
      cases t with
      | false => rfl
      | true => dsimp only; rw [e]; rfl
  | exc c fs h1 => rfl
  | bad => rfl
theorem se_and {rest : List Expr} (ha : SE X W g A a) (hb : SE X W g B (.BoolOp .And (b :: rest) pos)) : SE X W g (.and A B) (.BoolOp .And (a :: b :: rest) pos) := by
  refine PE.imp (pe_andT ha hb) fun σ H Q h => ?_
  obtain ⟨ρ, h, δ, rl, sl, p⟩ := rdE.re h and_E
  refine ⟨ρ, h, δ, rl, sl, p.bnd fun d h1 ρ1 H1 v _ x1 rl1 r1 p1 => ?_⟩
  cases e : truthD h1 d with
  | none => rw [e] at p1; exact False.elim p1
  | some k =>
    rw [e] at p1
    refine ⟨k, truthD_ok rl1 e r1, ?_⟩
    cases k with
    | true => rw [if_pos rfl]; exact ⟨ρ1, h1, δ, rl1, sl.mono rl x1, p1⟩
    | false => rw [if_neg Bool.false_ne_true]; exact p1.ok rl1 r1
theorem se_or {rest : List Expr} (ha : SE X W g A a) (hb : SE X W g B (.BoolOp .Or (b :: rest) pos)) : SE X W g (.or A B) (.BoolOp .Or (a :: b :: rest) pos) := by
  refine PE.imp (pe_orT ha hb) fun σ H Q h => ?_
  obtain ⟨ρ, h, δ, rl, sl, p⟩ := rdE.re h or_E
  refine ⟨ρ, h, δ, rl, sl, p.bnd fun d h1 ρ1 H1 v _ x1 rl1 r1 p1 => ?_⟩
  cases e : truthD h1 d with
  | none => rw [e] at p1; exact False.elim p1
  | some k =>
    rw [e] at p1
    refine ⟨k, truthD_ok rl1 e r1, ?_⟩
    cases k with
    | false => rw [if_neg Bool.false_ne_true]; exact ⟨ρ1, h1, δ, rl1, sl.mono rl x1, p1⟩
    | true => rw [if_pos rfl]; exact p1.ok rl1 r1
theorem se_one {op} (ha : SE X W g A a) : SE X W g A (.BoolOp op [a] pos) := pe_one ha
/-- tests of and, or, whatever the whole is -/
abbrev SW (X : Cx) (W : WX) (g : G) (A : E) (e : Expr) : Prop := PW X e (rdT X.K W fun δ => tstOf (evalE g A δ))
theorem PW.imp {X : Cx} {e : Expr} {t t' : TT} (p : PW X e t) (k : ∀ σ H Q, t' σ H Q → t σ H Q) : PW X e t' := ⟨fun whole pins s σ H Q I h => p.run whole pins s σ H Q I (k σ H Q h)⟩
theorem sw_and1 (ha : ST X W g A a) : SW X W g A (.BoolOp .And [a] pos) := pw_and1 ha
theorem sw_or1 (ha : ST X W g A a) : SW X W g A (.BoolOp .Or [a] pos) := pw_or1 ha
theorem sw_and {rest : List Expr} (ha : ST X W g A a) (hb : SW X W g B (.BoolOp .And (b :: rest) pos)) : SW X W g (.and A B) (.BoolOp .And (a :: b :: rest) pos) := by
  refine PW.imp (pw_and ha hb) fun σ H Q h => ?_
  have h := rdT.re h and_T
  refine rdT.mono (rdT.bndT (f := fun b δ => match b with
    | true => tstOf (evalE g B δ)
    | false => ret false) h) fun b H q => ?_
  cases b with
  | true => rw [if_pos rfl]; exact q
  | false => rw [if_neg Bool.false_ne_true]; exact rdT.pure q
theorem sw_or {rest : List Expr} (ha : ST X W g A a) (hb : SW X W g B (.BoolOp .Or (b :: rest) pos)) : SW X W g (.or A B) (.BoolOp .Or (a :: b :: rest) pos) := by
  refine PW.imp (pw_or ha hb) fun σ H Q h => ?_
  have h := rdT.re h or_T
  refine rdT.mono (rdT.bndT (f := fun b δ => match b with
    | true => ret true
    | false => tstOf (evalE g B δ)) h) fun b H q => ?_
  cases b with
  | true => rw [if_pos rfl]; exact rdT.pure q
  | false => rw [if_neg Bool.false_ne_true]; exact q
theorem cmp_E {o : CmpOp} (δ : Sl) : evalE g (.cmp o A B) δ = bnd (evalE g A δ) fun x => bnd (evalE g B δ) fun y => cmpG g o x y := by rw [evalE]
theorem se_ife (ht : ST X W g A a) (hb : SE X W g B b) (hc : SE X W g C c) : SE X W g (.ife A B C) (.IfExp a b c pos) := by
  refine PE.imp (pe_ifExp ht hb hc) fun σ H Q h => ?_
  have h := rdE.re h fun δ => show evalE g (.ife A B C) δ = bnd (tstOf (evalE g A δ)) fun c => match c with
    | true => evalE g B δ
    | false => evalE g C δ by rw [evalE]; try rfl
  refine rdT.mono (rdT.bndE (f := fun c δ => match c with
    | true => evalE g B δ
    | false => evalE g C δ) h) fun b H q => ?_
  cases b with
  | true => rw [if_pos rfl]; exact q
  | false => rw [if_neg Bool.false_ne_true]; exact q
theorem st_ife (ht : ST X W g A a) (hb : ST X W g B b) (hc : ST X W g C c) : ST X W g (.ife A B C) (.IfExp a b c pos) := by
  refine ⟨fun pins s σ H Q I h => ?_⟩
  have h := rdT.re h fun δ => show tstOf (evalE g (.ife A B C) δ) = bnd (tstOf (evalE g A δ)) fun c => match c with
    | true => tstOf (evalE g B δ)
    | false => tstOf (evalE g C δ) by
      rw [evalE]
      conv => lhs; unfold tstOf
      rw [bnd_assoc]
      refine congrArg (bnd _) (funext fun c => ?_)
      cases c <;> rfl
  show wpAny _ _ (do if ← isTrue a X.env (eval a X.env) then isTrue b X.env (eval b X.env) else isTrue c X.env (eval c X.env)) _ _ s
  refine wpAny_bind (thn (ht.run pins s σ H _ I (rdT.bndT (f := fun c δ => match c with
    | true => tstOf (evalE g B δ)
    | false => tstOf (evalE g C δ)) h)) fun d s1 ⟨H1, I1, q1⟩ => ?_)
  cases d with
  | true => exact hb.run pins s1 σ H1 Q I1 q1
  | false => exact hc.run pins s1 σ H1 Q I1 q1
/-! ### arguments -/
theorem sa_nil : SA X W g [] [] := PA.imp pa_nil fun σ H Q h => by
  obtain ⟨ρ, h, δ, rl, sl, p⟩ := h
  have p : Po X.K (relVs X.K) (fun c d H' => W c d σ H') ρ H Q (.ok [] h) := p
  exact p.ok rl rfl
theorem es_E {As : List E} (δ : Sl) : evalEs g (A :: As) δ = bnd (evalE g A δ) fun x => bnd (evalEs g As δ) fun xs => ret (x :: xs) := by rw [evalEs]
theorem sa_cons {As : List E} {es : List Expr} (ha : SE X W g A a) (hs : SA X W g As es) (hst : starEach (a :: es) X.env = (false, eval a X.env) :: starEach es X.env) : SA X W g (A :: As) (a :: es) := by
  refine PA.imp (pa_cons ha hs hst) fun σ H Q h => ?_
  obtain ⟨ρ, h, δ, rl, sl, p⟩ := h
  rw [es_E] at p
  refine ⟨ρ, h, δ, rl, sl, p.bnd fun d h1 ρ1 H1 v _ x1 rl1 r1 p1 => ?_⟩
  refine ⟨ρ1, h1, δ, rl1, sl.mono rl x1, p1.bnd fun ds h2 ρ2 H2 vs _ x2 rl2 r2 p2 => ?_⟩
  exact p2.ok rl2 ⟨v, vs, rfl, r1.mono rl1 x2, r2⟩
theorem rdA.then {K : PySem.W.Frag} {m : Sl → M (List D)} {f : List D → M D} {σ : St} {H : Hp} {Q : VK} (h : rdE K W (fun δ => bnd (m δ) f) σ H Q) {Rq : List V → Hp → Prop}
    (k : ∀ ρ h ds vs H, Rl K ρ h H → RVs K ρ H ds vs → Po K (relV K) (fun c d H' => W c d σ H') ρ H Q (f ds h) → Rq vs H) : rdA K W m σ H Rq := by
  obtain ⟨ρ, h, δ, rl, sl, p⟩ := h
  exact ⟨ρ, h, δ, rl, sl, p.bnd fun d h1 ρ1 H1 v _ x1 rl1 r1 p1 => k ρ1 h1 d v H1 rl1 r1 p1⟩
theorem se_tup {As : List E} {es : List Expr} {x1} (hs : SA X W g As es) : SE X W g (.tup As) (.Tuple es x1 pos) := by
  refine PE.imp (pe_tup hs) fun σ H Q h => rdA.then (f := newT) (h := rdE.re h fun δ => by rw [evalE]) fun ρ h ds vs H rl rs p => ?_
  unfold newT at p
  by_cases c : ds.length ≤ sizeLine
  · rw [if_pos c] at p
    exact ⟨by rw [rs.length]; exact c, fun q hq => po_newT rl rs hq p⟩
  · rw [if_neg c] at p; exact False.elim p
theorem se_lst {As : List E} {es : List Expr} (hs : SA X W g As es) : SE X W g (.lst As) (.List es pos) := by
  refine PE.imp (pe_lst hs) fun σ H Q h => rdA.then (f := newL) (h := rdE.re h fun δ => by rw [evalE]) fun ρ h ds vs H rl rs p => ?_
  unfold newL at p
  by_cases c : ds.length ≤ sizeLine
  · rw [if_pos c] at p
    exact ⟨by rw [rs.length]; exact c, fun q hq => po_newL rl rs hq p⟩
  · rw [if_neg c] at p; exact False.elim p
theorem biF_noexc {f : Bi} {ds : List D} {h : Hs} {c : Str} {fs : Option (List (Str × D))} {h' : Hs} : biF g f ds h ≠ .exc c fs h' := by
  unfold biF
  split
  all_goals (intro e; first | cases e | (split at e <;> first | cases e | (split at e <;> cases e)))
theorem se_bi {f : Bi} {As : List E} {e : Expr} {es : List Expr} {p : Pos} (ik : IsOk X.K g) (hx : HxIn X g) (xf : XcF X.K g) (hc : g.hot = false → X.calm = true) (hg : Gl X (biName f)) (hm : X.mg (biName f) = none) (hs : SA X W g As (e :: es))
    (he : starEach (e :: es) X.env = (false, eval e X.env) :: starEach es X.env) (hpl : (backTo pos (starEach es X.env)).any (·.1) = false) : SE X W g (.bi f As) (.Call (.Name (biName f) p) (e :: es) [] pos) := by
  have fin : ∀ σ H Q, rdE X.K W (evalE g (.bi f As)) σ H Q → tCB (rdC X.K (biF g f)) (rdA X.K W (evalEs g As)) σ H Q := fun σ H Q h =>
    rdA.then (f := biF g f) (h := rdE.re h fun δ => by rw [evalE]) fun ρ h ds vs H rl rs p => ⟨ρ, h, ds, rl, rs, p.noexc fun _ _ _ => biF_noexc⟩
  have cr := bi_call ik hx xf hc (X := X) (f := f)
  cases f with
  | len => exact PE.imp (pe_callB (id := "len") cr hg hm PySem.boot_len hs (by decide) (by decide) he hpl) fin
  | int => exact PE.imp (pe_callTy (T := "int") cr hg hm (by decide +kernel) hs (by decide) (by decide) he hpl) fin
  | str => exact PE.imp (pe_callTy (T := "str") cr hg hm (by decide +kernel) hs (by decide) (by decide) he hpl) fin
  | tuple => exact PE.imp (pe_callTy (T := "tuple") cr hg hm (by decide +kernel) hs (by decide) (by decide) he hpl) fin
  | list => exact PE.imp (pe_callTy (T := "list") cr hg hm (by decide +kernel) hs (by decide) (by decide) he hpl) fin
  | abs => exact PE.imp (pe_callB (id := "abs") cr hg hm (by decide +kernel) hs (by decide) (by decide) he hpl) fin
  | max => exact PE.imp (pe_callB (id := "max") cr hg hm (by decide +kernel) hs (by decide) (by decide) he hpl) fin
  | min => exact PE.imp (pe_callB (id := "min") cr hg hm (by decide +kernel) hs (by decide) (by decide) he hpl) fin
  | sum => exact PE.imp (pe_callB (id := "sum") cr hg hm (by decide +kernel) hs (by decide) (by decide) he hpl) fin
  | all => exact PE.imp (pe_callB (id := "all") cr hg hm (by decide +kernel) hs (by decide) (by decide) he hpl) fin
  | any => exact PE.imp (pe_callB (id := "any") cr hg hm (by decide +kernel) hs (by decide) (by decide) he hpl) fin
  | isi => exact PE.imp (pe_callB (id := "isinstance") cr hg hm (by decide +kernel) hs (by decide) (by decide) he hpl) fin
/-! ### f-strings -/
theorem se_fmt (ha : SE X W g A a) : SE X W g (.fmt A) (.FormattedValue a (-1) none pos) := by
  refine PE.imp (pe_fmt ha) fun σ H Q h => ?_
  obtain ⟨ρ, h, δ, rl, sl, p⟩ := rdE.re h fun δ => show evalE g (.fmt A) δ = bnd (evalE g A δ) fmtD by rw [evalE]
  refine ⟨ρ, h, δ, rl, sl, p.bnd fun d h1 ρ1 H1 v _ x1 rl1 r1 p1 => ?_⟩
  cases d with
  | str y =>
    have p1 : Po X.K (relV X.K) (fun c d H' => W c d σ H') ρ1 H1 Q ((if y.length ≤ sizeLine then ret (.str y) else fail : M D) h1) := p1
    by_cases c : y.length ≤ sizeLine
    · rw [if_pos c] at p1; exact .inl ⟨y, r1, c, p1.ok rl1 rfl⟩
    · rw [if_neg c] at p1; exact False.elim p1
  | int i =>
    have p1 : Po X.K (relV X.K) (fun c d H' => W c d σ H') ρ1 H1 Q ((if i.natAbs.log2 < 1920 then ret (.str (toString i)) else fail : M D) h1) := p1
    by_cases c : i.natAbs.log2 < 1920
    · rw [if_pos c] at p1; exact .inr ⟨i, r1, c, p1.ok rl1 rfl⟩
    · rw [if_neg c] at p1; exact False.elim p1
  | _ => exact False.elim p1
theorem js_E {As : List E} {acc : Str} (δ : Sl) : evalJ g (A :: As) acc δ = bnd (evalE g A δ) fun x => match x with
    | .str y => if (acc ++ y).length ≤ sizeLine then evalJ g As (acc ++ y) δ else fail
    | _ => fail := by rw [evalJ]; try rfl
theorem js_rd : ∀ (As : List E) {acc : Str} {σ : St} {H : Hp} {Q : VK}, (∃ ρ h δ, Rl X.K ρ h H ∧ RSl X.K ρ H δ σ ∧ Po X.K (relV X.K) (fun c d H' => W c d σ H') ρ H Q (evalJ g As acc δ h)) →
    tJs (As.map fun A => rdE X.K W (evalE g A)) acc σ H fun out H1 => Q (.str out) H1
  | [], acc, σ, H, Q, ⟨ρ, h, δ, rl, sl, p⟩ => Po.ok (a := D.str acc) p rl rfl
  | A :: As, acc, σ, H, Q, ⟨ρ, h, δ, rl, sl, p⟩ => by
    rw [js_E] at p
    refine ⟨ρ, h, δ, rl, sl, p.bnd fun d h1 ρ1 H1 v _ x1 rl1 r1 p1 => ?_⟩
    cases d with
    | str y =>
      have p1 : Po X.K (relV X.K) (fun c d H' => W c d σ H') ρ1 H1 Q ((if (acc ++ y).length ≤ sizeLine then evalJ g As (acc ++ y) δ else fail : M D) h1) := p1
      by_cases c : (acc ++ y).length ≤ sizeLine
      · rw [if_pos c] at p1
        exact ⟨y, r1, c, js_rd As ⟨ρ1, h1, δ, rl1, sl.mono rl x1, p1⟩⟩
      · rw [if_neg c] at p1; exact False.elim p1
    | _ => exact False.elim p1
/-- each part by its own -/
inductive SJ (X : Cx) (W : WX) (g : G) : List E → List Expr → Prop where
  | nil : SJ X W g [] []
  | cons {A : E} {As : List E} {e : Expr} {es : List Expr} (h : SE X W g A e) (r : SJ X W g As es) : SJ X W g (A :: As) (e :: es)
theorem SJ.pj {As : List E} {es : List Expr} (h : SJ X W g As es) : PJ X es (As.map fun A => rdE X.K W (evalE g A)) := by
  induction h with
  | nil => exact .nil
  | cons h _ ih => exact .cons h ih
theorem se_fstr {As : List E} {v1 v2 : Expr} {rest : List Expr} (h : SJ X W g As (v1 :: v2 :: rest)) : SE X W g (.fstr As) (.JoinedStr (v1 :: v2 :: rest) pos) :=
  PE.imp (pe_joined h.pj) fun σ H Q q => js_rd As (by
    obtain ⟨ρ, h, δ, rl, sl, p⟩ := rdE.re q fun δ => show evalE g (.fstr As) δ = evalJ g As Str.empty δ by rw [evalE]
    exact ⟨ρ, h, δ, rl, sl, p⟩)
/-! ### fields -/
theorem attr_E {f : Str} (δ : Sl) : evalE g (.attr A f) δ = bnd (evalE g A δ) fun x => getattr g x f := by rw [evalE]
theorem RF.look {K : PySem.W.Frag} {ρ : List Addr} {H : Hp} {f : Str} : ∀ {fs : List (Str × D)} {vs : List (Str × V)} {d : D}, RF K ρ H fs vs → fs.lookup f = some d → ∃ v, vs.lookup f = some v ∧ RV K ρ H d v
  | [], _, _, _, e => by cases e
  | (k, d) :: fs, _, d', ⟨v, r, e1, a, b⟩, e => by
    rw [e1]
    rw [List.lookup_cons] at e ⊢
    cases q : f == k with
    | true => rw [q] at e; cases e; exact ⟨v, rfl, a⟩
    | false => rw [q] at e; exact RF.look b e
theorem RF.none {K : PySem.W.Frag} {ρ : List Addr} {H : Hp} {f : Str} : ∀ {fs : List (Str × D)} {vs : List (Str × V)}, RF K ρ H fs vs → fs.lookup f = none → vs.lookup f = none
  | [], _, r, _ => by rw [show _ = [] from r]; rfl
  | (k, d) :: fs, _, ⟨v, r, e1, a, b⟩, e => by
    rw [e1]
    rw [List.lookup_cons] at e ⊢
    cases q : f == k with
    | true => rw [q] at e; cases e
    | false => rw [q] at e; exact RF.none b e
theorem RF.length {K : PySem.W.Frag} {ρ : List Addr} {H : Hp} : ∀ {fs : List (Str × D)} {vs : List (Str × V)}, RF K ρ H fs vs → vs.length = fs.length
  | [], _, r => by rw [show _ = [] from r]; rfl
  | (k, d) :: fs, _, ⟨v, r, e1, a, b⟩ => by rw [e1, List.length_cons, List.length_cons, RF.length b]
theorem RF.put {K : PySem.W.Frag} {ρ : List Addr} {H : Hp} {f : Str} {d : D} {v : V} (rv : RV K ρ H d v) : ∀ {fs : List (Str × D)} {vs : List (Str × V)}, RF K ρ H fs vs → RF K ρ H (putD f d fs) (putF f v vs)
  | [], _, r => by rw [show _ = [] from r]; exact ⟨v, [], rfl, rv, rfl⟩
  | (k, d') :: fs, _, ⟨w, r, e1, a, b⟩ => by
    rw [e1]
    unfold putD putF
    by_cases q : k = f
    · rw [if_pos q, if_pos q]; exact ⟨v, r, rfl, rv, b⟩
    · rw [if_neg q, if_neg q]; exact ⟨w, _, rfl, a, RF.put rv b⟩
def FldOk (K : PySem.W.Frag) (g : G) : Prop := ∀ c f, g.fld c f = true → Cls K (He.ga K c) ∧ NoAttr K (He.ga K c) f
end
end Ip
end
section
set_option Elab.async false
set_option linter.all false
set_option maxRecDepth 100000
/-! calls -/
namespace Ip
open PySem L2
/-- a def's promise by the machine -/
def spF (K : PySem.W.Frag) (m : List D → M D) : Sp := fun vs H Q E => ∃ ρ h ds, Rl K ρ h H ∧ RVs K ρ H ds vs ∧ Po K (relV K) E ρ H Q (m ds h)
/-- the values f and us: the call keeps what the machine's m tells -/
def Calls (X : Cx) (W : WX) (f : Value) (m : List D → M D) : Prop :=
  ∀ (pins : List (Addr × Obj)) (s : Shared) (σ : St) (H : Hp) (Q : VK) (us : List Value) (vs : List V), Inv X pins σ H s → Vals vs us → spF X.K m vs H Q (fun c d H' => W c d σ H') →
    wpAny (model X.prog X.w) X.A (call f us) (EP X pins σ Q) X.xe s
section
variable {X : Cx} {W : WX} {g : G} {A B C : E} {a b c : Expr} {pos : Pos}
theorem calls_fn {k : Nat} {f : Addr} {fd : FuncData} {ps : List Str} {m : List D → M D} (F : FnOk X.prog X.w X.K X.mg X.base (L2N.CX X.prog X.w) k f fd ps (spF X.K m)) (hr : Room k X.A) (hb : Binds X.K fd ps []) (tk : L2N.Takes X W) : Calls X W (.ref f) m :=
  fun pins s σ H Q us vs I r h => run_fnSD (E := fun σ => WE W σ) (dvs := []) (ds := []) F hr hb .nil (L2N.passAt tk σ) I r (by rw [List.append_nil]; exact h)
theorem se_call {x : Str} {f : Addr} {As : List E} {e : Expr} {es : List Expr} {p : Pos} (hc : Calls X W (.ref f) (g.cf (x, none))) (hg : Gl X x) (hm : X.mg x = some (.ref f)) (hk : PySem.W.keepIn X.K (.ref f) = true) (hs : SA X W g As (e :: es))
    (hdb : (x == ("__debug__" : Str)) = false) (he : starEach (e :: es) X.env = (false, eval e X.env) :: starEach es X.env) (hpl : (backTo pos (starEach es X.env)).any (·.1) = false) : SE X W g (.call x As) (.Call (.Name x p) (e :: es) [] pos) := by
  refine ⟨fun pins s σ H Q I h => ?_⟩
  have q : rdA X.K W (evalEs g As) σ H fun vs H1 => spF X.K (g.cf (x, none)) vs H1 Q (fun c d H' => W c d σ H') :=
    rdA.then (f := g.cf (x, none)) (h := rdE.re h fun δ => by rw [evalE]) fun ρ h ds vs H rl rs p => ⟨ρ, h, ds, rl, rs, p⟩
  refine wpAny_Call_Name_kw (ld_glob I hg hm ?_ hdb)
  refine PySem.W.callWith_K (h₀ := X.base) I.ok.mod.kin hk ?_ he hpl
  exact thn (hs.run pos pins s σ H _ I q) fun us s1 ⟨vs, H1, I1, r, q1⟩ => ⟨I1.kIn, hc pins s1 σ H1 Q us vs I1 r q1⟩
theorem se_call0 {x : Str} {f : Addr} {p : Pos} (hc : Calls X W (.ref f) (g.cf (x, none))) (hg : Gl X x) (hm : X.mg x = some (.ref f)) (hk : PySem.W.keepIn X.K (.ref f) = true)
    (hdb : (x == ("__debug__" : Str)) = false) : SE X W g (.call x []) (.Call (.Name x p) [] [] pos) := by
  refine ⟨fun pins s σ H Q I h => ?_⟩
  have q : rdA X.K W (evalEs g []) σ H fun vs H1 => spF X.K (g.cf (x, none)) vs H1 Q (fun c d H' => W c d σ H') :=
    rdA.then (f := g.cf (x, none)) (h := rdE.re h fun δ => by rw [evalE]) fun ρ h ds vs H rl rs p => ⟨ρ, h, ds, rl, rs, p⟩
  obtain ⟨ρ, h1, δ, rl, sl, p⟩ := q
  have p : Po X.K (relVs X.K) (fun c d H' => W c d σ H') ρ H (fun vs H1 => spF X.K (g.cf (x, none)) vs H1 Q (fun c d H' => W c d σ H')) (.ok [] h1) := p
  refine wpAny_Call_Name_kw (ld_glob I hg hm ?_ hdb)
  exact PySem.W.callWith_K0 I.kIn hk (hc pins s σ H Q [] [] I .nil (p.ok rl rfl))
/-- a new instance -/
theorem calls_make {k : Nat} {cn : Str} {f : Addr} {fd : FuncData} {ps : List Str} (Mk' : Mk X.K (He.ga X.K cn) f) (F : FnOk X.prog X.w X.K X.mg X.base (L2N.CX X.prog X.w) k f fd ps (spF X.K (g.cm (cn, some "__init__")))) (hr : Room (k + 1) X.A) (hb : Binds X.K fd ps []) (tk : L2N.Takes X W) :
    Calls X W (.ref (He.ga X.K cn)) (mkI g cn) := by
  intro pins s σ H Q us vs I r h
  obtain ⟨ρ, hs, ds, rl, rs, p⟩ := h
  have fr : ∀ n, s.heap.objs.size ≤ n → H n = none := fun n hn => I.hok.fresh hn
  have hsz := fr (s.heap.objs.size + 1) (Nat.le_succ _)
  have hs0 := fr s.heap.objs.size (Nat.le_refl _)
  have nab : s.heap.objs.size ≠ s.heap.objs.size + 1 := Nat.ne_of_lt (Nat.lt_succ_self _)
  have I2 := Inv.made (C := He.ga X.K cn) I
  -- the machine's heap with the new instance
  obtain ⟨rl1, x1⟩ := rl.newT (u := .own (s.heap.objs.size + 1)) hs0
  have hsz1 : upd H s.heap.objs.size (.own (s.heap.objs.size + 1)) (s.heap.objs.size + 1) = none := by rw [upd_ne nab.symm]; exact hsz
  obtain ⟨rl2, x2⟩ := rl1.new (o := .ins cn []) (u := .ins (He.ga X.K cn) s.heap.objs.size []) hsz1 ⟨_, [], upd_same, rfl⟩
  have x12 := x1.trans x2
  have hat : (ρ ++ [s.heap.objs.size + 1])[hs.length]? = some (s.heap.objs.size + 1) := by
    rw [← rl.len, List.getElem?_append_right (Nat.le_refl _)]; simp
  have p : Po X.K (relV X.K) (fun c d H' => W c d σ H') ρ H Q (bnd (g.cm (cn, some "__init__") (.ref hs.length :: ds)) (fun r => match r with
      | .non => ret (.ref hs.length)
      | _ => fail) (hs ++ [.ins cn []])) := p
  have hq : spF X.K (g.cm (cn, some "__init__")) (.ref (s.heap.objs.size + 1) :: vs) (upd (upd H s.heap.objs.size (.own (s.heap.objs.size + 1))) (s.heap.objs.size + 1) (.ins (He.ga X.K cn) s.heap.objs.size []))
      (fun v H2 => v = .non ∧ Q (.ref (s.heap.objs.size + 1)) H2) (fun c d H' => W c d σ H') := by
    refine ⟨_, _, .ref hs.length :: ds, rl2, ⟨_, vs, rfl, ⟨_, hat, rfl⟩, rs.mono rl x12⟩, (p.mono x12).bnd fun d h1 ρ1 H1 v _ x3 rl3 r3 p3 => ?_⟩
    cases d with
    | non => exact ⟨r3, p3.ok rl3 ⟨_, x3.pre _ _ hat, rfl⟩⟩
    | _ => exact False.elim p3
  have r2 : Vals (V.ref (s.heap.objs.size + 1) :: vs) (Value.ref (s.heap.objs.size + 1) :: us) := .cons rfl r
  have hl : (Value.ref (s.heap.objs.size + 1) :: us).length = ps.length := by
    rw [← r2.length]; exact F.len _ _ _ _ hq
  have bd := hb { s with heap := (s.heap.push PySem.W.emptyDict).push (PySem.W.instObj (He.ga X.K cn) s.heap.objs.size) } (Value.ref (s.heap.objs.size + 1) :: us) I2.kIn (by rw [List.append_nil]; exact hl)
  rw [List.append_nil] at bd
  have run := F.run (X.A.under (.builtin "type.__call__" ⟨.ref (He.ga X.K cn) :: us, []⟩)) X.stack _ _ ⟨Value.ref (s.heap.objs.size + 1) :: us, []⟩ _ _ _ _ (hr.make (He.ga X.K cn) us []) (I2.env0.make (He.ga X.K cn) us []) bd r2 hq
  refine wpAny_call (make_map (f := f) I.kIn Mk'.makes Mk'.init (beq_iff_eq.mp Mk'.fn) (codeAny_mono run fun res s' hres => ?_))
  match res, hres with
  | .error e, hres => exact L2N.passAt tk σ pins _ _ e s' I2 hres
  | .ok (.ret u), hres =>
    obtain ⟨v, H', I3, rv, ev, q3⟩ := I2.after hres
    subst ev
    exact ⟨rv, ⟨V.ref (s.heap.objs.size + 1), H', I3, rfl, q3⟩⟩
  | .ok .next, hres => exact False.elim hres
  | .ok .brk, hres => exact False.elim hres
  | .ok .cont, hres => exact False.elim hres
theorem se_make {x : Str} {As : List E} {e : Expr} {es : List Expr} {p : Pos} (hc : Calls X W (.ref (He.ga X.K x)) (mkI g x)) (hg : Gl X x) (hm : X.mg x = some (.ref (He.ga X.K x))) (hk : PySem.W.keepIn X.K (.ref (He.ga X.K x)) = true) (hs : SA X W g As (e :: es))
    (hdb : (x == ("__debug__" : Str)) = false) (he : starEach (e :: es) X.env = (false, eval e X.env) :: starEach es X.env) (hpl : (backTo pos (starEach es X.env)).any (·.1) = false) : SE X W g (.make x As) (.Call (.Name x p) (e :: es) [] pos) := by
  refine ⟨fun pins s σ H Q I h => ?_⟩
  have q : rdA X.K W (evalEs g As) σ H fun vs H1 => spF X.K (mkI g x) vs H1 Q (fun c d H' => W c d σ H') :=
    rdA.then (f := mkI g x) (h := rdE.re h fun δ => by rw [evalE]) fun ρ h ds vs H rl rs p => ⟨ρ, h, ds, rl, rs, p⟩
  refine wpAny_Call_Name_kw (ld_glob I hg hm ?_ hdb)
  refine PySem.W.callWith_K (h₀ := X.base) I.ok.mod.kin hk ?_ he hpl
  exact thn (hs.run pos pins s σ H _ I q) fun us s1 ⟨vs, H1, I1, r, q1⟩ => ⟨I1.kIn, hc pins s1 σ H1 Q us vs I1 r q1⟩
/-- the receiver is no call without arguments (super) -/
def baseOk : Expr → Bool
  | .Call (.Name _ _) [] [] _ => false
  | _ => true
theorem base_ok {o : Expr} (h : baseOk o = true) (f : Str) (env : Env) (w : Sem Value) : attributeBase o f env w = w := by
  unfold attributeBase
  split
  · cases h
  · rfl
def notStar : Expr → Bool
  | .Starred _ _ => false
  | _ => true
theorem star1 {e : Expr} (h : notStar e = true) (es : List Expr) (env : Env) : starEach (e :: es) env = (false, eval e env) :: starEach es env := by
  cases e <;> first | rfl | cases h
theorem star_any {pos : Pos} {env : Env} : ∀ {es : List Expr}, es.all notStar = true → (backTo pos (starEach es env)).any (·.1) = false
  | [], _ => rfl
  | e :: es, h => by
    simp only [List.all_cons, Bool.and_eq_true] at h
    rw [star1 h.1]
    show (false || (backTo pos (starEach es env)).any (·.1)) = false
    rw [star_any h.2]
    rfl
theorem star_all {pos : Pos} {env : Env} : ∀ {es : List Expr}, es.all notStar = true → (backTo pos (starEach es env)).all (fun x => !x.1) = true
  | [], _ => rfl
  | e :: es, h => by
    simp only [List.all_cons, Bool.and_eq_true] at h
    rw [star1 h.1]
    show (true && (backTo pos (starEach es env)).all (fun x => !x.1)) = true
    rw [star_all h.2]
    rfl
def MthOk (X : Cx) (W : WX) (g : G) : Prop := ∀ c m, g.mth c m = true → ∃ f, Cls X.K (He.ga X.K c) ∧ Meth X.K (He.ga X.K c) m f ∧ Calls X W (.ref f) (g.cf (c, some m))
theorem meth_E {m : Str} {As : List E} (δ : Sl) : evalE g (.meth A m As) δ = bnd (evalE g A δ) fun x => bnd (methC g x m) fun c => bnd (evalEs g As δ) fun ds => g.cf (c, some m) (x :: ds) := by rw [evalE]
/-- the receiver and its method -/
theorem methC_ok (mo : MthOk X W g) {ρ : List Addr} {h : Hs} {H : Hp} (rl : Rl X.K ρ h H) {x : D} {v : V} (r : RV X.K ρ H x v) {m : Str} {W' : XK} {α β : Type} {rel : List Addr → Hp → α → β → Prop} {Q : β → Hp → Prop} {f : Str → M α} (p : Po X.K rel W' ρ H Q (bnd (methC g x m) f h)) :
    ∃ a c dx fs k, v = .ref a ∧ H a = some (.ins (He.ga X.K c) dx fs) ∧ fs.lookup m = none ∧ Cls X.K (He.ga X.K c) ∧ Meth X.K (He.ga X.K c) m k ∧ Calls X W (.ref k) (g.cf (c, some m)) ∧ Po X.K rel W' ρ H Q (f c h) := by
  unfold bnd methC at p
  cases x with
  | ref i =>
    obtain ⟨q, e0, rfl⟩ := r
    obtain ⟨o, g1, ro⟩ := rl.of e0
    dsimp only at p
    rw [g1] at p
    cases o with
    | ins c fs =>
      dsimp only at p
      cases hl : fs.lookup m with
      | some d => rw [hl] at p; exact False.elim p
      | none =>
        rw [hl] at p
        dsimp only at p
        cases hm : g.mth c m with
        | false => rw [hm] at p; exact False.elim p
        | true =>
          rw [hm] at p
          obtain ⟨dx, vs, q1, rf⟩ := ro
          obtain ⟨k, k1, k2, k3⟩ := mo c m hm
          exact ⟨q, c, dx, vs, k, rfl, q1, rf.none hl, k1, k2, k3, p⟩
    | _ => exact False.elim p
  | _ => exact False.elim p
theorem se_meth {m : Str} {As : List E} {e : Expr} {es : List Expr} {apos : Pos} (mo : MthOk X W g) (ha : SE X W g A a) (hs : SA X W g As (e :: es)) (hb : baseOk a = true) (hn : (e :: es).all notStar = true) (hl : (apos.endLine == pos.line) = true) (h30 : (e :: es).length < 30) :
    SE X W g (.meth A m As) (.Call (.Attribute a m apos) (e :: es) [] pos) := by
  refine ⟨fun pins s σ H Q I h => ?_⟩
  obtain ⟨ρ, h, δ, rl, sl, p⟩ := rdE.re h meth_E
  have hf : methodCallForm ((e :: es).length + ([] : List Keyword).length) (backTo pos (starEach (e :: es) X.env)) (backToKw pos (keywordEach [] X.env)) = true := by
    unfold methodCallForm
    rw [star_all hn]
    simp only [List.length_nil, Nat.add_zero, Bool.true_and]
    exact decide_eq_true (show (e :: es).length + 0 < 30 from h30)
  show wpAny _ _ (do
    let ov ← attributeBase a m X.env (eval a X.env)
    standAt apos.atName
    methodCall a m apos pos X.env ov ((e :: es).length + ([] : List Keyword).length) (backTo pos (starEach (e :: es) X.env)) (backToKw pos (keywordEach [] X.env))) _ _ s
  rw [base_ok hb]
  have q : rdE X.K W (evalE g A) σ H fun v H1 => ∃ a c dx fs k, v = .ref a ∧ H1 a = some (.ins (He.ga X.K c) dx fs) ∧ fs.lookup m = none ∧ Cls X.K (He.ga X.K c) ∧ Meth X.K (He.ga X.K c) m k ∧ Calls X W (.ref k) (g.cf (c, some m)) ∧
      rdA X.K W (evalEs g As) σ H1 fun vs H2 => spF X.K (g.cf (c, some m)) (v :: vs) H2 Q (fun c d H' => W c d σ H') := by
    refine ⟨ρ, h, δ, rl, sl, p.bnd fun d h1 ρ1 H1 v _ x1 rl1 r1 p1 => ?_⟩
    obtain ⟨i, c, dx, fs, k, ev, e1, e2, k1, k2, k3, p2⟩ := methC_ok mo rl1 r1 p1
    refine ⟨i, c, dx, fs, k, ev, e1, e2, k1, k2, k3, ρ1, h1, δ, rl1, sl.mono rl x1, p2.bnd fun ds h2 ρ2 H2 vs _ x2 rl2 r2 p3 => ?_⟩
    exact ⟨ρ2, h2, d :: ds, rl2, ⟨v, vs, rfl, r1.mono rl1 x2, r2⟩, p3⟩
  refine wpAny_bind (thn (ha.run pins s σ H _ I q) fun ov s1 ⟨v, H1, I1, rv, i, c, dx, fs, k, ev, e1, e2, k1, k2, k3, q2⟩ => ?_)
  subst ev
  obtain rfl : ov = Value.ref i := rv
  refine wpAny_bind (wpAny_standAt ?_)
  unfold methodCall
  refine wpAny_bind (wpAny_holding ?_)
  unfold calleeOf
  rw [if_pos hf]
  refine getmeth_ok I1 e1 k1 k2 e2 ?_
  unfold methodCallPos
  rw [hf, hl]
  refine wpAny_bind (wpAny_pure ?_)
  refine PySem.W.callWith_K (first := [.ref i]) (h₀ := X.base) I.ok.mod.kin k2.kp ?_ (star1 (by simp only [List.all_cons, Bool.and_eq_true] at hn; exact hn.1) _ _) (star_any (by simp only [List.all_cons, Bool.and_eq_true] at hn; exact hn.2))
  exact thn (hs.run pos pins s1 σ H1 _ I1 q2) fun us s2 ⟨vs, H2, I2, r, q3⟩ => ⟨I2.kIn, k3 pins s2 σ H2 Q (.ref i :: us) (.ref i :: vs) I2 (.cons rfl r) q3⟩
theorem se_meth0 {m : Str} {apos : Pos} (mo : MthOk X W g) (ha : SE X W g A a) (hb : baseOk a = true) (hl : (apos.endLine == pos.line) = true) :
    SE X W g (.meth A m []) (.Call (.Attribute a m apos) [] [] pos) := by
  refine ⟨fun pins s σ H Q I h => ?_⟩
  obtain ⟨ρ, h, δ, rl, sl, p⟩ := rdE.re h meth_E
  have hf : methodCallForm (([] : List Expr).length + ([] : List Keyword).length) (backTo pos (starEach [] X.env)) (backToKw pos (keywordEach [] X.env)) = true := rfl
  show wpAny _ _ (do
    let ov ← attributeBase a m X.env (eval a X.env)
    standAt apos.atName
    methodCall a m apos pos X.env ov (([] : List Expr).length + ([] : List Keyword).length) (backTo pos (starEach [] X.env)) (backToKw pos (keywordEach [] X.env))) _ _ s
  rw [base_ok hb]
  have q : rdE X.K W (evalE g A) σ H fun v H1 => ∃ a c dx fs k, v = .ref a ∧ H1 a = some (.ins (He.ga X.K c) dx fs) ∧ fs.lookup m = none ∧ Cls X.K (He.ga X.K c) ∧ Meth X.K (He.ga X.K c) m k ∧ Calls X W (.ref k) (g.cf (c, some m)) ∧
      spF X.K (g.cf (c, some m)) [v] H1 Q (fun c d H' => W c d σ H') := by
    refine ⟨ρ, h, δ, rl, sl, p.bnd fun d h1 ρ1 H1 v _ x1 rl1 r1 p1 => ?_⟩
    obtain ⟨i, c, dx, fs, k, ev, e1, e2, k1, k2, k3, p2⟩ := methC_ok mo rl1 r1 p1
    exact ⟨i, c, dx, fs, k, ev, e1, e2, k1, k2, k3, ρ1, h1, [d], rl1, RVs.one r1, p2⟩
  refine wpAny_bind (thn (ha.run pins s σ H _ I q) fun ov s1 ⟨v, H1, I1, rv, i, c, dx, fs, k, ev, e1, e2, k1, k2, k3, q2⟩ => ?_)
  subst ev
  obtain rfl : ov = Value.ref i := rv
  refine wpAny_bind (wpAny_standAt ?_)
  unfold methodCall
  refine wpAny_bind (wpAny_holding ?_)
  unfold calleeOf
  rw [if_pos hf]
  refine getmeth_ok I1 e1 k1 k2 e2 ?_
  unfold methodCallPos
  rw [hf, hl]
  refine wpAny_bind (wpAny_pure ?_)
  exact PySem.W.callWith_K0 (first := [.ref i]) I1.kIn k2.kp (k3 pins s1 σ H1 Q [.ref i] [.ref i] I1 (.cons rfl .nil) q2)
/-! ### methods of lists -/
theorem bm_E {m : Bm} {As : List E} (δ : Sl) : evalE g (.bm A m As) δ = bnd (evalE g A δ) fun x => bnd (isL x) fun _ => bnd (evalEs g As δ) fun ds => bmf m x ds := by rw [evalE]
theorem isL_ok {K : PySem.W.Frag} {ρ : List Addr} {h : Hs} {H : Hp} (rl : Rl K ρ h H) {x : D} {v : V} (r : RV K ρ H x v) {W' : XK} {α β : Type} {rel : List Addr → Hp → α → β → Prop} {Q : β → Hp → Prop} {f : Unit → M α} (p : Po K rel W' ρ H Q (bnd (isL x) f h)) :
    tyV K "list" v H ∧ Po K rel W' ρ H Q (f () h) := by
  unfold bnd isL at p
  cases x with
  | ref i =>
    obtain ⟨q, e0, rfl⟩ := r
    obtain ⟨o, g1, ro⟩ := rl.of e0
    dsimp only at p
    rw [g1] at p
    cases o with
    | lst l =>
      obtain ⟨vs, q1, _⟩ := ro
      exact ⟨.inl ⟨rfl, vs, SqL.of q1⟩, p⟩
    | _ => exact False.elim p
  | _ => exact False.elim p
def rdM (K : PySem.W.Frag) (m : Bm) : V → List V → Hp → VK → Prop := fun x xs H Q => ∃ ρ h d ds, Rl K ρ h H ∧ RV K ρ H d x ∧ RVs K ρ H ds xs ∧ Po K (relV K) (fun _ _ _ => False) ρ H Q (bmf m d ds h)
theorem MtR.by {id : String} {r : V → List V → Hp → VK → Prop} (k : ∀ x xs H Q, r x xs H Q → ∃ r' : V → List V → Hp → VK → Prop, MtR X id r' ∧ r' x xs H Q) : MtR X id r := fun pins s σ H x xs v us Q I rx rs q =>
  let ⟨_, o, q'⟩ := k x xs H Q q
  o pins s σ H x xs v us Q I rx rs q'
def bmId : Bm → String
  | .append => "list.append"
  | .pop => "list.pop"
def bmName : Bm → Str
  | .append => "append"
  | .pop => "pop"
theorem mt_bm {m : Bm} : MtR X (bmId m) (rdM X.K m) := by
  refine MtR.by fun x xs H Q ⟨ρ, h, d, ds, rl, r, rs, p⟩ => ?_
  cases d with
  | ref i =>
    obtain ⟨q, e0, rfl⟩ := r
    obtain ⟨o, g1, ro⟩ := rl.of e0
    unfold bmf at p
    dsimp only at p
    rw [g1] at p
    cases m with
    | append =>
      cases o with
      | lst l =>
        match ds, rs, p with
        | [y], rs, p =>
          obtain ⟨v, rfl, rv⟩ := vs1 rs
          obtain ⟨vs, q1, r1⟩ := ro
          dsimp only at p
          by_cases c : l.length < sizeLine
          · rw [if_pos c] at p
            obtain ⟨r', x'⟩ := rl.wr (a := i) (p := q) (u := .lst (vs ++ [v])) (o := .lst (l ++ [y])) e0 fun st => ⟨_, upd_same, (r1.append (RVs.one rv)).st st⟩
            exact ⟨_, mt_append, q, vs, v, rfl, rfl, q1, by rw [r1.length]; exact c, p _ _ _ x' r' rfl⟩
          · rw [if_neg c] at p; exact False.elim p
        | [], rs, p => exact False.elim p
        | _ :: _ :: _, rs, p => exact False.elim p
      | _ => exact False.elim p
    | pop =>
      cases o with
      | lst l =>
        match ds, rs, p with
        | [], rs, p =>
          obtain ⟨vs, q1, r1⟩ := ro
          dsimp only at p
          cases e : l[l.length - 1]? with
          | none => rw [e] at p; exact False.elim p
          | some y =>
            rw [e] at p
            obtain ⟨v, ev, rv⟩ := r1.get e
            obtain ⟨r', x'⟩ := rl.wr (a := i) (p := q) (u := .lst vs.dropLast) (o := .lst l.dropLast) e0 fun st => ⟨_, upd_same, r1.dropLast.st st⟩
            exact ⟨_, mt_pop, q, vs, v, rfl, rs, q1, by rw [r1.length]; exact ev, p _ _ _ x' r' (rv.mono rl x')⟩
        | _ :: _, rs, p => exact False.elim p
      | _ => exact False.elim p
  | _ => exact False.elim p
theorem bmf_noexc {m : Bm} {x : D} {ds : List D} {h : Hs} {c : Str} {fs : Option (List (Str × D))} {h' : Hs} : bmf m x ds h ≠ .exc c fs h' := by
  intro e
  unfold bmf at e
  split at e
  · split at e
    · split at e <;> cases e
    · split at e <;> cases e
    · cases e
  · cases e
theorem se_bm {m : Bm} {As : List E} {e : Expr} {es : List Expr} {apos : Pos} (ha : SE X W g A a) (hs : SA X W g As (e :: es)) (hb : baseOk a = true) (hn : (e :: es).all notStar = true) (hl : (apos.endLine == pos.line) = true) (h30 : (e :: es).length < 30) :
    SE X W g (.bm A m As) (.Call (.Attribute a (bmName m) apos) (e :: es) [] pos) := by
  have fin : ∀ σ H Q, rdE X.K W (evalE g (.bm A m As)) σ H Q → tBM X.K "list" (rdM X.K m) (rdE X.K W (evalE g A)) (rdA X.K W (evalEs g As)) σ H Q := fun σ H Q h => by
    obtain ⟨ρ, h, δ, rl, sl, p⟩ := rdE.re h bm_E
    refine ⟨ρ, h, δ, rl, sl, p.bnd fun d h1 ρ1 H1 v _ x1 rl1 r1 p1 => ?_⟩
    obtain ⟨ty, p2⟩ := isL_ok rl1 r1 p1
    refine ⟨ty, ρ1, h1, δ, rl1, sl.mono rl x1, p2.bnd fun ds h2 ρ2 H2 vs _ x2 rl2 r2 p3 => ?_⟩
    exact ⟨ρ2, h2, d, ds, rl2, r1.mono rl1 x2, r2, p3.noexc fun _ _ _ => bmf_noexc⟩
  have hf : ((backTo pos (starEach (e :: es) X.env)).all (fun x => !x.1) && (backToKw pos (keywordEach [] X.env)).all (fun x => x.1.isSome)
      && decide ((e :: es).length + ([] : List Keyword).length + (if ([] : List Keyword).isEmpty then 0 else 1) < 30)) = true := by
    rw [star_all hn]
    exact decide_eq_true (show (e :: es).length + 0 + 0 < 30 from h30)
  have h1 := star1 (by simp only [List.all_cons, Bool.and_eq_true] at hn; exact hn.1) es X.env
  have h2 := star_any (pos := pos) (env := X.env) (by simp only [List.all_cons, Bool.and_eq_true] at hn; exact hn.2 : es.all notStar = true)
  cases m with
  | append => exact PE.imp (pe_bm PySem.F.plainAttrs_list PySem.F.slot_list_append PySem.F.type_list_append (mt_bm (m := .append)) ha hs (base_ok hb _ _ _) hf hl h1 h2) fin
  | pop => exact PE.imp (pe_bm PySem.F.plainAttrs_list PySem.F.slot_list_pop PySem.F.type_list_pop (mt_bm (m := .pop)) ha hs (base_ok hb _ _ _) hf hl h1 h2) fin
theorem se_bm0 {m : Bm} {apos : Pos} (ha : SE X W g A a) (hb : baseOk a = true) (hl : (apos.endLine == pos.line) = true) : SE X W g (.bm A m []) (.Call (.Attribute a (bmName m) apos) [] [] pos) := by
  have fin : ∀ σ H Q, rdE X.K W (evalE g (.bm A m [])) σ H Q → tBM0 X.K "list" (rdM X.K m) (rdE X.K W (evalE g A)) σ H Q := fun σ H Q h => by
    obtain ⟨ρ, h, δ, rl, sl, p⟩ := rdE.re h bm_E
    refine ⟨ρ, h, δ, rl, sl, p.bnd fun d h1 ρ1 H1 v _ x1 rl1 r1 p1 => ?_⟩
    obtain ⟨ty, p2⟩ := isL_ok rl1 r1 p1
    have p2 : Po X.K (relV X.K) (fun c d H' => W c d σ H') ρ1 H1 Q (bmf m d [] h1) := p2
    exact ⟨ty, ρ1, h1, d, [], rl1, r1, rfl, p2.noexc fun _ _ _ => bmf_noexc⟩
  cases m with
  | append => exact PE.imp (pe_bm0 PySem.F.plainAttrs_list PySem.F.slot_list_append PySem.F.type_list_append (mt_bm (m := .append)) ha (base_ok hb _ _ _) hl) fin
  | pop => exact PE.imp (pe_bm0 PySem.F.plainAttrs_list PySem.F.slot_list_pop PySem.F.type_list_pop (mt_bm (m := .pop)) ha (base_ok hb _ _ _) hl) fin
/-! ### attributes -/
/-- o.f: what the machine tells of it -/
def GaOk (X : Cx) (W : WX) (g : G) (f : Str) : Prop := ∀ (pins : List (Addr × Obj)) (s : Shared) (σ : St) (H : Hp) (Q : VK) (u : Value) (v : V) (ρ : List Addr) (h : Hs) (d : D), Inv X pins σ H s → RelV v u → Rl X.K ρ h H → RV X.K ρ H d v → Po X.K (relV X.K) (fun c d H' => W c d σ H') ρ H Q (getattr g d f h) →
  wpAny (model X.prog X.w) X.A (getAttr u f true) (EP X pins σ Q) X.xe s
def PrpOk (X : Cx) (g : G) : Prop := ∀ c f, g.prp c f = true → g.hot = false → ∃ p a fd ps k, Cls X.K (He.ga X.K c) ∧ PropOf X.K (He.ga X.K c) f p a ∧ FnOk X.prog X.w X.K X.mg X.base (L2N.CX X.prog X.w) k a fd ps (spF X.K (g.cm (c, some f))) ∧ Room (k + 1) X.A ∧ Binds X.K fd ps []
theorem passN {X : Cx} : Passes (L2N.CX X.prog X.w) X (fun _ _ _ => False) := fun _ _ _ _ _ _ _ ⟨_, _, _, _, _, _, _, _, _, _, _, _, w⟩ => w.elim
theorem ga_ok {f : Str} (fo : FldOk X.K g) (po : PrpOk X g) (hx : HxIn X g) (xf : XcF X.K g) : GaOk X W g f := by
  intro pins s σ H Q u v ρ h d I rv rl r p
  unfold getattr at p
  cases d with
  | exn a dd c ns ds =>
    dsimp only at p
    cases q : (xOk g a dd c && g.xfd c f) with
    | false => rw [q] at p; exact False.elim p
    | true =>
      rw [q, if_pos rfl] at p
      obtain ⟨q1, q2⟩ := Bool.and_eq_true_iff.mp q
      obtain ⟨rfl, ws, hd, rs⟩ := r
      cases (show u = Value.ref a from rv)
      cases hl : (ns.zip ds).lookup f with
      | none => rw [hl] at p; exact False.elim p
      | some d =>
        rw [hl] at p
        have : ∃ v, (ns.zip ws).lookup f = some v ∧ RV X.K ρ H d v := by
          have look : ∀ (ns : List Str) (ds : List D) (ws : List V), RVs X.K ρ H ds ws → (ns.zip ds).lookup f = some d → ∃ v, (ns.zip ws).lookup f = some v ∧ RV X.K ρ H d v := by
            intro ns
            induction ns with
            | nil => intro ds ws _ e; cases e
            | cons n ns ih =>
              intro ds ws rs e
              cases ds with
              | nil => cases e
              | cons d0 ds =>
                obtain ⟨v, r, rfl, a, b⟩ := rs
                rw [List.zip_cons_cons, List.lookup_cons] at e
                rw [List.zip_cons_cons, List.lookup_cons]
                cases q : (f == n) with
                | true => rw [q] at e; cases e; exact ⟨v, rfl, a⟩
                | false => rw [q] at e; exact ih ds r b e
          exact look ns ds ws rs hl
        obtain ⟨v, ev, rv⟩ := this
        exact xf_ga hx xf q1 q2 hd ev I (p.ok rl rv)
  | ref i =>
    obtain ⟨q, e0, rfl⟩ := r
    cases (show u = Value.ref q from rv)
    obtain ⟨o, g1, ro⟩ := rl.of e0
    dsimp only at p
    rw [g1] at p
    cases o with
    | ins c fs =>
      dsimp only at p
      obtain ⟨dx, vs, q1, rf⟩ := ro
      cases hf : g.fld c f with
      | false =>
        rw [hf, if_neg Bool.false_ne_true] at p
        cases hh : (!g.hot && g.prp c f) with
        | false => rw [hh] at p; exact False.elim p
        | true =>
          rw [hh, if_pos rfl] at p
          obtain ⟨h1, h2⟩ := Bool.and_eq_true_iff.mp hh
          obtain ⟨pr, a, fd, ps, k, k1, k2, F, hr, hb⟩ := po c f h2 (by cases e : g.hot <;> first | rfl | (rw [e] at h1; cases h1))
          refine getprop_ok I q1 k1 k2 F hr hb .nil passN ⟨ρ, h, [.ref i], rl, ⟨.ref q, [], rfl, ⟨q, e0, rfl⟩, rfl⟩, ?_⟩
          cases e : g.cm (c, some f) [.ref i] h with
          | ok d h' => rw [e] at p; exact p
          | exc c fs h' => rw [e] at p; exact False.elim p
          | bad => rw [e] at p; exact False.elim p
      | true =>
        rw [hf, if_pos rfl] at p
        cases hl : fs.lookup f with
        | none => rw [hl] at p; exact False.elim p
        | some d =>
          rw [hl] at p
          obtain ⟨v, ev, rv⟩ := rf.look hl
          obtain ⟨k1, k2⟩ := fo c f hf
          exact getattr_ok I q1 k1 k2 ev fun u' s2 I2 ru => ⟨v, H, I2, ru, p.ok rl rv⟩
    | _ => exact False.elim p
  | _ => exact False.elim p
theorem se_attr {f : Str} (go : GaOk X W g f) (ha : SE X W g A a) (hb : attributeBase a f X.env (eval a X.env) = eval a X.env) : SE X W g (.attr A f) (.Attribute a f pos) := by
  refine ⟨fun pins s σ H Q I hq => ?_⟩
  obtain ⟨ρ, h, δ, rl, sl, p⟩ := rdE.re hq attr_E
  refine attr_of hb (thn (ha.run pins s σ H (fun v H1 => ∃ ρ1 h1 d, Rl X.K ρ1 h1 H1 ∧ RV X.K ρ1 H1 d v ∧ Po X.K (relV X.K) (fun c d H' => W c d σ H') ρ1 H1 Q (getattr g d f h1)) I
    ⟨ρ, h, δ, rl, sl, p.bnd fun d h1 ρ1 H1 v _ x1 rl1 r1 p1 => ⟨ρ1, h1, d, rl1, r1, p1⟩⟩) fun u s1 hh => ?_)
  obtain ⟨v, H1, I1, rv, ρ1, h1, d, rl1, r1, p1⟩ := hh
  exact go pins s1 σ H1 Q u v ρ1 h1 d I1 rv rl1 r1 p1
end
end Ip
end
section
set_option Elab.async false
set_option linter.all false
set_option maxRecDepth 100000
set_option maxHeartbeats 1000000
/-! operators of own classes -/
namespace Ip
open PySem PySem.Spec PySem.Calls PyProof.Rows PySem.W
section
variable {prog : Program} {w : World} {A : Around} {E : Value → Shared → Prop} {s : Shared} {K : Frag} {x C f : Addr} {ox : Obj} {od : Option Obj} {b tb : Value}
/-- x != b where the class has its own ==, no != of its own -/
theorem ne_own {Q : Value → Shared → Prop} (hu : A.units + 1 < cLine) (X : K.In s.heap) (I : InstAt s.heap x ox C od) (hb : Looks (model prog w) s.heap (typeOf b) tb) (first : notFirst K C tb = true) (hne : findIn K (.ref C) "__ne__" = some (some (.builtin "object.__ne__")))
    (hsub : subIn K (.ref C) (.type "object") = some true) (heq : findIn K (.ref C) "__eq__" = some (some (.ref f))) (hf : isFn K (.ref f) = true)
    (h : wpAny (model prog w) A.in1 (call (.ref f) [.ref x, b]) (fun v s' => ∃ r, v = .bool r ∧ Q (.bool (!r)) s') E s) : wpAny (model prog w) A (compareOp .NotEq (.ref x) b) Q E s := by
  obtain ⟨hp, gg, dr, tk, os⟩ := s
  have inner : wpAny (model prog w) A (call (.builtin "object.__ne__") [.ref x, b]) (fun v s' => ∃ r, v = .bool (!r) ∧ Q (.bool (!r)) s') E ⟨hp, gg, dr, tk, os⟩ := by
    refine wpAny_call (codeAny_call_builtin F.cmp_object.ne.plain F.cmpEntry_ne ?_)
    refine check_slot (i := "object.__ne__") (owner := "object") (n := "__ne__") F.cmpKind_ne F.cmpSplit_ne (I.type.andThen (looks_subIn X hsub)) (F.cmpArgs_ne _ _) ?_
    unfold Builtin.«object.__ne__»
    refine wpAny_bind (wpAny_of_eq (a := ((Value.ref x : Value), [b])) (by first | rfl | (simp only [slotArgs]; rfl)) ?_)
    refine wpAny_bind (wpAny_cRoomFor hu ?_)
    refine wpAny_bind (ifBound_K X I heq hf (wpAny_mono h (fun v s' hv => ?_) fun _ _ e => e))
    obtain ⟨r, rfl, q⟩ := hv
    refine wpAny_bind (wpAny_truthy_bool ?_)
    first
      | exact wpAny_pure ⟨r, rfl, q⟩
      | exact ⟨r, rfl, q⟩
  have one : wpAny (model prog w) A (tryCompare (.ref x) "__ne__" b) (fun r s' => ∃ v, r = some v ∧ Q v s') E ⟨hp, gg, dr, tk, os⟩ := by
    unfold tryCompare callSpecialIfBound? bindSpecialIfBound?
    refine wpAny_bind (wpAny_holding (wpAny_bind (wpAny_bind (wpAny_bind (I.type.here ((looks_findIn X hne).here ?_))))))
    refine wpAny_bind (wpAny_askSetting (wpAny_ite ?_))
    have fin : wpAny (model prog w) A (call (.builtin "object.__ne__") ([.ref x] ++ [b]) >>= fun v => pure (some v)) (fun r s' => wpAny (model prog w) A (match r with
        | some .notImplemented => pure none
        | none => pure none
        | some v => pure (some v)) (fun r s' => ∃ v, r = some v ∧ Q v s') E s') E ⟨hp, gg, dr, tk, os⟩ := by
      refine wpAny_bind (wpAny_mono inner (fun v s' hv => ?_) fun _ _ e => e)
      obtain ⟨r, rfl, q⟩ := hv
      exact wpAny_pure (wpAny_pure ⟨_, rfl, q⟩)
    simp only [F.cmp_object.ne.bind]
    split
    · exact wpAny_bind (wpAny_pure (wpAny_pure fin))
    · exact wpAny_tryCatch (wpAny_bind (wpAny_pure (wpAny_pure fin)))
  unfold compareOp richCompare
  simp only [oneThing_ref]
  refine wpAny_holding (wpAny_bind (wpAny_cRoomFor (by omega) ?_))
  refine wpAny_bind (I.type.here (wpAny_bind (hb.here ?_)))
  have rest : wpAny (model prog w) A (tryCompare (.ref x) "__ne__" b) (fun r s' => ∃ v, r = some v ∧ Q v s') E ⟨hp, gg, dr, tk, os⟩ := one
  split
  · rename_i q
    have e : subIn K tb (.ref C) = some false := by
      rcases Bool.or_eq_true_iff.mp first with e | e
      · rw [beq_iff_eq.mp e] at q; simp at q
      · exact beq_iff_eq.mp e
    refine wpAny_bind ((looks_subIn X e).here ?_)
    simp only [Bool.false_eq_true, if_false]
    refine wpAny_bind (wpAny_mono rest (fun r s' z => ?_) fun _ _ e => e)
    obtain ⟨v, rfl, hq⟩ := z
    exact wpAny_pure hq
  · refine wpAny_bind (wpAny_pure ?_)
    simp only [Bool.false_eq_true, if_false]
    refine wpAny_bind (wpAny_mono rest (fun r s' z => ?_) fun _ _ e => e)
    obtain ⟨v, rfl, hq⟩ := z
    exact wpAny_pure hq
end
end Ip
namespace Ip
open PySem L2
/-- a two-place operation out of which errors may come -/
def OpW (X : Cx) (f : Value → Value → Sem Value) (r : L2.St → R2) : Prop := ∀ (pins : List (Addr × Obj)) (s : Shared) (σ : L2.St) (H : Hp) (x y : V) (v u : Value) (Q : VK), Inv X pins σ H s → RelV x v → RelV y u → r σ x y H Q → wpAny (model X.prog X.w) X.A (f v u) (EP X pins σ Q) X.xe s
def rdOW (K : PySem.W.Frag) (W : WX) (f : D → D → M D) : L2.St → R2 := fun σ x y H Q => ∃ ρ h a b, Rl K ρ h H ∧ RV K ρ H a x ∧ RV K ρ H b y ∧ Po K (relV K) (fun c d H' => W c d σ H') ρ H Q (f a b h)
/-- what own classes have for operators -/
structure OwOk (X : Cx) (W : WX) (g : G) : Prop where
  opo : ∀ c o, g.opo c o = true → ∃ f, Cls X.K (He.ga X.K c) ∧ PySem.W.selfFirst X.K (He.ga X.K c) = true ∧ PySem.W.findIn X.K (.ref (He.ga X.K c)) (PySem.dunder o.info.2) = some (some (.ref f)) ∧ PySem.W.isFn X.K (.ref f) = true ∧ Calls X W (.ref f) (g.cf (c, some (PySem.dunder o.info.2)))
  opi : ∀ c o, g.opi c o = true → ∃ f fo ro rc, Cls X.K (He.ga X.K c) ∧ PySem.W.selfFirst X.K (He.ga X.K c) = true ∧ PySem.W.findIn X.K (.ref (He.ga X.K c)) (PySem.dunder o.info.2) = some (some (.ref f)) ∧ PySem.W.isFn X.K (.ref f) = true ∧
    PySem.W.findIn X.K (.ref (He.ga X.K c)) (dunderR o.info.2) = some rc ∧ (rc = none ∨ ∃ g : Addr, rc = some (.ref g)) ∧ PySem.W.findIn X.K (.type "int") (PySem.dunder o.info.2) = some fo ∧ PySem.W.findIn X.K (.type "int") (dunderR o.info.2) = some ro ∧ PySem.W.subIn X.K (.type "int") (.ref (He.ga X.K c)) = some false ∧
    Calls X W (.ref f) (g.cf (c, some (PySem.dunder o.info.2)))
  opu : ∀ c, g.opu c = true → ∃ f, Cls X.K (He.ga X.K c) ∧ PySem.W.findIn X.K (.ref (He.ga X.K c)) "__invert__" = some (some (.ref f)) ∧ PySem.W.isFn X.K (.ref f) = true ∧ Calls X W (.ref f) (g.cf (c, some "__invert__"))
  eqo : ∀ c t, g.eqo c t = true → ∃ f, Cls X.K (He.ga X.K c) ∧ PySem.W.notFirst X.K (He.ga X.K c) (tv X.K t) = true ∧ PySem.W.findIn X.K (.ref (He.ga X.K c)) "__eq__" = some (some (.ref f)) ∧ PySem.W.isFn X.K (.ref f) = true ∧ Calls X W (.ref f) (g.cf (c, some "__eq__"))
  neo : ∀ c t, g.eqo c t = true → g.hot = false → (∃ f k fd ps, Cls X.K (He.ga X.K c) ∧ PySem.W.notFirst X.K (He.ga X.K c) (tv X.K t) = true ∧ PySem.W.findIn X.K (.ref (He.ga X.K c)) "__ne__" = some (some (.builtin "object.__ne__")) ∧ PySem.W.subIn X.K (.ref (He.ga X.K c)) (.type "object") = some true ∧
    PySem.W.findIn X.K (.ref (He.ga X.K c)) "__eq__" = some (some (.ref f)) ∧ PySem.W.isFn X.K (.ref f) = true ∧ FnOk X.prog X.w X.K X.mg X.base (L2N.CX X.prog X.w) k f fd ps (spF X.K (g.cm (c, some "__eq__"))) ∧ Room (k + 1) X.A ∧ Binds X.K fd ps []) ∨ ∀ ds h, g.cm (c, some "__eq__") ds h = .bad
section
variable {X : Cx} {W : WX} {g : G} {A B C : E} {a b c : Expr} {pos : Pos}
theorem insOf_at {K : PySem.W.Frag} {ρ : List Addr} {h : Hs} {H : Hp} (rl : Rl K ρ h H) {d : D} {v : V} (r : RV K ρ H d v) {c : Str} (e : insOf h d = some c) : ∃ p dx fs, v = .ref p ∧ H p = some (.ins (He.ga K c) dx fs) := by
  cases d with
  | ref i =>
    obtain ⟨p, e0, rfl⟩ := r
    obtain ⟨o, g1, ro⟩ := rl.of e0
    unfold insOf at e
    dsimp only at e
    rw [g1] at e
    cases o with
    | ins c' fs =>
      cases e
      obtain ⟨dx, vs, q, _⟩ := ro
      exact ⟨p, dx, vs, rfl, q⟩
    | _ => cases e
  | _ => cases e
theorem inst_at {pins : List (Addr × Obj)} {s : Shared} {σ : L2.St} {H : Hp} (I : Inv X pins σ H s) {p C dx : Addr} {fs : List (Str × V)} (e : H p = some (.ins C dx fs)) : ∃ ox od, PySem.W.InstAt s.heap p ox C (some od) := by
  obtain ⟨mA, O, _⟩ := ins_get I.hok e
  obtain ⟨od, J, _⟩ := O.look
  exact ⟨_, od, J⟩
/-- a call's end is no NotImplemented -/
theorem back {pins : List (Addr × Obj)} {σ : L2.St} {Q : VK} {v : Value} {s' : Shared} (h : EP X pins σ Q v s') : PySem.W.CmpBack (EP X pins σ Q) v s' := by
  unfold PySem.W.CmpBack
  split
  · obtain ⟨x, H', _, r, _⟩ := h
    cases x <;> first | exact r.elim | (obtain ⟨t, e⟩ := r; cases e) | cases r
  · exact h
theorem op_binW {o : Operator} (ow : OwOk X W g) (ik : IsOk X.K g) (hx : HxIn X g) (xf : XcF X.K g) : OpW X (binaryOp o) (rdOW X.K W (binG g o)) := by
  intro pins s σ H x y v u Q I rx ry ⟨ρ, h, a, b, rl, ra, rb, p⟩
  unfold binG at p
  cases e : insOf h a with
  | none =>
    rw [e] at p
    exact op_bin (g := g) pins s σ H x y v u Q I rx ry ⟨ρ, h, a, b, rl, ra, rb, p.noexc fun _ _ _ => binop_noexc⟩
  | some c =>
    rw [e] at p
    dsimp only at p
    obtain ⟨q, dx, fs, rfl, ea⟩ := insOf_at rl ra e
    cases (show v = Value.ref q from rx)
    obtain ⟨ox, od, J⟩ := inst_at I ea
    obtain ⟨m, fr⟩ := I.fr
    cases c1 : (g.opo c o && tyIs c (tyOf g h b)) with
    | true =>
      rw [c1, Bool.true_or, if_pos rfl] at p
      obtain ⟨d1, d2⟩ := Bool.and_eq_true_iff.mp c1
      have ty : tyOf g h b = some (.cls c) := by
        unfold tyIs at d2
        split at d2
        · rename_i n en
          rw [en, of_decide_eq_true d2]
        · cases d2
      obtain ⟨P, Z, pp, _⟩ := tyOf_ok ik hx xf rl ty rb pins s σ u I ry
      obtain ⟨f, k1, k2, k3, k4, k5⟩ := ow.opo c o d1
      exact PySem.W.binop_K fr I.mod.kin J (Z.ty (model X.prog X.w) s.heap I.kIn pp) k2 k3 k4 (wpAny_mono (k5 pins s σ H Q [.ref q, u] [.ref q, y] I (.cons rfl (.cons ry .nil)) ⟨ρ, h, [a, b], rl, ⟨_, _, rfl, ra, _, _, rfl, rb, rfl⟩, p⟩) (fun _ _ z => back z) fun _ _ z => z)
    | false =>
      rw [c1, Bool.false_or] at p
      cases c2 : (g.opi c o && isInt b) with
      | false => rw [c2] at p; exact False.elim p
      | true =>
        rw [c2, if_pos rfl] at p
        obtain ⟨d1, d2⟩ := Bool.and_eq_true_iff.mp c2
        cases b with
        | int i =>
          obtain ⟨f, fo, ro, rc, k1, k2, k3, k4, k5, k6, k7, k8, k9, k10⟩ := ow.opi c o d1
          have ey : y = .int i := rb
          subst ey
          obtain ⟨t, rfl⟩ := (show ∃ t, u = Value.int i t from ry)
          exact PySem.W.ksp_binT fr I.mod.kin J (T := "int") rfl k2 k3 k4 k5 k6 k7 k8 k9 (wpAny_mono (k10 pins s σ H Q [.ref q, .int i t] [.ref q, .int i] I (.cons rfl (.cons ry .nil)) ⟨ρ, h, [a, .int i], rl, ⟨_, _, rfl, ra, _, _, rfl, rb, rfl⟩, p⟩) (fun _ _ z => back z) fun _ _ z => z)
        | _ => cases d2
theorem se_bin {o : Operator} (op : OpW X (binaryOp o) (rdOW X.K W (binG g o))) (ha : SE X W g A a) (hb : SE X W g B b) : SE X W g (.bin o A B) (.BinOp a o b pos) := by
  refine ⟨fun pins s σ H Q I hq => ?_⟩
  have q := rd2 (r := rdOW X.K W (binG g o) σ) (f := binG g o) (rdE.re hq fun δ => by rw [evalE]) fun ρ h x y vx vy H rl rx ry p => ⟨ρ, h, x, y, rl, rx, ry, p⟩
  exact wpAny_BinOp (binT ha hb I q fun v u s2 x y H2 I2 rx ry q => op pins s2 σ H2 x y v u Q I2 rx ry q)
theorem se_un {o : UnaryOp} (ow : OwOk X W g) (ha : SE X W g A a) (ho : o = .USub ∨ o = .Invert) : SE X W g (.un o A) (.UnaryOp o a pos) := by
  refine ⟨fun pins s σ H Q I hq => ?_⟩
  obtain ⟨ρ, h, δ, rl, sl, p⟩ := rdE.re hq fun δ => show evalE g (.un o A) δ = bnd (evalE g A δ) fun x => unG g o x by rw [evalE]
  refine PyProof.Rows.UnaryOp_ (thn (ha.run pins s σ H (fun v H1 => ∃ ρ1 h1 d, Rl X.K ρ1 h1 H1 ∧ RV X.K ρ1 H1 d v ∧ Po X.K (relV X.K) (fun c d H' => W c d σ H') ρ1 H1 Q (unG g o d h1)) I
    ⟨ρ, h, δ, rl, sl, p.bnd fun d h1 ρ1 H1 v _ x1 rl1 r1 p1 => ⟨ρ1, h1, d, rl1, r1, p1⟩⟩) fun v s1 hh => ?_)
  obtain ⟨x, H1, I1, rx, ρ1, h1, d, rl1, rd, p1⟩ := hh
  unfold unG at p1
  cases e : insOf h1 d with
  | none =>
    rw [e] at p1
    cases d with
    | int i =>
      rcases ho with rfl | rfl
      · exact un_neg pins s1 σ H1 x v Q I1 rx ⟨i, rd, p1.ok rl1 rfl⟩
      · exact un_inv pins s1 σ H1 x v Q I1 rx ⟨i, rd, p1.ok rl1 rfl⟩
    | _ => rcases ho with rfl | rfl <;> exact False.elim p1
  | some c =>
    rw [e] at p1
    dsimp only at p1
    cases c1 : (decide (o = .Invert) && g.opu c) with
    | false => rw [c1] at p1; exact False.elim p1
    | true =>
      rw [c1, if_pos rfl] at p1
      obtain ⟨d1, d2⟩ := Bool.and_eq_true_iff.mp c1
      cases of_decide_eq_true d1
      obtain ⟨q, dx, fs, rfl, ea⟩ := insOf_at rl1 rd e
      cases (show v = Value.ref q from rx)
      obtain ⟨ox, od, J⟩ := inst_at I1 ea
      obtain ⟨m, fr⟩ := I1.fr
      obtain ⟨f, k1, k2, k3, k4⟩ := ow.opu c d2
      exact PySem.W.ksp_inv fr I1.mod.kin J k2 k3 (k4 pins s1 σ H1 Q [.ref q] [.ref q] I1 (.cons rfl .nil) ⟨ρ1, h1, [d], rl1, ⟨_, _, rfl, rd, rfl⟩, p1⟩)
theorem boolR_po {K : PySem.W.Frag} {W : XK} {ρ : List Addr} {H : Hp} {Q : VK} {r : R D} (p : Po K (relV K) W ρ H Q (boolR r)) : Po K (relV K) W ρ H (fun v H' => (∃ k, v = .bl k) ∧ Q v H') r := by
  cases r with
  | ok d h =>
    cases d with
    | bl b => exact fun ρ' H' v x rl r => ⟨⟨b, r⟩, p ρ' H' v x rl r⟩
    | _ => exact False.elim p
  | exc c fs h => exact p
  | bad => exact p
theorem eqT_ty {c : Str} {o : Option D} (h : eqT g c o = true) : ∃ t, o = some t ∧ g.eqo c t = true := by
  cases o with
  | none => cases h
  | some t => exact ⟨t, rfl, h⟩
/-- all answers are bools -/
theorem cmpG_bl {o : CmpOp} {x y d : D} {h h' : Hs} (e : cmpG g o x y h = .ok d h') : ∃ k, d = .bl k := by
  have base : ∀ {o : CmpOp}, cmpop g o x y h = .ok d h' → ∃ k, d = .bl k := fun {o} e => by
    unfold cmpop at e
    split at e
    · rename_i b _; cases e; exact ⟨b, rfl⟩
    · cases e
  unfold cmpG at e
  split at e
  · rename_i c _
    split at e
    · split at e
      · cases q : g.cf (c, some "__eq__") [x, y] h with
        | ok d0 h0 =>
          rw [q] at e
          cases d0 with
          | bl b => cases e; exact ⟨b, rfl⟩
          | _ => cases e
        | exc _ _ _ => rw [q] at e; cases e
        | bad => rw [q] at e; cases e
      · cases e
    · split at e
      · cases q : g.cm (c, some "__eq__") [x, y] h with
        | ok d0 h0 =>
          rw [q] at e
          cases d0 with
          | bl b => cases e; exact ⟨!b, rfl⟩
          | _ => cases e
        | exc _ _ _ => rw [q] at e; cases e
        | bad => rw [q] at e; cases e
      · cases e
    · exact base e
  · exact base e
theorem op_cmpW {o : CmpOp} (hu : X.A.units + 64 < cLine) (ow : OwOk X W g) (ik : IsOk X.K g) (hx : HxIn X g) (xf : XcF X.K g) : OpW X (compareOp o) (rdOW X.K W (cmpG g o)) := by
  intro pins s σ H x y v u Q I rx ry ⟨ρ, h, a, b, rl, ra, rb, p⟩
  have base : ∀ {o : CmpOp}, Po X.K (relV X.K) (fun c d H' => W c d σ H') ρ H Q (cmpop g o a b h) → wpAny (model X.prog X.w) X.A (compareOp o v u) (EP X pins σ Q) X.xe s := fun {o} p =>
    op_cmp (g := g) hu pins s σ H x y v u Q I rx ry ⟨ρ, h, a, b, rl, ra, rb, p.noexc fun _ _ _ => cmpop_noexc⟩
  unfold cmpG at p
  cases e : insOf h a with
  | none => rw [e] at p; exact base p
  | some c =>
    rw [e] at p
    dsimp only at p
    obtain ⟨q, dx, fs, ex, ea⟩ := insOf_at rl ra e
    split at p
    · subst ex
      cases (show v = Value.ref q from rx)
      obtain ⟨ox, od, J⟩ := inst_at I ea
      obtain ⟨m, fr⟩ := I.fr
      split at p
      · rename_i h1
        obtain ⟨t, h2, h3⟩ := eqT_ty h1
        obtain ⟨P, Z, pp, _⟩ := tyOf_ok ik hx xf rl h2 rb pins s σ u I ry
        obtain ⟨f, k1, k2, k3, k4, k5⟩ := ow.eqo c t h3
        refine PySem.W.cmp_K (op := .Eq) (by omega) fr I.mod.kin J (Z.ty (model X.prog X.w) s.heap I.kIn pp) k2 k3 k4 (wpAny_mono (k5 pins s σ H _ [.ref q, u] [.ref q, y] I (.cons rfl (.cons ry .nil)) ⟨ρ, h, [a, b], rl, ⟨_, _, rfl, ra, _, _, rfl, rb, rfl⟩, boolR_po p⟩) (fun _ _ z => back ?_) fun _ _ z => z)
        obtain ⟨x', H', I', r', _, q'⟩ := z
        exact ⟨x', H', I', r', q'⟩
      · exact False.elim p
    · subst ex
      cases (show v = Value.ref q from rx)
      obtain ⟨ox, od, J⟩ := inst_at I ea
      split at p
      · rename_i h1
        obtain ⟨h0, h1⟩ := Bool.and_eq_true_iff.mp h1
        obtain ⟨t, h2, h3⟩ := eqT_ty h1
        obtain ⟨P, Z, pp, _⟩ := tyOf_ok ik hx xf rl h2 rb pins s σ u I ry
        rcases ow.neo c t h3 (by cases e : g.hot <;> first | rfl | (rw [e] at h0; cases h0)) with ⟨f, k, fd, ps, k1, k2, k3, k4, k5, k6, F, hr, bd⟩ | no
        · have want : spF X.K (g.cm (c, some "__eq__")) [.ref q, y] H (fun v H' => ∃ r, v = .bl r ∧ Q (.bl (!r)) H') (fun _ _ _ => False) := by
            refine ⟨ρ, h, [a, b], rl, ⟨_, _, rfl, ra, _, _, rfl, rb, rfl⟩, ?_⟩
            cases em : g.cm (c, some "__eq__") [a, b] h with
            | ok d0 h0 =>
              rw [em] at p
              cases d0 with
              | bl r => exact fun ρ' H' v x rl' rv => ⟨r, rv, p ρ' H' (.bl (!r)) x rl' rfl⟩
              | _ => exact False.elim p
            | exc _ _ _ => rw [em] at p; exact False.elim p
            | bad => rw [em] at p; exact False.elim p
          have rel : Vals [V.ref q, y] [Value.ref q, u] := .cons rfl (.cons ry .nil)
          have b2 := bd s [Value.ref q, u] I.kIn (by rw [List.append_nil, ← rel.length]; exact F.len _ _ _ _ want)
          rw [List.append_nil] at b2
          refine ne_own (by have := hu; omega) I.kIn J (Z.ty (model X.prog X.w) s.heap I.kIn pp) k2 k3 k4 k5 k6 (wpAny_call (codeAny_mono (F.run X.A.in1 X.stack s H ⟨[.ref q, u], []⟩ [.ref q, u] [.ref q, y] _ _ hr.in1 I.env0.in1 b2 rel want) fun res s' done => ?_))
          match res, done with
          | .error er, done => exact False.elim (passN (X := X.nox) pins σ H s er s' (I.wish _) done)
          | .ok (.ret z), done =>
            obtain ⟨v', H', I', rv, r, ev, q'⟩ := I.after done
            subst ev
            cases (show z = Value.bool r from rv)
            exact ⟨r, rfl, .bl (!r), H', I', rfl, q'⟩
          | .ok .next, done => exact False.elim done
          | .ok .brk, done => exact False.elim done
          | .ok .cont, done => exact False.elim done
        · rw [no] at p; exact False.elim p
      · exact False.elim p
    · exact base p
theorem se_cmp {o : CmpOp} (op : OpW X (compareOp o) (rdOW X.K W (cmpG g o))) (ha : SE X W g A a) (hb : SE X W g B b) (hm : behindInMarks o b = false) : SE X W g (.cmp o A B) (.Compare a [o] [b] pos) := by
  refine ⟨fun pins s σ H Q I hq => ?_⟩
  have q := rd2 (r := rdOW X.K W (cmpG g o) σ) (f := cmpG g o) (rdE.re hq cmp_E) fun ρ h x y vx vy H rl rx ry p => ⟨ρ, h, x, y, rl, rx, ry, p⟩
  exact wpAny_Compare1 (binT ha hb I q fun v u s2 x y H2 I2 rx ry q => op pins s2 σ H2 x y v u Q I2 rx ry q) hm
theorem st_cmp {o : CmpOp} (op : OpW X (compareOp o) (rdOW X.K W (cmpG g o))) (ha : SE X W g A a) (hb : SE X W g B b) (hm : behindInMarks o b = false) : ST X W g (.cmp o A B) (.Compare a [o] [b] pos) := by
  refine ⟨fun pins s σ H Q I hq => ?_⟩
  have q0 : rdE X.K W (evalE g (.cmp o A B)) σ H fun x H1 => ∃ k, x = .bl k ∧ Q k H1 := by
    obtain ⟨ρ, h, δ, rl, sl, p⟩ := hq
    refine ⟨ρ, h, δ, rl, sl, Po.bnd p fun d h1 ρ1 H1 v e x1 rl1 r1 p1 => ?_⟩
    rw [cmp_E] at e
    have bl : ∃ k, d = .bl k := by
      unfold bnd at e
      split at e
      · dsimp only at e
        split at e
        · exact cmpG_bl e
        · cases e
        · cases e
      · cases e
      · cases e
    obtain ⟨k, rfl⟩ := bl
    exact ⟨k, r1, Po.ok (a := k) p1 rl1 rfl⟩
  have q1 := rd2 (r := rdOW X.K W (cmpG g o) σ) (f := cmpG g o) (rdE.re q0 cmp_E) fun ρ h x y vx vy H rl rx ry p => ⟨ρ, h, x, y, rl, rx, ry, p⟩
  refine wpAny_isTrue_Compare1 (thn (ha.run pins s σ H _ I q1) fun v s1 ⟨x, H1, I1, r1, q1⟩ => thn (hb.run pins s1 σ H1 _ I1 q1) fun u s2 ⟨y, H2, I2, r2, q2⟩ => thn (op pins s2 σ H2 x y v u _ I2 r1 r2 q2) fun c s3 ⟨z, H3, I3, r3, k, e, q3⟩ => ?_) hm
  subst e
  cases r3
  exact wpAny_truthy_bool ⟨H3, I3, q3⟩
end
end Ip
end
section
set_option Elab.async false
set_option linter.all false
set_option maxRecDepth 100000
/-! slices, chains, walks, targets, comprehensions -/
namespace Ip
open PySem L2
section
variable {X : Cx} {W : WX} {g : G} {A B C : E} {a b c : Expr} {pos : Pos}
/-! ### slices -/
def rdP (K : PySem.W.Frag) (W : WX) (m : Sl → M (Option Int)) : TO := fun σ H Q => ∃ ρ h δ, Rl K ρ h H ∧ RSl K ρ H δ σ ∧ Po K (fun _ _ a b => a = b) (fun c d H' => W c d σ H') ρ H Q (m δ h)
abbrev SO (X : Cx) (W : WX) (g : G) (A : Option E) (e : Option Expr) : Prop := PO X e (rdP X.K W (evalO g A))
theorem PO.imp {e : Option Expr} {t t' : TO} (p : PO X e t) (k : ∀ σ H Q, t' σ H Q → t σ H Q) : PO X e t' := ⟨fun pins s σ H Q I h => p.run pins s σ H Q I (k σ H Q h)⟩
theorem so_none : SO X W g none none := PO.imp po_none fun σ H Q h => by
  obtain ⟨ρ, h, δ, rl, sl, p⟩ := h
  have p : Po X.K (fun _ _ a b => a = b) (fun c d H' => W c d σ H') ρ H Q (.ok none h) := p
  exact p.ok rl rfl
theorem so_some (ha : SE X W g A a) : SO X W g (some A) (some a) := PO.imp (po_some ha) fun σ H Q h => by
  obtain ⟨ρ, h, δ, rl, sl, p⟩ := h
  have p : Po X.K (fun _ _ a b => a = b) (fun c d H' => W c d σ H') ρ H Q (bnd (evalE g A δ) partOf h) := p
  refine ⟨ρ, h, δ, rl, sl, p.bnd fun d h1 ρ1 H1 v _ x1 rl1 r1 p1 => ?_⟩
  cases d with
  | int i => exact ⟨i, r1, Po.ok (a := some i) p1 rl1 rfl⟩
  | _ => exact False.elim p1
theorem sl_E {lo hi : Option E} (δ : Sl) : evalE g (.sl A lo hi) δ = bnd (evalE g A δ) fun x => bnd (evalO g lo δ) fun l => bnd (evalO g hi δ) fun u => slice x l u := by rw [evalE]
theorem slice_noexc {x : D} {lo hi : Option Int} {h : Hs} {c : Str} {fs : Option (List (Str × D))} {h' : Hs} : slice x lo hi h ≠ .exc c fs h' := by
  intro e
  cases x with
  | tup l => cases e
  | ref i =>
    have e : (match h[i]? with
      | some (.lst l) => alloc (.lst (cutD l lo hi)) h
      | _ => .bad) = .exc c fs h' := e
    split at e <;> cases e
  | str z =>
    have e : (if z.length ≤ sizeLine then ret (.str (cutS z lo hi)) else fail : M D) h = .exc c fs h' := e
    split at e <;> cases e
  | _ => cases e
theorem se_sl {lo hi : Option E} {elo ehi : Option Expr} {p2 : Pos} (ha : SE X W g A a) (hl : SO X W g lo elo) (hh : SO X W g hi ehi) : SE X W g (.sl A lo hi) (.Subscript a (.Slice elo ehi none p2) pos) := by
  refine PE.imp (pe_slice sl_get ha hl hh) fun σ H Q h => ?_
  obtain ⟨ρ, h, δ, rl, sl, p⟩ := rdE.re h sl_E
  refine ⟨ρ, h, δ, rl, sl, p.bnd fun d h1 ρ1 H1 v _ x1 rl1 r1 p1 => ?_⟩
  refine ⟨ρ1, h1, δ, rl1, sl.mono rl x1, p1.bnd fun l h2 ρ2 H2 l' _ x2 rl2 r2 p2 => ?_⟩
  cases r2
  refine ⟨ρ2, h2, δ, rl2, (sl.mono rl x1).mono rl1 x2, p2.bnd fun u h3 ρ3 H3 u' _ x3 rl3 r3 p3 => ?_⟩
  cases r3
  exact ⟨ρ3, h3, d, rl3, r1.mono rl1 (x2.trans x3), p3.noexc fun _ _ _ => slice_noexc⟩
/-! ### a < b < c -/
theorem cmp2_E {o p : CmpOp} (δ : Sl) : evalE g (.cmp2 o p A B C) δ = bnd (evalE g A δ) fun x => bnd (evalE g B δ) fun y h => match cmpB h o x y with
    | some true => bnd (evalE g C δ) (fun z => cmpop g p y z) h
    | some false => .ok (.bl false) h
    | none => .bad := by rw [evalE]; try rfl
theorem chain_rd {o p : CmpOp} {σ : St} {H : Hp} {Q : VK} (h : rdE X.K W (evalE g (.cmp2 o p A B C)) σ H Q) : tChain (rdO X.K (cmpop g o)) (rdO X.K (cmpop g p)) (rdE X.K W (evalE g A)) (rdE X.K W (evalE g B)) (rdE X.K W (evalE g C)) σ H Q := by
  obtain ⟨ρ, h, δ, rl, sl, p⟩ := rdE.re h cmp2_E
  refine ⟨ρ, h, δ, rl, sl, p.bnd fun d h1 ρ1 H1 v _ x1 rl1 r1 p1 => ?_⟩
  refine ⟨ρ1, h1, δ, rl1, sl.mono rl x1, p1.bnd fun d2 h2 ρ2 H2 v2 _ x2 rl2 r2 p2 => ?_⟩
  refine ⟨ρ2, h2, d, d2, rl2, r1.mono rl1 x2, r2, ?_⟩
  unfold cmpop
  cases e : cmpB h2 o d d2 with
  | none => rw [e] at p2; exact False.elim p2
  | some k =>
    rw [e] at p2
    intro ρ3 H3 w x3 rl3 r3
    refine ⟨k, r3, ?_⟩
    cases k with
    | true =>
      rw [if_pos rfl]
      have p2 : Po X.K (relV X.K) (fun c d H' => W c d σ H') ρ2 H2 Q (bnd (evalE g C δ) (fun z => cmpop g _ d2 z) h2) := p2
      refine ⟨ρ3, h2, δ, rl3, ((sl.mono rl x1).mono rl1 x2).mono rl2 x3, (p2.mono x3).bnd fun d3 h4 ρ4 H4 v4 _ x4 rl4 r4 p4 => ?_⟩
      exact ⟨ρ4, h4, d2, d3, rl4, r2.mono rl2 (x3.trans x4), r4, p4.noexc fun _ _ _ => cmpop_noexc⟩
    | false =>
      rw [if_neg Bool.false_ne_true]
      exact p2 ρ3 H3 _ x3 rl3 rfl
theorem se_cmp2 {o p : CmpOp} (hu : X.A.units + 64 < cLine) (ha : SE X W g A a) (hb : SE X W g B b) (hc : SE X W g C c) (hm : lastMarks [o, p] [b, c] = false) : SE X W g (.cmp2 o p A B C) (.Compare a [o, p] [b, c] pos) :=
  PE.imp (pe_chain (op_cmp (g := g) hu) (op_cmp (g := g) hu) ha hb hc hm) fun σ H Q h => chain_rd h
theorem tst_then {m : Sl → M D} {σ : St} {H : Hp} {Q : Bool → Hp → Prop} (h : rdT X.K W (fun δ => tstOf (m δ)) σ H Q) (hb : ∀ δ h d h', m δ h = .ok d h' → ∃ k, d = .bl k) : rdE X.K W m σ H fun x H1 => ∃ k, x = .bl k ∧ Q k H1 := by
  obtain ⟨ρ, h, δ, rl, sl, p⟩ := h
  refine ⟨ρ, h, δ, rl, sl, Po.bnd p fun d h1 ρ1 H1 v e x1 rl1 r1 p1 => ?_⟩
  obtain ⟨k, rfl⟩ := hb δ h d h1 e
  exact ⟨k, r1, Po.ok (a := k) p1 rl1 rfl⟩
theorem cmpop_bl {o : CmpOp} {x y d : D} {h h' : Hs} (e : cmpop g o x y h = .ok d h') : ∃ k, d = .bl k := by
  unfold cmpop at e
  split at e
  · rename_i b _; cases e; exact ⟨b, rfl⟩
  · cases e
theorem bnd_ok {α β : Type} {m : M α} {f : α → M β} {h h' : Hs} {b : β} (e : bnd m f h = .ok b h') : ∃ x h1, m h = .ok x h1 ∧ f x h1 = .ok b h' := by
  unfold bnd at e
  cases q : m h with
  | ok x h1 => rw [q] at e; exact ⟨x, h1, rfl, e⟩
  | exc c fs h1 => rw [q] at e; cases e
  | bad => rw [q] at e; cases e
theorem st_cmp2 {o p : CmpOp} (hu : X.A.units + 64 < cLine) (ha : SE X W g A a) (hb : SE X W g B b) (hc : SE X W g C c) (hm : lastMarks [o, p] [b, c] = false) : ST X W g (.cmp2 o p A B C) (.Compare a [o, p] [b, c] pos) := by
  refine PT.imp (pt_chain (op_cmp (g := g) hu) (op_cmp (g := g) hu) ha hb hc hm) fun σ H Q h => ?_
  refine chain_rd (tst_then h fun δ h d h' e => ?_)
  rw [cmp2_E] at e
  obtain ⟨x, h1, _, e⟩ := bnd_ok e
  obtain ⟨y, h2, _, e⟩ := bnd_ok e
  split at e
  · obtain ⟨z, h3, _, e⟩ := bnd_ok e
    exact cmpop_bl e
  · cases e; exact ⟨_, rfl⟩
  · cases e
/-! ### what is walked -/
def relS (K : PySem.W.Frag) : List Addr → Hp → Src → L2.It → Prop := fun ρ H src J => ∀ ρ' h' H' (i : Nat), Ex ρ ρ' H H' → Rl K ρ' h' H' → match src.at i h' with
  | none => True
  | some none => J.stop i H'
  | some (some d) => J.go i H' ∧ ∀ x H'', J.yld i H' x H'' → Rl K ρ' h' H'' ∧ Ex ρ' ρ' H' H'' ∧ RV K ρ' H'' d x
def rdI (K : PySem.W.Frag) (W : WX) (m : Sl → M Src) : TI := fun σ H Q => ∃ ρ h δ, Rl K ρ h H ∧ RSl K ρ H δ σ ∧ Po K (relS K) (fun c d H' => W c d σ H') ρ H Q (m δ h)
abbrev SI (X : Cx) (W : WX) (g : G) (A : Ip.It) (tg e : Expr) : Prop := PI X tg e (rdI X.K W (evalI g A))
theorem PI.imp {tg e : Expr} {t t' : TI} (p : PI X tg e t) (k : ∀ σ H Q, t' σ H Q → t σ H Q) : PI X tg e t' := ⟨fun pins s σ H Q I h => p.run pins s σ H Q I (k σ H Q h)⟩
theorem PI.or {tg e : Expr} {t t' : TI} (p : PI X tg e t) (q : PI X tg e t') : PI X tg e (fun σ H Q => t σ H Q ∨ t' σ H Q) := ⟨fun pins s σ H Q I h => h.elim (p.run pins s σ H Q I) (q.run pins s σ H Q I)⟩
theorem relS_tup {K : PySem.W.Frag} {ρ : List Addr} {h : Hs} {H : Hp} (rl : Rl K ρ h H) {l : List D} {p : Addr} {vs : List V} (s : TpL K H p vs) (rs : RVs K ρ H l vs) : relS K ρ H (.vals l) (Itt K p) := by
  intro ρ' h' H' i x rl'
  have st := rl.st x
  have s' := st.tp _ _ s
  have rs' := rs.st st
  show match some l[i]? with
    | none => True
    | some none => _
    | some (some d) => _
  cases e : l[i]? with
  | none => exact ⟨vs, s'.sq, by rw [rs.length]; exact List.getElem?_eq_none_iff.mp e⟩
  | some d =>
    obtain ⟨v, ev, rv⟩ := rs'.get e
    refine ⟨⟨vs, v, s'.sq, ev⟩, fun y H'' q => ?_⟩
    obtain ⟨rfl, q⟩ := q
    have := q vs s'.sq
    rw [ev] at this
    cases this
    exact ⟨rl', .refl _ _, rv⟩
theorem relS_rol {K : PySem.W.Frag} {ρ : List Addr} {h : Hs} {H : Hp} (rl : Rl K ρ h H) {l : List D} {p : Addr} {vs : List V} (s : FzL K H p vs) (rs : RVs K ρ H l vs) : relS K ρ H (.vals l) (Itl K p) := by
  intro ρ' h' H' i x rl'
  have st := rl.st x
  have s' := st.fz _ _ s
  have rs' := rs.st st
  show match some l[i]? with
    | none => True
    | some none => _
    | some (some d) => _
  cases e : l[i]? with
  | none => exact ⟨vs, s'.sq, by rw [rs.length]; exact List.getElem?_eq_none_iff.mp e⟩
  | some d =>
    obtain ⟨v, ev, rv⟩ := rs'.get e
    refine ⟨⟨vs, v, s'.sq, ev⟩, fun y H'' q => ?_⟩
    obtain ⟨rfl, q⟩ := q
    have := q vs s'.sq
    rw [ev] at this
    cases this
    exact ⟨rl', .refl _ _, rv⟩
theorem relS_lst {K : PySem.W.Frag} {ρ : List Addr} {H : Hp} {a : Nat} {p : Addr} (e0 : ρ[a]? = some p) : relS K ρ H (.live a) (Itl K p) := by
  intro ρ' h' H' i x rl'
  have e1 := x.pre _ _ e0
  obtain ⟨o, g1, ro⟩ := rl'.of e1
  show match (match h'[a]? with
    | some (.lst l) => some l[i]?
    | _ => none) with
    | none => True
    | some none => _
    | some (some d) => _
  rw [g1]
  cases o with
  | lst l =>
    obtain ⟨vs, q1, rs⟩ := ro
    dsimp only
    cases e : l[i]? with
    | none => exact ⟨vs, SqL.of q1, by rw [rs.length]; exact List.getElem?_eq_none_iff.mp e⟩
    | some d =>
      obtain ⟨v, ev, rv⟩ := rs.get e
      refine ⟨⟨vs, v, SqL.of q1, ev⟩, fun y H'' q => ?_⟩
      obtain ⟨rfl, q⟩ := q
      have := q vs (SqL.of q1)
      rw [ev] at this
      cases this
      exact ⟨rl', .refl _ _, rv⟩
  | _ => exact True.intro
theorem relS_str {K : PySem.W.Frag} {ρ : List Addr} {H : Hp} {z : Str} : relS K ρ H (.vals (z.cps.toList.map fun c => .str ⟨#[c]⟩)) (Its z) := by
  intro ρ' h' H' i x rl'
  show match some (z.cps.toList.map fun c => D.str ⟨#[c]⟩)[i]? with
    | none => True
    | some none => _
    | some (some d) => _
  rw [List.getElem?_map]
  cases e : z.cps.toList[i]? with
  | none =>
    have := List.getElem?_eq_none_iff.mp e
    exact (show z.cps.size ≤ i by simpa using this)
  | some c =>
    have := (List.getElem?_eq_some_iff.mp e).1
    refine ⟨(show i < z.cps.size by simpa using this), fun y H'' q => ?_⟩
    obtain ⟨rfl, c', ec, rfl⟩ := q
    have e2 : z.cps[i]? = some c := by simpa using e
    rw [e2] at ec
    cases ec
    exact ⟨rl', .refl _ _, rfl⟩
theorem relS_rng {K : PySem.W.Frag} {ρ : List Addr} {H : Hp} {lo : Int} {n : Nat} : relS K ρ H (.vals ((List.range n).map fun (k : Nat) => .int (lo + k))) (Itr lo n) := by
  intro ρ' h' H' i x rl'
  show match some ((List.range n).map fun (k : Nat) => D.int (lo + k))[i]? with
    | none => True
    | some none => _
    | some (some d) => _
  rw [List.getElem?_map]
  by_cases hi : i < n
  · rw [List.getElem?_range hi]
    refine ⟨hi, fun y H'' q => ?_⟩
    obtain ⟨rfl, rfl⟩ := q
    exact ⟨rl', .refl _ _, rfl⟩
  · rw [List.getElem?_eq_none_iff.mpr (by simpa using hi)]
    exact Nat.le_of_not_lt hi
theorem itE_E (δ : Sl) : evalI g (.e A) δ = bnd (evalE g A δ) fun x h => match srcOf h x with
    | some s => .ok s h
    | none => .bad := by rw [evalI]; try rfl
theorem si_e {tg : Expr} (ha : SE X W g A a) : SI X W g (.e A) tg a := by
  refine PI.imp (PI.or (pi_tup ha) (PI.or (pi_list ha) (pi_str ha))) fun σ H Q h => ?_
  obtain ⟨ρ, h, δ, rl, sl, p⟩ := h
  rw [itE_E] at p
  -- what comes is told by the machine
  have key : ∀ {R : VK}, (∀ d h1 ρ1 H1 v, evalE g A δ h = .ok d h1 → Ex ρ ρ1 H H1 → Rl X.K ρ1 h1 H1 → RV X.K ρ1 H1 d v → Po X.K (relS X.K) (fun c d H' => W c d σ H') ρ1 H1 Q (match srcOf h1 d with
    | some s => .ok s h1
    | none => .bad) → R v H1) → rdE X.K W (evalE g A) σ H R := fun k => ⟨ρ, h, δ, rl, sl, p.bnd fun d h1 ρ1 H1 v e x1 rl1 r1 p1 => k d h1 ρ1 H1 v e x1 rl1 r1 p1⟩
  cases e : evalE g A δ h with
  | bad =>
    unfold bnd at p
    rw [e] at p
    exact False.elim p
  | exc c fs h1 =>
    refine .inl (key fun d h1 ρ1 H1 v e' => ?_)
    rw [e] at e'; cases e'
  | ok d h1 =>
    have same : ∀ {d' h'}, evalE g A δ h = .ok d' h' → d' = d ∧ h' = h1 := fun e' => by
      rw [e] at e'; cases e'; exact ⟨rfl, rfl⟩
    cases d with
    | tup l =>
      refine .inl (key fun d' h' ρ1 H1 v e' x1 rl1 r1 p1 => ?_)
      obtain ⟨rfl, rfl⟩ := same e'
      obtain ⟨q, vs, rfl, s, rs⟩ := r1
      exact ⟨q, rfl, ⟨vs, s.sq⟩, Po.ok (a := Src.vals l) p1 rl1 (relS_tup rl1 s rs)⟩
    | rol l =>
      refine .inr (.inl (key fun d' h' ρ1 H1 v e' x1 rl1 r1 p1 => ?_))
      obtain ⟨rfl, rfl⟩ := same e'
      obtain ⟨q, vs, rfl, s, rs⟩ := r1
      exact ⟨q, rfl, ⟨vs, s.sq⟩, Po.ok (a := Src.vals l) p1 rl1 (relS_rol rl1 s rs)⟩
    | str z =>
      refine .inr (.inr (key fun d' h' ρ1 H1 v e' x1 rl1 r1 p1 => ?_))
      obtain ⟨rfl, rfl⟩ := same e'
      exact ⟨z, r1, Po.ok (a := Src.vals _) p1 rl1 relS_str⟩
    | ref i =>
      refine .inr (.inl (key fun d' h' ρ1 H1 v e' x1 rl1 r1 p1 => ?_))
      obtain ⟨rfl, rfl⟩ := same e'
      obtain ⟨q, e0, rfl⟩ := r1
      obtain ⟨o, g1, ro⟩ := rl1.of e0
      have p1 : Po X.K (relS X.K) (fun c d H' => W c d σ H') ρ1 H1 Q (match (match h'[i]? with
        | some (.lst _) => some (Src.live i)
        | _ => none) with
        | some s => .ok s h'
        | none => .bad) := p1
      rw [g1] at p1
      cases o with
      | lst l =>
        obtain ⟨vs, q1, rs⟩ := ro
        exact ⟨q, rfl, ⟨vs, SqL.of q1⟩, Po.ok (a := Src.live i) p1 rl1 (relS_lst e0)⟩
      | _ => exact False.elim p1
    | _ => exact .inl (key fun d' h' ρ1 H1 v e' x1 rl1 r1 p1 => by obtain ⟨rfl, rfl⟩ := same e'; exact False.elim p1)
theorem rng_E {As : List E} (δ : Sl) : evalI g (.rng As) δ = bnd (evalEs g As δ) fun ds => ofO (rngOf ds) := by rw [evalI]
theorem si_rng1 {tg e : Expr} {p : Pos} (hg : Gl X "range") (hm : X.mg "range" = none) (hs : SA X W g [A] [e]) (hst : notStar e = true) : SI X W g (.rng [A]) tg (.Call (.Name "range" p) [e] [] pos) := by
  refine PI.imp (pi_range1 hg hm hs (star1 hst _ _)) fun σ H Q h => ?_
  obtain ⟨ρ, h, δ, rl, sl, p⟩ := h
  rw [rng_E] at p
  refine ⟨ρ, h, δ, rl, sl, p.bnd fun ds h1 ρ1 H1 vs e x1 rl1 r1 p1 => ?_⟩
  rw [es_E] at e
  obtain ⟨d, h2, _, e⟩ := bnd_ok e
  obtain ⟨ds', h3, e2, e⟩ := bnd_ok e
  cases e2
  cases e
  obtain ⟨v, rfl, rv⟩ := vs1 r1
  cases d with
  | int j =>
    unfold rngOf at p1
    dsimp only at p1
    by_cases c : (decide (-(2 ^ 62) ≤ j) && decide (j < 2 ^ 62)) = true
    · rw [if_pos c] at p1
      simp only [Bool.and_eq_true, decide_eq_true_eq] at c
      rw [show v = _ from rv]
      have q := relS_rng (K := X.K) (ρ := ρ1) (H := H1) (lo := 0) (n := j.toNat)
      simp only [Int.zero_add] at q
      exact ⟨j, rfl, c.1, c.2, Po.ok (a := Src.vals _) p1 rl1 q⟩
    · rw [if_neg c] at p1; exact False.elim p1
  | _ => exact False.elim p1
theorem si_rng2 {tg e e' : Expr} {p : Pos} (hg : Gl X "range") (hm : X.mg "range" = none) (hs : SA X W g [A, B] [e, e']) (hst : notStar e = true) (hst' : notStar e' = true) : SI X W g (.rng [A, B]) tg (.Call (.Name "range" p) [e, e'] [] pos) := by
  refine PI.imp (pi_range2 hg hm hs (by rw [star1 hst, star1 hst']; rfl) (by rw [star1 hst']; rfl)) fun σ H Q h => ?_
  obtain ⟨ρ, h, δ, rl, sl, p⟩ := h
  rw [rng_E] at p
  refine ⟨ρ, h, δ, rl, sl, p.bnd fun ds h1 ρ1 H1 vs e x1 rl1 r1 p1 => ?_⟩
  rw [es_E] at e
  obtain ⟨d, h2, _, e⟩ := bnd_ok e
  obtain ⟨ds', h3, e2, e⟩ := bnd_ok e
  rw [es_E] at e2
  obtain ⟨d2, h4, _, e2⟩ := bnd_ok e2
  obtain ⟨ds2, h5, e3, e2⟩ := bnd_ok e2
  cases e3
  cases e2
  cases e
  obtain ⟨v, w, rfl, rv, rw'⟩ := vs2 r1
  cases d with
  | int i =>
    cases d2 with
    | int j =>
      unfold rngOf at p1
      dsimp only at p1
      by_cases c : (decide (-(2 ^ 62) ≤ i) && decide (i < 2 ^ 62) && decide (-(2 ^ 62) ≤ j) && decide (j < 2 ^ 62)) = true
      · rw [if_pos c] at p1
        simp only [Bool.and_eq_true, decide_eq_true_eq] at c
        rw [show v = _ from rv, show w = _ from rw']
        exact ⟨i, j, rfl, ⟨c.1.1.1, c.1.1.2, c.1.2, c.2⟩, Po.ok (a := Src.vals _) p1 rl1 relS_rng⟩
      · rw [if_neg c] at p1; exact False.elim p1
    | _ => exact False.elim p1
  | _ => exact False.elim p1
theorem relS_rngC {K : PySem.W.Frag} {ρ : List Addr} {H : Hp} {lo c : Int} {n : Nat} : relS K ρ H (.vals ((List.range n).map fun (k : Nat) => .int (lo + k * c))) (Itc lo c n) := by
  intro ρ' h' H' i x rl'
  show match some ((List.range n).map fun (k : Nat) => D.int (lo + k * c))[i]? with
    | none => True
    | some none => _
    | some (some d) => _
  rw [List.getElem?_map]
  by_cases hi : i < n
  · rw [List.getElem?_range hi]
    refine ⟨hi, fun y H'' q => ?_⟩
    obtain ⟨rfl, rfl⟩ := q
    exact ⟨rl', .refl _ _, rfl⟩
  · rw [List.getElem?_eq_none_iff.mpr (by simpa using hi)]
    exact Nat.le_of_not_lt hi
theorem si_rng3 {tg e e' e2 : Expr} {p : Pos} (hg : Gl X "range") (hm : X.mg "range" = none) (hs : SA X W g [A, B, C] [e, e', e2]) (hst : notStar e = true) (hst' : notStar e' = true) (hst2 : notStar e2 = true) : SI X W g (.rng [A, B, C]) tg (.Call (.Name "range" p) [e, e', e2] [] pos) := by
  refine PI.imp (pi_range3 hg hm hs (by rw [star1 hst]) (by rw [star1 hst', star1 hst2]; rfl)) fun σ H Q h => ?_
  obtain ⟨ρ, h, δ, rl, sl, p⟩ := h
  rw [rng_E] at p
  refine ⟨ρ, h, δ, rl, sl, p.bnd fun ds h1 ρ1 H1 vs e x1 rl1 r1 p1 => ?_⟩
  rw [es_E] at e
  obtain ⟨d, h2, _, e⟩ := bnd_ok e
  obtain ⟨ds', h3, e2, e⟩ := bnd_ok e
  rw [es_E] at e2
  obtain ⟨d2, h4, _, e2⟩ := bnd_ok e2
  obtain ⟨ds2, h5, e3, e2⟩ := bnd_ok e2
  rw [es_E] at e3
  obtain ⟨d3, h6, _, e3⟩ := bnd_ok e3
  obtain ⟨ds3, h7, e4, e3⟩ := bnd_ok e3
  cases e4
  cases e3
  cases e2
  cases e
  obtain ⟨v, r, rfl, rv, v2, r2, rfl, rv2, v3, r3, rfl, rv3, rfl⟩ := r1
  cases d with
  | int i =>
    cases d2 with
    | int j =>
      cases d3 with
      | int c =>
        unfold rngOf at p1
        dsimp only at p1
        by_cases q : (!decide (c = 0) && decide (c.natAbs < 1073741824) && Builtin.Range.small i j c && decide (0 ≤ Builtin.Range.rangeSize i j c)) = true
        · rw [if_pos q] at p1
          simp only [Bool.and_eq_true, decide_eq_true_eq, Bool.not_eq_true', decide_eq_false_iff_not] at q
          rw [show v = _ from rv, show v2 = _ from rv2, show v3 = _ from rv3]
          exact ⟨i, j, c, (Builtin.Range.rangeSize i j c).toNat, rfl, ⟨q.1.1.1, q.1.1.2, q.1.2, by have := q.2; omega⟩, Po.ok (a := Src.vals _) p1 rl1 relS_rngC⟩
        · rw [if_neg q] at p1; exact False.elim p1
      | _ => exact False.elim p1
    | _ => exact False.elim p1
  | _ => exact False.elim p1
end
end Ip
end
section
set_option Elab.async false
set_option linter.all false
set_option maxRecDepth 100000
/-! patterns, comprehensions -/
namespace Ip
open PySem L2
/-! ### patterns -/
mutual
def gP (K : PySem.W.Frag) : Pt → TG
  | .name i => gName i
  | .tup ts => gTup K ts.length (gPs K ts)
def gPs (K : PySem.W.Frag) : List Pt → TGs
  | [] => gNil
  | t :: ts => gCons (gP K t) (gPs K ts)
end
mutual
def slotsP : Pt → List Nat
  | .name i => [i]
  | .tup ts => slotsPs ts
def slotsPs : List Pt → List Nat
  | [] => []
  | t :: ts => slotsP t ++ slotsPs ts
end
/-- outside these slots nothing is changed -/
def OutOf (l : List Nat) (σ σ1 : St) : Prop := σ1.length = σ.length ∧ ∀ i, i ∉ l → σ1[i]? = σ[i]?
section
variable {K : PySem.W.Frag} {ρ : List Addr} {H : Hp}
mutual
theorem asgP_ok {hot : Bool} : ∀ (t : Pt) {d : D} {v : V} {δ δ1 : Sl} {σ : St}, asgP hot t d δ = some δ1 → RV K ρ H d v → RSl K ρ H δ σ →
    ∃ σ1, (∀ Q : St → Hp → Prop, Q σ1 H → gP K t v σ H Q) ∧ RSl K ρ H δ1 σ1 ∧ OutOf (slotsP t) σ σ1
  | .name i, d, v, δ, δ1, σ, e, r, s => by
    have e : some (δ.set i (some d)) = some δ1 := by rw [← e]; unfold asgP; rfl
    cases e
    refine ⟨σ.set i (some v), fun Q q => by unfold gP; exact q, s.set r, by simp, fun j hj => ?_⟩
    unfold slotsP at hj
    rw [List.getElem?_set_ne]
    intro z
    exact hj (by simp [z])
  | .tup ts, d, v, δ, δ1, σ, e, r, s => by
    unfold asgP at e
    split at e
    · rename_i l
      split at e
      · rename_i c
        obtain ⟨p, vs, rfl, sq, rs⟩ := r
        obtain ⟨σ1, h1, h2, h3⟩ := asgPs_ok ts e rs s
        refine ⟨σ1, fun Q q => ?_, h2, by unfold slotsP; exact h3⟩
        unfold gP
        exact ⟨p, vs, rfl, sq.sq, by rw [rs.length]; exact c, h1 Q q⟩
      · cases e
    · cases e
theorem asgPs_ok {hot : Bool} : ∀ (ts : List Pt) {l : List D} {vs : List V} {δ δ1 : Sl} {σ : St}, asgPs hot ts l δ = some δ1 → RVs K ρ H l vs → RSl K ρ H δ σ →
    ∃ σ1, (∀ Q : St → Hp → Prop, Q σ1 H → gPs K ts vs σ H Q) ∧ RSl K ρ H δ1 σ1 ∧ OutOf (slotsPs ts) σ σ1
  | [], [], vs, δ, δ1, σ, e, r, s => by
    have e : some δ = some δ1 := by rw [← e]; unfold asgPs; rfl
    cases e
    exact ⟨σ, fun Q q => by unfold gPs; exact ⟨r, q⟩, s, rfl, fun _ _ => rfl⟩
  | [], _ :: _, vs, δ, δ1, σ, e, r, s => by unfold asgPs at e; cases e
  | _ :: _, [], vs, δ, δ1, σ, e, r, s => by unfold asgPs at e; cases e
  | t :: ts, d :: l, vs, δ, δ1, σ, e, ⟨v, w, ev, ra, rb⟩, s => by
    unfold asgPs at e
    split at e
    · rename_i δ' e1
      obtain ⟨σ1, h1, h2, h3, h4⟩ := asgP_ok t e1 ra s
      obtain ⟨σ2, k1, k2, k3, k4⟩ := asgPs_ok ts e rb h2
      refine ⟨σ2, fun Q q => ?_, k2, k3.trans h3, fun i hi => ?_⟩
      · unfold gPs
        exact ⟨v, w, ev, h1 _ (k1 Q q)⟩
      · unfold slotsPs at hi
        rw [List.mem_append] at hi
        rw [k4 i fun z => hi (.inr z), h4 i fun z => hi (.inl z)]
    · cases e
end
end
theorem wipe_get {σ : St} : ∀ (vs : List Nat) (i : Nat), i ∉ vs → (L2.wipe σ vs)[i]? = σ[i]?
  | [], _, _ => rfl
  | v :: vs, i, h => by
    unfold L2.wipe
    rw [List.getElem?_set_ne (fun z => h (by simp [z])), wipe_get vs i fun z => h (by simp [z])]
theorem wipe_in {σ : St} : ∀ (vs : List Nat) (i : Nat), i ∈ vs → i < σ.length → (L2.wipe σ vs)[i]? = some none
  | v :: vs, i, h, hl => by
    unfold L2.wipe
    by_cases e : v = i
    · subst e
      rw [List.getElem?_set_self (by rw [wipe_length]; exact hl)]
    · rw [List.getElem?_set_ne e]
      rcases List.mem_cons.mp h with z | z
      · exact absurd z.symm e
      · exact wipe_in vs i z hl
theorem wipe_out {σ σ1 : St} {l vs : List Nat} (o : OutOf l (L2.wipe σ vs) σ1) (hs : ∀ i ∈ l, i ∈ vs) : L2.wipe σ1 vs = L2.wipe σ vs := by
  apply List.ext_getElem?
  intro i
  have hl : σ1.length = σ.length := by rw [o.1, wipe_length]
  by_cases hi : i ∈ vs
  · by_cases hlt : i < σ.length
    · rw [wipe_in vs i hi hlt, wipe_in vs i hi (by rw [hl]; exact hlt)]
    · rw [List.getElem?_eq_none (by rw [wipe_length, hl]; omega), List.getElem?_eq_none (by rw [wipe_length]; omega)]
  · rw [wipe_get vs i hi, o.2 i fun z => hi (hs i z)]
/-! ### comprehensions -/
section
variable {K : PySem.W.Frag} {ρ ρ' : List Addr} {h : Hs} {H : Hp}
theorem Rl.adopt (r : Rl K ρ h H) {o : O} {p : Addr} (hp : p ∉ ρ) (ho : St' K ρ (ρ ++ [p]) H H → RO K (ρ ++ [p]) H o p) : Rl K (ρ ++ [p]) (h ++ [o]) H := by
  have st : St' K ρ (ρ ++ [p]) H H := ⟨fun i q e => by rw [List.getElem?_append_left (List.getElem?_eq_some_iff.mp e).1]; exact e, fun _ _ e => e, fun _ _ e => e, fun _ _ e => e⟩
  refine ⟨?_, by simp [r.len], fun i o' q e1 e2 => ?_⟩
  · rw [List.nodup_append]
    refine ⟨r.nd, by simp, fun a ha b hb => ?_⟩
    rw [List.mem_singleton.mp hb]
    rintro rfl
    exact hp ha
  · by_cases hi : i < h.length
    · rw [List.getElem?_append_left hi] at e1
      rw [List.getElem?_append_left (by rw [r.len]; exact hi)] at e2
      exact (r.ob i o' q e1 e2).st st rfl
    · have hi2 : i < h.length + 1 := by
        have := (List.getElem?_eq_some_iff.mp e1).1
        simpa using this
      have hi3 : i = h.length := by omega
      subst hi3
      rw [List.getElem?_append_right (Nat.le_refl _)] at e1
      rw [List.getElem?_append_right (by rw [r.len]; exact Nat.le_refl _)] at e2
      simp [r.len] at e1 e2
      subst e1 e2
      exact ho st
/-- an object that the machine does not hold is changed -/
theorem Rl.upd_out (r : Rl K ρ h H) {p : Addr} {u u' : HO} (hp : p ∉ ρ) (hu : H p = some u) (ht : ∀ vs, u ≠ .tup vs) (hf : ∀ o w, u ≠ .frz o w) (hx : ∀ fs, u ≠ .xd fs) : Rl K ρ h (upd H p u') ∧ St' K ρ ρ H (upd H p u') := by
  have st : St' K ρ ρ H (upd H p u') := by
    refine ⟨fun _ _ e => e, fun q vs e => ?_, fun q vs e => ?_, fun q fs e => by rw [upd_ne]; exact e; rintro rfl; rw [hu] at e; exact hx fs (Option.some.inj e)⟩
    · rcases e with e | e
      · exact .inl (by rw [upd_ne]; exact e; rintro rfl; rw [hu] at e; exact ht vs (Option.some.inj e))
      · exact .inr e
    · rcases e with ⟨o, e⟩ | e
      · exact .inl ⟨o, by rw [upd_ne]; exact e; rintro rfl; rw [hu] at e; exact hf _ _ (Option.some.inj e)⟩
      · exact .inr e
  refine ⟨⟨r.nd, r.len, fun i o q e1 e2 => (r.ob i o q e1 e2).st st (upd_ne ?_)⟩, st⟩
  rintro rfl
  exact hp (List.mem_of_getElem? e2)
end
abbrev W0 : WX := fun _ _ _ _ => False
/-- the tests of a comprehension -/
def rdTs (K : PySem.W.Frag) (g : G) (ifs : List E) : TT := rdT K W0 fun δ => evalC g ifs δ
section
variable {X : Cx} {W : WX} {g : G} {A B C : E} {a b c : Expr} {pos : Pos}
theorem sts_nil : PTs X [] (rdTs X.K g []) := ⟨fun pins s σ H Q I h => pts_nil.run pins s σ H Q I (rdT.pure (W := W0) (b := true) h)⟩
theorem sts_one (ha : ST X W0 g A a) : PTs X [a] (rdTs X.K g [A]) := by
  refine ⟨fun pins s σ H Q I h => (pts_one ha).run pins s σ H Q I ?_⟩
  refine rdT.re h fun δ => ?_
  show evalC g [A] δ = tstOf (evalE g A δ)
  have e : evalC g [A] δ = bnd (tstOf (evalE g A δ)) fun b => match b with
    | true => evalC g [] δ
    | false => ret false := by rw [evalC]; rfl
  rw [e]
  funext h
  unfold bnd
  cases tstOf (evalE g A δ) h with
  | ok b h' => cases b <;> rfl
  | exc c fs h' => rfl
  | bad => rfl
theorem lc_E {t : Pt} {own : List Nat} {it : Ip.It} {ifs : List E} (δ : Sl) : evalE g (.lc A t own it ifs) δ = if g.hot then fail else bnd (evalI g it δ) fun src => bnd (compN src (asgP false t) (fun δ1 => evalC g ifs δ1) (fun δ1 => evalE g A δ1) (wipeD δ own) g.fuel 0 []) fun l => alloc (.lst l) := by rw [evalE]
theorem lc_rd {t : Pt} {own : List Nat} {it : Ip.It} {ifs : List E} {σ : St} {H : Hp} {Q : VK} (hs : ∀ i ∈ slotsP t, i ∈ own) (hot : g.hot = false) (h : rdE X.K W (evalE g (.lc A t own it ifs)) σ H Q) :
    tLc (rdI X.K W (evalI g it)) (gP X.K t) (rdTs X.K g ifs) (rdE X.K W0 (evalE g A)) own σ H Q := by
  obtain ⟨ρ, h, δ, rl, sl, p⟩ := rdE.re h lc_E
  rw [hot] at p
  have p : Po X.K (relV X.K) (fun c d H' => W c d σ H') ρ H Q (bnd (evalI g it δ) (fun src => bnd (compN src (asgP false t) (fun δ1 => evalC g ifs δ1) (fun δ1 => evalE g A δ1) (wipeD δ own) g.fuel 0 []) fun l => alloc (.lst l)) h) := p
  refine ⟨ρ, h, δ, rl, sl, p.bnd fun src h1 ρ1 H1 J _ x1 rl1 rS p1 => ?_⟩
  have sl1 := sl.mono rl x1
  intro Dd hD
  refine ⟨fun i m H2 => ∃ ρ2 h2 acc vs, Ex ρ1 ρ2 H1 H2 ∧ Rl X.K ρ2 h2 H2 ∧ Dd ∉ ρ2 ∧ H2 Dd = some (.lst vs) ∧ RVs X.K ρ2 H2 acc vs ∧
      Po X.K (relV X.K) (fun c d H' => W c d σ H') ρ1 H1 Q (bnd (compN src (asgP false t) (fun δ1 => evalC g ifs δ1) (fun δ1 => evalE g A δ1) (wipeD δ own) m i acc) (fun l => alloc (.lst l)) h2), ?_, ?_⟩
  · obtain ⟨rl2, x2⟩ := rl1.newT (u := .lst []) hD
    have hn : Dd ∉ ρ1 := fun m => by
      obtain ⟨o, ro⟩ := rl1.mem m
      obtain ⟨u, e⟩ := ro.some
      rw [hD] at e; cases e
    exact ⟨g.fuel, ρ1, h1, [], [], x2, rl2, hn, upd_same, rfl, p1⟩
  · rintro i m H2 ⟨ρ2, h2, acc, vs, x2, rl2, hn, hd, ra, p2⟩
    cases m with
    | zero => exact False.elim p2
    | succ m =>
      have rs := rS ρ2 h2 H2 i x2 rl2
      unfold bnd compN at p2
      cases e : src.at i h2 with
      | none => rw [e] at p2; exact False.elim p2
      | some o =>
        rw [e] at rs p2
        cases o with
        | none =>
          refine .inl ⟨rs, ?_⟩
          have rl3 : Rl X.K (ρ2 ++ [Dd]) (h2 ++ [.lst acc]) H2 := rl2.adopt hn fun st => ⟨vs, hd, ra.st st⟩
          have x3 : Ex ρ1 (ρ2 ++ [Dd]) H1 H2 := by
            refine ⟨fun j q e => ?_, x2.kp, fun q m => ?_⟩
            · have := x2.pre j q e
              rw [List.getElem?_append_left (List.getElem?_eq_some_iff.mp this).1]; exact this
            · rcases List.mem_append.mp m with m | m
              · exact x2.nw q m
              · rw [List.mem_singleton.mp m]; exact .inr hD
          exact p2 _ _ _ x3 rl3 ⟨Dd, by rw [← rl2.len, List.getElem?_append_right (Nat.le_refl _)]; simp, rfl⟩
        | some d =>
          obtain ⟨go, yl⟩ := rs
          refine .inr ⟨go, fun H3 => ∃ ρ2 h2 acc vs, Ex ρ1 ρ2 H1 H3 ∧ Rl X.K ρ2 h2 H3 ∧ Dd ∉ ρ2 ∧ H3 Dd = some (.lst vs) ∧ RVs X.K ρ2 H3 acc vs ∧
            Po X.K (relV X.K) (fun c d H' => W c d σ H') ρ1 H1 Q (bnd (compN src (asgP false t) (fun δ1 => evalC g ifs δ1) (fun δ1 => evalE g A δ1) (wipeD δ own) m (i + 1) acc) (fun l => alloc (.lst l)) h2), fun H3 w => ⟨m, Nat.lt_succ_self _, w⟩, fun x H3 y => ?_⟩
          obtain ⟨rl3, x3, rx⟩ := yl x H3 y
          have hd3 : H3 Dd = some (.lst vs) := x3.kp _ _ hd hn
          have ra3 := ra.mono rl2 x3
          dsimp only at p2
          cases ea : asgP false t d (wipeD δ own) with
          | none => rw [ea] at p2; exact False.elim p2
          | some δ1 =>
            rw [ea] at p2
            dsimp only at p2
            have slw := (((sl1.mono rl1 x2).mono rl2 x3).wipe own)
            obtain ⟨σ1, k1, k2, k3⟩ := asgP_ok t ea rx slw
            refine k1 _ ⟨wipe_out k3 hs, ρ2, h2, δ1, rl3, k2, ?_⟩
            cases et : evalC g ifs δ1 h2 with
            | bad => rw [et] at p2; exact False.elim p2
            | exc c fs h3 => rw [et] at p2; exact False.elim p2
            | ok bt h3 =>
              rw [et] at p2
              show Po _ _ _ _ _ _ (evalC g ifs δ1 h2)
              rw [et]
              intro ρ4 H4 b4 x4 rl4 e4
              cases e4
              have keepD : ∀ {ρa ρb : List Addr} {Ha Hb : Hp}, Ex ρa ρb Ha Hb → Dd ∉ ρa → Ha Dd = some (.lst vs) → Dd ∉ ρb ∧ Hb Dd = some (.lst vs) := fun x n e => by
                refine ⟨fun m => ?_, x.kp _ _ e n⟩
                rcases x.nw _ m with m | m
                · exact n m
                · rw [e] at m; cases m
              obtain ⟨hn4, hd4⟩ := keepD x4 hn hd3
              have ra4 := ra3.mono rl3 x4
              cases bt with
              | false =>
                rw [if_neg Bool.false_ne_true]
                exact ⟨ρ4, h3, acc, vs, x2.trans (x3.trans x4), rl4, hn4, hd4, ra4, p2⟩
              | true =>
                rw [if_pos rfl]
                dsimp only at p2
                refine ⟨ρ4, h3, δ1, rl4, k2.mono rl3 x4, ?_⟩
                cases ee : evalE g A δ1 h3 with
                | bad => rw [ee] at p2; exact False.elim p2
                | exc c fs h4 => rw [ee] at p2; exact False.elim p2
                | ok yv h4 =>
                  rw [ee] at p2
                  dsimp only at p2
                  intro ρ5 H5 v5 x5 rl5 r5
                  obtain ⟨hn5, hd5⟩ := keepD x5 hn4 hd4
                  have ra5 := ra4.mono rl4 x5
                  by_cases hl : acc.length < sizeLine
                  · rw [if_pos hl] at p2
                    refine ⟨vs, hd5, by rw [ra5.length]; exact hl, ?_⟩
                    obtain ⟨rl6, st6⟩ := rl5.upd_out (u' := .lst (vs ++ [v5])) hn5 hd5 (fun _ z => by cases z) (fun _ _ z => by cases z) (fun _ z => by cases z)
                    refine ⟨ρ5, h4, acc ++ [yv], vs ++ [v5], ?_, rl6, hn5, upd_same, (ra5.append (RVs.one r5)).st st6, p2⟩
                    have xx := x2.trans (x3.trans (x4.trans x5))
                    refine ⟨xx.pre, fun q o e n => ?_, xx.nw⟩
                    rw [upd_ne (show q ≠ Dd from fun z => by rw [z, hD] at e; cases e)]
                    exact xx.kp q o e n
                  · rw [if_neg hl] at p2; exact False.elim p2
/-- the context of a comprehension's block -/
theorem se_lc {t : Pt} {own : List Nat} {it : Ip.It} {ifs : List E} {elt tg iter : Expr} {eifs : List Expr} {scope : Scope} {ow : List (Str × Nat)} (how : ow.map (·.2) = own) (hs : ∀ i ∈ slotsP t, i ∈ own) (hot : g.hot = false) (hc : X.calm = true) (hN : X.N.Nodup) (hi : SI X W g it tg iter)
    (ok : BlkOk X.N X.env.scope scope ow) (hg : ∀ (s : Shared) (H : Hp) (C : Addr) (cl : List (Str × Addr)) (fp : List Addr), PG (X.blk s H scope (compEnvC scope cl C X.env) fp) tg (gP X.K t))
    (ht : ∀ (s : Shared) (H : Hp) (C : Addr) (cl : List (Str × Addr)) (fp : List Addr), PTs (X.blk s H scope (compEnvC scope cl C X.env) fp) eifs (rdTs X.K g ifs))
    (he : ∀ (s : Shared) (H : Hp) (C : Addr) (cl : List (Str × Addr)) (fp : List Addr), SE (X.blk s H scope (compEnvC scope cl C X.env) fp) W0 g A elt) (hfs : ∀ x, foldedSetIterable iter X.env x = pure x) :
    SE X W g (.lc A t own it ifs) (.ListComp elt [⟨tg, iter, eifs, 0⟩] scope pos) := by
  subst how
  exact PE.imp (pe_lc hc hN hi ok hg ht he hfs) fun σ H Q h => lc_rd hs hot h
end
end Ip
end
section
set_option Elab.async false
set_option linter.all false
set_option maxRecDepth 100000
/-! statements -/
namespace Ip
open PySem L2
def PoS (K : PySem.W.Frag) (W : WX) (ρ : List Addr) (H : Hp) (Dd : Ends) : RS → Prop
  | .next δ h => ∀ ρ' H' σ', Ex ρ ρ' H H' → Rl K ρ' h H' → RSl K ρ' H' δ σ' → Dd.nx σ' H'
  | .ret d h => ∀ ρ' H' v, Ex ρ ρ' H H' → Rl K ρ' h H' → RV K ρ' H' d v → Dd.rt v H'
  | .brk δ h => ∀ ρ' H' σ', Ex ρ ρ' H H' → Rl K ρ' h H' → RSl K ρ' H' δ σ' → Dd.bk σ' H'
  | .cont δ h => ∀ ρ' H' σ', Ex ρ ρ' H H' → Rl K ρ' h H' → RSl K ρ' H' δ σ' → Dd.ct σ' H'
  | .exc c fs δ h => ∀ ρ' H' d σ', Ex ρ ρ' H H' → Rl K ρ' h H' → RSl K ρ' H' δ σ' → XR K ρ' H' fs d → W (.ref (He.ga K c)) d σ' H'
  | .bad => False
section
variable {K : PySem.W.Frag} {W : WX} {ρ ρ' : List Addr} {H H' : Hp} {Dd Dd' : Ends} {r : RS}
theorem PoS.mono (p : PoS K W ρ H Dd r) (x : Ex ρ ρ' H H') : PoS K W ρ' H' Dd r := by
  cases r with
  | next δ h => exact fun ρ2 H2 σ2 e a b => p ρ2 H2 σ2 (x.trans e) a b
  | ret d h => exact fun ρ2 H2 σ2 e a b => p ρ2 H2 σ2 (x.trans e) a b
  | brk δ h => exact fun ρ2 H2 σ2 e a b => p ρ2 H2 σ2 (x.trans e) a b
  | cont δ h => exact fun ρ2 H2 σ2 e a b => p ρ2 H2 σ2 (x.trans e) a b
  | exc c fs δ h => exact fun ρ2 H2 d σ2 e a b => p ρ2 H2 d σ2 (x.trans e) a b
  | bad => exact p
theorem PoS.imp (p : PoS K W ρ H Dd r) (n : ∀ σ H, Dd.nx σ H → Dd'.nx σ H) (t : ∀ v H, Dd.rt v H → Dd'.rt v H) (b : ∀ σ H, Dd.bk σ H → Dd'.bk σ H) (c : ∀ σ H, Dd.ct σ H → Dd'.ct σ H) : PoS K W ρ H Dd' r := by
  cases r with
  | next δ h => exact fun ρ2 H2 σ2 e a r => n _ _ (p ρ2 H2 σ2 e a r)
  | ret d h => exact fun ρ2 H2 σ2 e a r => t _ _ (p ρ2 H2 σ2 e a r)
  | brk δ h => exact fun ρ2 H2 σ2 e a r => b _ _ (p ρ2 H2 σ2 e a r)
  | cont δ h => exact fun ρ2 H2 σ2 e a r => c _ _ (p ρ2 H2 σ2 e a r)
  | exc c fs δ h => exact p
  | bad => exact p
end
def rdS (K : PySem.W.Frag) (W : WX) (m : Sl → Hs → RS) : TS := fun Dd σ H => ∃ ρ h δ, Rl K ρ h H ∧ RSl K ρ H δ σ ∧ PoS K W ρ H Dd (m δ h)
abbrev SS (X : Cx) (W : WX) (g : G) (A : S) (st : Stmt) : Prop := PS X st (rdS X.K W (execS g A))
abbrev SB (X : Cx) (W : WX) (g : G) (As : List S) (sts : List Stmt) : Prop := PSs X sts (rdS X.K W (execSs g As))
theorem PS.imp {X : Cx} {st : Stmt} {t t' : TS} (p : PS X st t) (k : ∀ D σ H, t' D σ H → t D σ H) : PS X st t' := ⟨fun pins s σ H D I h => p.run pins s σ H D I (k D σ H h)⟩
theorem PSs.imp {X : Cx} {st : List Stmt} {t t' : TS} (p : PSs X st t) (k : ∀ D σ H, t' D σ H → t D σ H) : PSs X st t' := ⟨fun pins s σ H D I h => p.run pins s σ H D I (k D σ H h)⟩
section
variable {X : Cx} {W : WX} {g : G} {A B C : E} {a b c : Expr} {pos : Pos}
theorem rdS.re {K : PySem.W.Frag} {m m' : Sl → Hs → RS} {σ : St} {H : Hp} {Dd : Ends} (h : rdS K W m Dd σ H) (e : ∀ δ h, m δ h = m' δ h) : rdS K W m' Dd σ H := by
  rw [show m' = m from funext fun δ => funext fun h => (e δ h).symm]; exact h
/-- a statement that begins with an expression -/
theorem rdS.expr {K : PySem.W.Frag} {α β : Type} {rel : List Addr → Hp → α → β → Prop} {m : M α} {k : α → Hs → RS} {ρ : List Addr} {h : Hs} {H : Hp} {σ : St} {δ : Sl} {Dd : Ends} {Rq : β → Hp → Prop} (sl : RSl K ρ H δ σ) (rl : Rl K ρ h H)
    (p : PoS K W ρ H Dd (thenS δ (m h) k)) (kk : ∀ d h1 ρ1 H1 v, m h = .ok d h1 → Ex ρ ρ1 H H1 → Rl K ρ1 h1 H1 → rel ρ1 H1 d v → PoS K W ρ1 H1 Dd (k d h1) → Rq v H1) : Po K rel (fun c d H' => W c d σ H') ρ H Rq (m h) := by
  unfold thenS at p
  cases e : m h with
  | ok d h1 =>
    rw [e] at p
    exact fun ρ1 H1 v x rl1 r => kk d h1 ρ1 H1 v e x rl1 r (p.mono x)
  | exc c fs h1 =>
    rw [e] at p
    exact fun ρ1 H1 d x rl1 r => p ρ1 H1 d σ x rl1 (sl.mono rl x) r
  | bad => rw [e] at p; exact p
def notComp : Expr → Bool
  | .ListComp _ _ _ _ => false
  | .SetComp _ _ _ _ => false
  | .DictComp _ _ _ _ _ => false
  | _ => true
theorem swaps_no {e : Expr} (h : notComp e = true) (t : Option Expr) (l : Nat) (env : Env) : swapsWith e t l env = pure false := by
  unfold swapsWith
  cases e <;> first | rfl | cases h
theorem ss_expr (ha : SE X W g A a) (hn : notComp a = true) : SS X W g (.expr A) (.Expr a pos) := by
  refine PS.imp (ps_expr ha (swaps_no hn _ _ _)) fun Dd σ H h => ?_
  obtain ⟨ρ, h, δ, rl, sl, p⟩ := rdS.re h fun δ h => show execS g (.expr A) δ h = thenS δ (evalE g A δ h) (fun _ h' => .next δ h') by rw [execS]
  exact ⟨ρ, h, δ, rl, sl, rdS.expr sl rl p fun d h1 ρ1 H1 v _ x1 rl1 r1 p1 => p1 ρ1 H1 σ (.refl _ _) rl1 (sl.mono rl x1)⟩
theorem ss_ret (ha : SE X W g A a) : SS X W g (.ret A) (.Return (some a) pos) := by
  refine PS.imp (ps_ret ha) fun Dd σ H h => ?_
  obtain ⟨ρ, h, δ, rl, sl, p⟩ := rdS.re h fun δ h => show execS g (.ret A) δ h = thenS δ (evalE g A δ h) (fun d h' => .ret d h') by rw [execS]
  exact ⟨ρ, h, δ, rl, sl, rdS.expr sl rl p fun d h1 ρ1 H1 v _ x1 rl1 r1 p1 => p1 ρ1 H1 v (.refl _ _) rl1 r1⟩
theorem ss_retN : SS X W g .retN (.Return none pos) := PS.imp ps_retN fun Dd σ H h => by
  obtain ⟨ρ, h, δ, rl, sl, p⟩ := h
  have p : PoS X.K W ρ H Dd (.ret .non h) := p
  exact p ρ H .non (.refl _ _) rl rfl
theorem ss_pass : SS X W g .pass (.Pass pos) := PS.imp ps_pass fun Dd σ H h => by
  obtain ⟨ρ, h, δ, rl, sl, p⟩ := h
  have p : PoS X.K W ρ H Dd (.next δ h) := p
  exact p ρ H σ (.refl _ _) rl sl
theorem ss_brk : SS X W g .brk (.Break pos) := PS.imp ps_break fun Dd σ H h => by
  obtain ⟨ρ, h, δ, rl, sl, p⟩ := h
  have p : PoS X.K W ρ H Dd (.brk δ h) := p
  exact p ρ H σ (.refl _ _) rl sl
theorem ss_cont : SS X W g .cont (.Continue pos) := PS.imp ps_continue fun Dd σ H h => by
  obtain ⟨ρ, h, δ, rl, sl, p⟩ := h
  have p : PoS X.K W ρ H Dd (.cont δ h) := p
  exact p ρ H σ (.refl _ _) rl sl
/-! ### blocks -/
theorem sb_nil : SB X W g [] [] := PSs.imp pss_nil fun Dd σ H h => by
  obtain ⟨ρ, h, δ, rl, sl, p⟩ := h
  have p : PoS X.K W ρ H Dd (.next δ h) := p
  exact p ρ H σ (.refl _ _) rl sl
theorem sb_cons {A : S} {As : List S} {st : Stmt} {sts : List Stmt} (h1 : SS X W g A st) (h2 : SB X W g As sts) : SB X W g (A :: As) (st :: sts) := by
  refine PSs.imp (pss_cons h1 h2) fun Dd σ H h => ?_
  obtain ⟨ρ, h, δ, rl, sl, p⟩ := rdS.re h fun δ h => show execSs g (A :: As) δ h = (match execS g A δ h with
    | .next δ1 h1 => execSs g As δ1 h1
    | .ret d h1 => .ret d h1
    | .brk δ1 h1 => .brk δ1 h1
    | .cont δ1 h1 => .cont δ1 h1
    | .exc c fs δ1 h1 => .exc c fs δ1 h1
    | .bad => .bad) by rw [execSs]; try rfl
  dsimp only at p
  refine ⟨ρ, h, δ, rl, sl, ?_⟩
  cases e : execS g A δ h with
  | next δ1 h1 =>
    rw [e] at p
    exact fun ρ1 H1 σ1 x rl1 s1 => ⟨ρ1, h1, δ1, rl1, s1, p.mono x⟩
  | ret d h1 => rw [e] at p; exact p
  | brk δ1 h1 => rw [e] at p; exact p
  | cont δ1 h1 => rw [e] at p; exact p
  | exc c fs δ1 h1 => rw [e] at p; exact p
  | bad => rw [e] at p; exact p
theorem ss_if {As Bs : List S} {sa sb : List Stmt} (hc : ST X W g A a) (h1 : SB X W g As sa) (h2 : SB X W g Bs sb) : SS X W g (.iff A As Bs) (.If a sa sb pos) := by
  refine PS.imp (ps_if hc h1 h2) fun Dd σ H h => ?_
  obtain ⟨ρ, h, δ, rl, sl, p⟩ := rdS.re h fun δ h => show execS g (.iff A As Bs) δ h = thenS δ (tstOf (evalE g A δ) h) (fun t h' => match t with
    | true => execSs g As δ h'
    | false => execSs g Bs δ h') by rw [execS]; try rfl
  refine ⟨ρ, h, δ, rl, sl, rdS.expr (rel := relB) sl rl p fun d h1 ρ1 H1 v _ x1 rl1 r1 p1 => ?_⟩
  cases r1
  cases d with
  | true => rw [if_pos rfl]; exact ⟨ρ1, h1, δ, rl1, sl.mono rl x1, p1⟩
  | false => rw [if_neg Bool.false_ne_true]; exact ⟨ρ1, h1, δ, rl1, sl.mono rl x1, p1⟩
/-! ### assignments -/
theorem asg_E {t : Pt} (δ : Sl) (h : Hs) : execS g (.asg t A) δ h = thenS δ (evalE g A δ h) (fun d h' => nextS (asgP g.hot t d δ) h') := by rw [execS]
theorem asg_rd {t : Pt} {te : TE} {σ : St} {H : Hp} {Dd : Ends} (h : rdS X.K W (execS g (.asg t A)) Dd σ H) (k : ∀ σ H Q, rdE X.K W (evalE g A) σ H Q → te σ H Q) : tAsg te (gP X.K t) Dd σ H := by
  obtain ⟨ρ, h, δ, rl, sl, p⟩ := rdS.re h asg_E
  refine k _ _ _ ⟨ρ, h, δ, rl, sl, rdS.expr sl rl p fun d h1 ρ1 H1 v _ x1 rl1 r1 p1 => ?_⟩
  unfold nextS at p1
  cases ea : asgP g.hot t d δ with
  | none => rw [ea] at p1; exact False.elim p1
  | some δ1 =>
    rw [ea] at p1
    obtain ⟨σ1, k1, k2, k3⟩ := asgP_ok t ea r1 (sl.mono rl x1)
    exact k1 _ (p1 ρ1 H1 σ1 (.refl _ _) rl1 k2)
theorem ss_asg {t : Pt} {tg : Expr} (ha : SE X W g A a) (hg : PG X tg (gP X.K t)) (hn : notComp a = true) (hw : swappedStores [tg] a X.env = pure none) (hst : (assignEach [tg] X.env).map (·.2) = [assign tg X.env]) : SS X W g (.asg t A) (.Assign [tg] a pos) :=
  PS.imp (ps_asg ha hg (swaps_no hn _ _ _) hw hst) fun Dd σ H h => asg_rd h fun _ _ _ q => q
theorem sub_E {C : E} (δ : Sl) (h : Hs) : execS g (.sub A B C) δ h = liftS δ (bnd (evalE g C δ) fun d => bnd (evalE g A δ) fun x => bnd (evalE g B δ) fun y => setitem x y d) h := by rw [execS]
theorem liftS_po {K : PySem.W.Frag} {ρ : List Addr} {h : Hs} {H : Hp} {σ : St} {δ : Sl} {Dd : Ends} {m : M Unit} (sl : RSl K ρ H δ σ) (rl : Rl K ρ h H) (p : PoS K W ρ H Dd (liftS δ m h)) : Po K (fun _ _ (_ : Unit) (_ : Unit) => True) (fun c d H' => W c d σ H') ρ H (fun _ H' => Dd.nx σ H') (m h) := by
  unfold liftS at p
  cases e : m h with
  | ok d h1 => rw [e] at p; exact fun ρ1 H1 _ x rl1 _ => p ρ1 H1 σ x rl1 (sl.mono rl x)
  | exc c fs h1 => rw [e] at p; exact fun ρ1 H1 d x rl1 r => p ρ1 H1 d σ x rl1 (sl.mono rl x) r
  | bad => rw [e] at p; exact p
theorem setitem_noexc {x y v : D} {h : Hs} {c : Str} {fs : Option (List (Str × D))} {h' : Hs} : setitem x y v h ≠ .exc c fs h' := by
  unfold setitem
  repeat' split
  all_goals (intro e; cases e)
def notSlice : Expr → Bool
  | .Slice _ _ _ _ => false
  | _ => true
theorem ss_sub {C : E} {e : Expr} {pos' : Pos} (ho : SE X W g A a) (hi : SE X W g B b) (hv : SE X W g C e) (hn : notComp e = true) (hb : notSlice b = true) : SS X W g (.sub A B C) (.Assign [.Subscript a b pos'] e pos) := by
  refine PS.imp (ps_asg hv (pg_sub ho hi set_item (fun v => by cases b <;> first | rfl | cases hb)) (by unfold swapsWithSole; exact swaps_no hn _ _ _) (by unfold swappedStores; cases e <;> rfl) rfl) fun Dd σ H h => ?_
  obtain ⟨ρ, h, δ, rl, sl, p⟩ := rdS.re h sub_E
  have p := liftS_po sl rl p
  refine ⟨ρ, h, δ, rl, sl, p.bnd fun d h1 ρ1 H1 v _ x1 rl1 r1 p1 => ?_⟩
  refine ⟨ρ1, h1, δ, rl1, sl.mono rl x1, p1.bnd fun d2 h2 ρ2 H2 v2 _ x2 rl2 r2 p2 => ?_⟩
  refine ⟨ρ2, h2, δ, rl2, (sl.mono rl x1).mono rl1 x2, p2.bnd fun d3 h3 ρ3 H3 v3 _ x3 rl3 r3 p3 => ?_⟩
  exact ⟨ρ3, h3, d2, d3, d, rl3, r2.mono rl2 x3, r3, r1.mono rl1 (x2.trans x3), p3.noexc fun _ _ _ => setitem_noexc⟩
theorem fld_E {C : E} {f : Str} (δ : Sl) (h : Hs) : execS g (.fld A f C) δ h = liftS δ (bnd (evalE g C δ) fun d => bnd (evalE g A δ) fun x => setattr g x f d) h := by rw [execS]
theorem ss_fld {C : E} {f : Str} {e : Expr} {pos' : Pos} (fo : FldOk X.K g) (ho : SE X W g A a) (hv : SE X W g C e) (hn : notComp e = true) : SS X W g (.fld A f C) (.Assign [.Attribute a f pos'] e pos) := by
  refine PS.imp (ps_fld ho hv (swaps_no hn _ _ _)) fun Dd σ H h => ?_
  obtain ⟨ρ, h, δ, rl, sl, p⟩ := rdS.re h fld_E
  have p := liftS_po sl rl p
  refine ⟨ρ, h, δ, rl, sl, p.bnd fun d h1 ρ1 H1 v _ x1 rl1 r1 p1 => ?_⟩
  refine ⟨ρ1, h1, δ, rl1, sl.mono rl x1, p1.bnd fun d2 h2 ρ2 H2 v2 _ x2 rl2 r2 p2 => ?_⟩
  unfold setattr at p2
  cases d2 with
  | ref i =>
    obtain ⟨q, e0, rfl⟩ := r2
    obtain ⟨o, g1, ro⟩ := rl2.of e0
    dsimp only at p2
    rw [g1] at p2
    cases o with
    | ins c fs =>
      dsimp only at p2
      cases hf : (g.fld c f && decide (fs.length < 1000)) with
      | false => rw [hf] at p2; exact False.elim p2
      | true =>
        rw [hf, if_pos rfl] at p2
        simp only [Bool.and_eq_true, decide_eq_true_eq] at hf
        obtain ⟨dx, vs, q1, rf⟩ := ro
        obtain ⟨k1, k2⟩ := fo c f hf.1
        have rv := r1.mono rl1 x2
        obtain ⟨r', x'⟩ := rl2.wr (a := i) (p := q) (u := .ins (He.ga X.K c) dx (putF f v vs)) (o := .ins c (putD f d fs)) e0 fun st => ⟨dx, _, upd_same, (rf.put rv).st st⟩
        exact ⟨q, _, dx, vs, rfl, q1, k1, k2, by rw [rf.length]; exact hf.2, p2 _ _ () x' r' True.intro⟩
    | _ => exact False.elim p2
  | _ => exact False.elim p2
/-! ### loops -/
theorem ss_for {t : Pt} {it : Ip.It} {As : List S} {tg iter : Expr} {body : List Stmt} (hp : PassesOwn (model X.prog X.w) X.A X.env X.xe) (hot : g.hot = false → X.calm = true) (hi : g.hot = false → SI X W g it tg iter) (hg : g.hot = false → PG X tg (gP X.K t)) (hb : SB X W g As body) (hs : ∀ x, foldedSetIterable iter X.env x = pure x) :
    SS X W g (.for_ t it As) (.For tg iter body [] pos) := by
  have eq : ∀ δ h, execS g (.for_ t it As) δ h = if g.hot then .bad else thenS δ (evalI g it δ h) (fun src h' => forN src (asgP false t) (fun δ1 => execSs g As δ1) g.fuel 0 δ h') := fun δ h => by rw [execS]
  cases eh : g.hot with
  | true =>
    refine ⟨fun pins s σ H Dd I h => ?_⟩
    obtain ⟨ρ, h, δ, rl, sl, p⟩ := rdS.re h eq
    dsimp only at p
    rw [eh] at p
    exact False.elim p
  | false =>
    refine PS.imp (ps_for hp (hot eh) (hi eh) (hg eh) hb hs) fun Dd σ H h => ?_
    obtain ⟨ρ, h, δ, rl, sl, p⟩ := rdS.re h eq
    dsimp only at p
    rw [eh, if_neg Bool.false_ne_true] at p
    refine ⟨ρ, h, δ, rl, sl, rdS.expr sl rl p fun src h1 ρ1 H1 J _ x1 rl1 rS p1 => ?_⟩
    refine ⟨fun i m σ2 H2 => ∃ ρ2 h2 δ2, Ex ρ1 ρ2 H1 H2 ∧ Rl X.K ρ2 h2 H2 ∧ RSl X.K ρ2 H2 δ2 σ2 ∧ PoS X.K W ρ2 H2 Dd (forN src (asgP false t) (fun δ1 => execSs g As δ1) m i δ2 h2), ⟨g.fuel, ρ1, h1, δ, .refl _ _, rl1, sl.mono rl x1, p1⟩, ?_⟩
    rintro i m σ2 H2 ⟨ρ2, h2, δ2, x2, rl2, sl2, p2⟩
    cases m with
    | zero => exact False.elim p2
    | succ m =>
      have rs := rS ρ2 h2 H2 i x2 rl2
      unfold forN at p2
      cases e : src.at i h2 with
      | none => rw [e] at p2; exact False.elim p2
      | some o =>
        rw [e] at rs p2
        cases o with
        | none => exact .inl ⟨rs, p2 ρ2 H2 σ2 (.refl _ _) rl2 sl2⟩
        | some d =>
          obtain ⟨go, yl⟩ := rs
          refine .inr ⟨go, fun σ3 H3 => ∃ ρ2 h2 δ2, Ex ρ1 ρ2 H1 H3 ∧ Rl X.K ρ2 h2 H3 ∧ RSl X.K ρ2 H3 δ2 σ3 ∧ PoS X.K W ρ2 H3 Dd (forN src (asgP false t) (fun δ1 => execSs g As δ1) m (i + 1) δ2 h2), fun σ3 H3 w => ⟨m, Nat.lt_succ_self _, w⟩, fun x H3 y => ?_⟩
          obtain ⟨rl3, x3, rx⟩ := yl x H3 y
          dsimp only at p2
          cases ea : asgP false t d δ2 with
          | none => rw [ea] at p2; exact False.elim p2
          | some δ3 =>
            rw [ea] at p2
            dsimp only at p2
            obtain ⟨σ3, k1, k2, k3⟩ := asgP_ok t ea rx (sl2.mono rl2 x3)
            refine k1 _ ⟨ρ2, h2, δ3, rl3, k2, ?_⟩
            have p3 := p2.mono x3
            cases eb : execSs g As δ3 h2 with
            | next δ4 h4 =>
              rw [eb] at p3
              exact fun ρ4 H4 σ4 x4 rl4 s4 => ⟨ρ4, h4, δ4, x2.trans (x3.trans x4), rl4, s4, p3.mono x4⟩
            | cont δ4 h4 =>
              rw [eb] at p3
              exact fun ρ4 H4 σ4 x4 rl4 s4 => ⟨ρ4, h4, δ4, x2.trans (x3.trans x4), rl4, s4, p3.mono x4⟩
            | brk δ4 h4 => rw [eb] at p3; exact p3
            | ret d h4 => rw [eb] at p3; exact p3
            | exc c fs δ4 h4 => rw [eb] at p3; exact p3
            | bad => rw [eb] at p3; exact p3
theorem ss_whl {As : List S} {body : List Stmt} (hp : PassesOwn (model X.prog X.w) X.A X.env X.xe) (hc : ST X W g A a) (hb : SB X W g As body) : SS X W g (.whl A As) (.While a body [] pos) := by
  refine PS.imp (ps_while hp hc hb) fun Dd σ H h => ?_
  obtain ⟨ρ, h, δ, rl, sl, p⟩ := rdS.re h fun δ h => show execS g (.whl A As) δ h = whlN (fun δ1 => tstOf (evalE g A δ1)) (fun δ1 => execSs g As δ1) g.fuel δ h by rw [execS]
  refine ⟨fun m σ2 H2 => ∃ ρ2 h2 δ2, Rl X.K ρ2 h2 H2 ∧ RSl X.K ρ2 H2 δ2 σ2 ∧ PoS X.K W ρ2 H2 Dd (whlN (fun δ1 => tstOf (evalE g A δ1)) (fun δ1 => execSs g As δ1) m δ2 h2), ⟨g.fuel, ρ, h, δ, rl, sl, p⟩, ?_⟩
  rintro m σ2 H2 ⟨ρ2, h2, δ2, rl2, sl2, p2⟩
  cases m with
  | zero => exact False.elim p2
  | succ m =>
    unfold whlN at p2
    refine ⟨ρ2, h2, δ2, rl2, sl2, ?_⟩
    show Po _ _ _ _ _ _ (tstOf (evalE g A δ2) h2)
    cases et : tstOf (evalE g A δ2) h2 with
    | bad => rw [et] at p2; exact False.elim p2
    | exc c fs h3 =>
      rw [et] at p2
      exact fun ρ3 H3 d x3 rl3 r3 => p2 ρ3 H3 d σ2 x3 rl3 (sl2.mono rl2 x3) r3
    | ok bt h3 =>
      rw [et] at p2
      intro ρ3 H3 b3 x3 rl3 e3
      cases e3
      cases bt with
      | false => rw [if_neg Bool.false_ne_true]; exact p2 ρ3 H3 σ2 x3 rl3 (sl2.mono rl2 x3)
      | true =>
        rw [if_pos rfl]
        dsimp only at p2
        refine ⟨fun σ4 H4 => ∃ ρ2 h2 δ2, Rl X.K ρ2 h2 H4 ∧ RSl X.K ρ2 H4 δ2 σ4 ∧ PoS X.K W ρ2 H4 Dd (whlN (fun δ1 => tstOf (evalE g A δ1)) (fun δ1 => execSs g As δ1) m δ2 h2), fun σ4 H4 w => ⟨m, Nat.lt_succ_self _, w⟩, ρ3, h3, δ2, rl3, sl2.mono rl2 x3, ?_⟩
        have p3 := p2.mono x3
        cases eb : execSs g As δ2 h3 with
        | next δ4 h4 =>
          rw [eb] at p3
          exact fun ρ4 H4 σ4 x4 rl4 s4 => ⟨ρ4, h4, δ4, rl4, s4, p3.mono x4⟩
        | cont δ4 h4 =>
          rw [eb] at p3
          exact fun ρ4 H4 σ4 x4 rl4 s4 => ⟨ρ4, h4, δ4, rl4, s4, p3.mono x4⟩
        | brk δ4 h4 => rw [eb] at p3; exact p3
        | ret d h4 => rw [eb] at p3; exact p3
        | exc c fs δ4 h4 => rw [eb] at p3; exact p3
        | bad => rw [eb] at p3; exact p3
end
end Ip
end
section
set_option Elab.async false
set_option linter.all false
set_option maxRecDepth 100000
/-! the text of the machine against the text of the program -/
namespace Ip
open PySem L2
structure SC where
  sc : Scope
  fn : Str → Bool
  N : List Str
  fns : List Str
  mks : List Str
  gls : List Str
  frees : List Str
  xcs : List Str
  xns : List Str
def isVis (sc : Scope) (x : Str) : Bool := match sc.names.lookup x with
  | some .local => true
  | some .cell => true
  | some .free => true
  | _ => false
def isGl (sc : Scope) (x : Str) : Bool := match sc.names.lookup x with
  | some .globalImplicit => true
  | _ => false
def isLoc (sc : Scope) (fn : Str → Bool) (x : Str) : Bool := match sc.names.lookup x with
  | some .local => true
  | some .cell => fn x
  | _ => false
def noDbg (x : Str) : Bool := !(x == ("__debug__" : Str)) && !(x == ("__classdict__" : Str)) && !decide (x = ("__name__" : Str))
def notSet : Expr → Bool
  | .Set _ _ _ => false
  | _ => true
mutual
def isP (c : SC) : Pt → Expr → Bool
  | .name i, .Name x _ => decide (c.N[i]? = some x) && isLoc c.sc c.fn x
  | .tup ts, .Tuple es _ _ => isPs c ts es
  | _, _ => false
def isPs (c : SC) : List Pt → List Expr → Bool
  | [], [] => true
  | t :: ts, e :: es => notStar e && isP c t e && isPs c ts es
  | _, _ => false
end
def SC.blk (c : SC) (scope : Scope) : SC := { c with sc := L2.relS scope c.sc, fn := fun x => scope.names.lookup x == some .cell }
def ownOf (N : List Str) (own : List Nat) : List (Str × Nat) := own.map fun i => (N.getD i Str.empty, i)
mutual
def isE : SC → E → Expr → Bool
  | _, .non, .Constant .none _ _ => true
  | _, .bl b, .Constant (.bool b') _ _ => b == b'
  | _, .int i, .Constant (.int j) _ _ => decide (i = j)
  | _, .str i, .Constant (.str j) _ _ => decide (i = j)
  | c, .var i, .Name x _ => decide (c.N[i]? = some x) && isVis c.sc x && noDbg x
  | c, .glob x, .Name y _ => decide (x = y) && isGl c.sc y && noDbg y && c.gls.contains x
  | c, .bty n, .Name y _ => isGl c.sc y && noDbg y && c.frees.contains y && decide (bootBuiltins y = some (.type n))
  | c, .bin o a b, .BinOp a' o' b' _ => decide (o = o') && isE c a a' && isE c b b'
  | c, .un .USub a, .UnaryOp .USub a' _ => isE c a a'
  | c, .un .Invert a, .UnaryOp .Invert a' _ => isE c a a'
  | c, .not a, .UnaryOp .Not a' _ => isE c a a'
  | c, .and a b, .BoolOp .And (a' :: b' :: r) p => isE c a a' && (match r with
    | [] => isE c b b'
    | _ :: _ => isE c b (.BoolOp .And (b' :: r) p))
  | c, .or a b, .BoolOp .Or (a' :: b' :: r) p => isE c a a' && (match r with
    | [] => isE c b b'
    | _ :: _ => isE c b (.BoolOp .Or (b' :: r) p))
  | c, .cmp o a b, .Compare a' [o'] [b'] _ => decide (o = o') && isE c a a' && isE c b b' && notSet b'
  | c, .cmp2 o p a b d, .Compare a' [o', p'] [b', d'] _ => decide (o = o') && decide (p = p') && isE c a a' && isE c b b' && isE c d d' && notSet d'
  | c, .ife t a b, .IfExp t' a' b' _ => isE c t t' && isE c a a' && isE c b b'
  | c, .tup es, .Tuple es' _ _ => isEs c es es'
  | c, .lst es, .List es' _ => isEs c es es'
  | c, .idx a i, .Subscript a' i' _ => isE c a a' && isE c i i' && notSlice i'
  | c, .sl a lo hi, .Subscript a' (.Slice lo' hi' none _) _ => isE c a a' && isO c lo lo' && isO c hi hi'
  | c, .attr a f, .Attribute a' f' _ => decide (f = f') && baseOk a' && isE c a a'
  | c, .call f es, .Call (.Name x _) es' [] _ => decide (f = x) && isGl c.sc x && noDbg x && c.fns.contains f && isEs c es es'
  | c, .make f es, .Call (.Name x _) es' [] _ => decide (f = x) && isGl c.sc x && noDbg x && c.mks.contains f && isEs c es es' && !es'.isEmpty
  | c, .meth o m es, .Call (.Attribute o' m' ap) es' [] p => decide (m = m') && baseOk o' && isE c o o' && isEs c es es' && (ap.endLine == p.line) && decide (es'.length < 30)
  | c, .bi f es, .Call (.Name x _) es' [] _ => decide (biName f = x) && isGl c.sc x && c.frees.contains x && isEs c es es' && !es'.isEmpty
  | c, .bm o m es, .Call (.Attribute o' m' ap) es' [] p => decide (bmName m = m') && baseOk o' && isE c o o' && isEs c es es' && (ap.endLine == p.line) && decide (es'.length < 30)
  | c, .fmt e, .FormattedValue e' n none _ => decide (n = -1) && isE c e e'
  | c, .fstr es, .JoinedStr es' _ => isEs c es es' && decide (2 ≤ es'.length)
  | c, .lc e t own it ifs, .ListComp e' [⟨tg, iter, ifs', n⟩] scope _ => decide (n = 0) && isI c it iter && notSet iter && blkC c.N c.sc scope (ownOf c.N own) && (slotsP t).all (fun i => own.contains i) && isP (c.blk scope) t tg && isEs (c.blk scope) ifs ifs' && decide (ifs'.length ≤ 1) && isE (c.blk scope) e e'
  | _, _, _ => false
def isEs : SC → List E → List Expr → Bool
  | _, [], [] => true
  | c, a :: as, e :: es => notStar e && isE c a e && isEs c as es
  | _, _, _ => false
def isO : SC → Option E → Option Expr → Bool
  | _, none, none => true
  | c, some a, some e => isE c a e
  | _, _, _ => false
def isI : SC → It → Expr → Bool
  | c, .e a, e => isE c a e
  | c, .rng [a], .Call (.Name x _) [e] [] _ => decide (x = "range") && isGl c.sc x && c.frees.contains x && notStar e && isE c a e
  | c, .rng [a, b], .Call (.Name x _) [e, e'] [] _ => decide (x = "range") && isGl c.sc x && c.frees.contains x && notStar e && notStar e' && isE c a e && isE c b e'
  | c, .rng [a, b, d], .Call (.Name x _) [e, e', e2] [] _ => decide (x = "range") && isGl c.sc x && c.frees.contains x && notStar e && notStar e' && notStar e2 && isE c a e && isE c b e' && isE c d e2
  | _, _, _ => false
end
def spX (K : PySem.W.Frag) (C : Addr) (fs : List (Str × Nat)) (arg : E) : Sp := fun vs H Q _ => ∃ a vs' ρ h ds d h', vs = .ref a :: vs' ∧ vs'.length = fs.length ∧ Rl K ρ h H ∧ a ∉ ρ ∧ RVs K ρ H ds vs' ∧ H a = some (exo a C none) ∧
  evalE g0 arg (none :: (ds.map some ++ [none])) h = .ok d h' ∧ ∀ ρ1 H1 dx H', Ex ρ ρ1 H H1 → Rl K ρ1 h' H1 → H1 dx = none → dx ≠ a → H' a = some (exo a C (some dx)) → H' dx = some (exd dx ((fs.map (·.1)).zip vs').reverse) → (∀ b, b ≠ a → b ≠ dx → H' b = H1 b) → Q .non H'
/-- the slots of the parameters -/
def fslots (fs : List Str) : List (Str × Nat) := (List.range fs.length).zipWith (fun i f => (f, i + 1)) fs
abbrev xN (fl : List Str) : List Str := ("self" : Str) :: (fl ++ [("__class__" : Str)])
abbrev xP (fl : List Str) : List Str := ("self" : Str) :: fl
abbrev xR : List Str := [("__class__" : Str)]
/-- p is the error that the machine takes for handled -/
def HxP (K : PySem.W.Frag) (hx : Option (Nat × Nat × Str)) (p : Addr × Obj) : Prop := ∀ a dd c, hx = some (a, dd, c) → p.1 = a ∧ L2N.Zn (.ref (He.ga K c)) (some dd) p.2
/-- what a def promises where an error is handled -/
structure FnY (P : Program) (w : World) (K : PySem.W.Frag) (mg : Str → Option Value) (base : Heap) (CX : CXT) (k : Nat) (hx : Option (Nat × Nat × Str)) (f : Addr) (fd : FuncData) (ps : List Str) (sp : Sp) : Prop where
  len : ∀ vs H Q E, sp vs H Q E → vs.length = ps.length
  run : ∀ (A : Around) (outer : List Env) (s : Shared) (H : Hp) (args : Args) (us : List Value) (vs : List V) (Q : VK) (E : XK) (p : Addr × Obj), L2H.RoomH k A → L2H.Hot1 A p → HxP K hx p → L2H.PinOk outer H s p → Env0 P w K mg base A outer s H →
    BindsTo s fd args (ps.zip us) → Vals vs us → sp vs H Q E → codeAny (model P w) A (.call (.ref f) args) (CR CX outer P w H s Q E) s
/-- what is known of a def called here -/
def Fx (X : Cx) (g : G) (k : Nat) (f : Addr) (fd : FuncData) (ps : List Str) (m : List D → M D) : Prop := match g.hot with
  | false => FnOk X.prog X.w X.K X.mg X.base (L2N.CX X.prog X.w) k f fd ps (spF X.K m)
  | true => FnY X.prog X.w X.K X.mg X.base (L2N.CX X.prog X.w) k g.hx f fd ps (spF X.K m)
/-- the operators of own classes that the machine calls -/
def Ow (g : G) (cl m : Str) : Prop := (∃ o, g.opo cl o = true ∧ m = PySem.dunder o.info.2) ∨ (∃ o, g.opi cl o = true ∧ m = PySem.dunder o.info.2) ∨ (g.opu cl = true ∧ m = "__invert__") ∨ ∃ t, g.eqo cl t = true ∧ m = "__eq__"
structure OwS (K : PySem.W.Frag) (g : G) : Prop where
  opo : ∀ c o, g.opo c o = true → Cls K (He.ga K c) ∧ PySem.W.selfFirst K (He.ga K c) = true
  opi : ∀ c o, g.opi c o = true → Cls K (He.ga K c) ∧ PySem.W.selfFirst K (He.ga K c) = true ∧ ∃ fo ro rc, PySem.W.findIn K (.ref (He.ga K c)) (dunderR o.info.2) = some rc ∧ (rc = none ∨ ∃ g : Addr, rc = some (.ref g)) ∧ PySem.W.findIn K (.type "int") (PySem.dunder o.info.2) = some fo ∧ PySem.W.findIn K (.type "int") (dunderR o.info.2) = some ro ∧ PySem.W.subIn K (.type "int") (.ref (He.ga K c)) = some false
  opu : ∀ c, g.opu c = true → Cls K (He.ga K c)
  eqo : ∀ c t, g.eqo c t = true → Cls K (He.ga K c) ∧ PySem.W.notFirst K (He.ga K c) (tv K t) = true ∧ PySem.W.findIn K (.ref (He.ga K c)) "__ne__" = some (some (.builtin "object.__ne__")) ∧ PySem.W.subIn K (.ref (He.ga K c)) (.type "object") = some true
/-- what the module's top has left, as the machine leans on it -/
structure Wo (X : Cx) (g : G) (c : SC) (k : Nat) : Prop where
  isok : IsOk X.K g
  fld : FldOk X.K g
  gl : ∀ x d, c.gls.contains x = true → g.gl x = some d → ∃ u v, X.mg x = some u ∧ RelV v u ∧ ∀ ρ H, RV X.K ρ H d v
  free : ∀ x, c.frees.contains x = true → X.mg x = none
  cf : ∀ f, c.fns.contains f = true → ∃ a fd ps, X.mg f = some (.ref a) ∧ PySem.W.keepIn X.K (.ref a) = true ∧ Binds X.K fd ps [] ∧ Fx X g k a fd ps (g.cf (f, none))
  mak : ∀ f, c.mks.contains f = true → X.mg f = some (.ref (He.ga X.K f)) ∧ PySem.W.keepIn X.K (.ref (He.ga X.K f)) = true ∧ ((∃ a fd ps j, g.hot = false ∧ k = j + 1 ∧ Mk X.K (He.ga X.K f) a ∧ Binds X.K fd ps [] ∧ FnOk X.prog X.w X.K X.mg X.base (L2N.CX X.prog X.w) j a fd ps (spF X.K (g.cm (f, some "__init__")))) ∨ ∀ ds h, mkI g f ds h = .bad)
  xcm : ∀ n, c.xcs.contains n = true → X.mg n = some (.ref (He.ga X.K n)) ∧ PySem.W.keepIn X.K (.ref (He.ga X.K n)) = true
  xc : ∀ n fl arg, g.xc n = some (fl, arg) → ∃ f fd j, k = j + 1 ∧ OexC X.K (He.ga X.K n) ∧ PySem.W.findIn X.K (.ref (He.ga X.K n)) "__init__" = some (some (.ref f)) ∧ PySem.W.typeIn X.K (.ref f) = some (.type "function") ∧ fl.length ≤ 100 ∧ Binds X.K fd (xP fl) [] ∧ FnOk X.prog X.w X.K X.mg X.base (L2N.CX X.prog X.w) j f fd (xP fl) (spX X.K (He.ga X.K n) (fslots fl) arg)
  xf : XcF X.K g
  prp : ∀ cl f, g.prp cl f = true → g.hot = false → ∃ p a fd ps j, k = j + 1 ∧ Cls X.K (He.ga X.K cl) ∧ PropOf X.K (He.ga X.K cl) f p a ∧ FnOk X.prog X.w X.K X.mg X.base (L2N.CX X.prog X.w) j a fd ps (spF X.K (g.cm (cl, some f))) ∧ Binds X.K fd ps []
  exm : ∀ x, c.xns.contains x = true → ∃ v, (X.mg x = some v ∨ (X.mg x = none ∧ bootBuiltins x = some v ∧ x ≠ "__name__")) ∧ ∀ cl b, g.exm cl x = some b → PySem.W.exmOne X.K (.ref (He.ga X.K cl)) v = some b
  ch : g.hot = false → ∀ hx f, c.fns.contains f = true → ∃ a fd ps, X.mg f = some (.ref a) ∧ PySem.W.keepIn X.K (.ref a) = true ∧ Binds X.K fd ps [] ∧ FnY X.prog X.w X.K X.mg X.base (L2N.CX X.prog X.w) k hx a fd ps (spF X.K (g.ch hx (f, none)))
  chm : g.hot = false → ∀ hx cl m, g.mth cl m = true → ∃ a fd ps, Cls X.K (He.ga X.K cl) ∧ Meth X.K (He.ga X.K cl) m a ∧ Binds X.K fd ps [] ∧ FnY X.prog X.w X.K X.mg X.base (L2N.CX X.prog X.w) k hx a fd ps (spF X.K (g.ch hx (cl, some m)))
  mth : ∀ cl m, g.mth cl m = true → ∃ a fd ps, Cls X.K (He.ga X.K cl) ∧ Meth X.K (He.ga X.K cl) m a ∧ Binds X.K fd ps [] ∧ Fx X g k a fd ps (g.cf (cl, some m))
  ows : OwS X.K g
  ow : ∀ cl m, Ow g cl m → ∃ a fd ps, PySem.W.findIn X.K (.ref (He.ga X.K cl)) m = some (some (.ref a)) ∧ PySem.W.isFn X.K (.ref a) = true ∧ Binds X.K fd ps [] ∧ Fx X g k a fd ps (g.cf (cl, some m))
  owh : g.hot = false → ∀ hx cl m, Ow g cl m → ∃ a fd ps, PySem.W.findIn X.K (.ref (He.ga X.K cl)) m = some (some (.ref a)) ∧ PySem.W.isFn X.K (.ref a) = true ∧ Binds X.K fd ps [] ∧ FnY X.prog X.w X.K X.mg X.base (L2N.CX X.prog X.w) k hx a fd ps (spF X.K (g.ch hx (cl, some m)))
  own : ∀ cl t, g.eqo cl t = true → g.hot = false → (∃ a fd ps j, k = j + 1 ∧ PySem.W.findIn X.K (.ref (He.ga X.K cl)) "__eq__" = some (some (.ref a)) ∧ PySem.W.isFn X.K (.ref a) = true ∧ Binds X.K fd ps [] ∧ FnOk X.prog X.w X.K X.mg X.base (L2N.CX X.prog X.w) j a fd ps (spF X.K (g.cm (cl, some "__eq__")))) ∨ ∀ ds h, g.cm (cl, some "__eq__") ds h = .bad
structure Cf (X : Cx) (g : G) (W : WX) (c : SC) (k : Nat) : Prop where
  N : X.N = c.N
  nd : c.N.Nodup
  sc : X.env.scope = c.sc
  fn : ∀ x, X.fn x = c.fn x
  hu : X.A.units + 64 < cLine
  calm : g.hot = false → X.calm = true
  room : g.hot = false → Room k X.A
  roomH : g.hot = true → L2H.RoomH k X.A ∧ ∃ p, L2H.Hot1 X.A p ∧ p ∈ X.pn ∧ HxP X.K g.hx p
  tk : L2N.Takes X W
  wo : Wo X g c k
section
variable {X : Cx} {W : WX} {g : G} {c : SC} {k : Nat}
theorem ba {a b : Bool} (h : (a && b) = true) : a = true ∧ b = true := Bool.and_eq_true_iff.mp h
theorem isVis_ok {sc : Scope} {x : Str} (h : isVis sc x = true) : Vis sc x := by
  unfold isVis at h
  split at h
  · exact .inl (by assumption)
  · exact .inr (.inl (by assumption))
  · exact .inr (.inr (by assumption))
  · cases h
theorem Cf.gl (cf : Cf X g W c k) {x : Str} (h : isGl c.sc x = true) : Gl X x := by
  unfold isGl at h
  split at h
  · show X.env.scope.names.lookup x = _
    rw [cf.sc]; assumption
  · cases h
theorem dbg1 {x : Str} (h : noDbg x = true) : (x == ("__debug__" : Str)) = false ∧ (x == ("__classdict__" : Str)) = false ∧ x ≠ "__name__" := by
  obtain ⟨h1, h2⟩ := ba h
  obtain ⟨h0, h1⟩ := ba h1
  refine ⟨?_, ?_, ?_⟩
  · cases q : (x == ("__debug__" : Str)) with
    | false => rfl
    | true => rw [q] at h0; cases h0
  · cases q : (x == ("__classdict__" : Str)) with
    | false => rfl
    | true => rw [q] at h1; cases h1
  · intro e
    rw [decide_eq_true e] at h2
    cases h2
theorem calls_fnY {a : Addr} {fd : FuncData} {ps : List Str} {m : List D → M D} {hx : Option (Nat × Nat × Str)} (F : FnY X.prog X.w X.K X.mg X.base (L2N.CX X.prog X.w) k hx a fd ps (spF X.K m)) (hr : L2H.RoomH k X.A) {p : Addr × Obj} (hot : L2H.Hot1 X.A p) (hp : p ∈ X.pn) (hh : HxP X.K hx p) (hb : Binds X.K fd ps [])
    (tk : L2N.Takes X W) : Calls X W (.ref a) m := by
  intro pins s σ H Q us vs I r h
  have b := hb s us I.kIn (by rw [List.append_nil, ← r.length]; exact F.len _ _ _ _ h)
  rw [List.append_nil] at b
  obtain ⟨p1, p2, p3, p4, p5⟩ := I.pin p (List.mem_append_left _ hp)
  refine wpAny_call (codeAny_mono (F.run X.A X.stack s H ⟨us, []⟩ us vs Q _ p hr hot hh ⟨p1, p2, fun hm => ?_, p5⟩ I.env0 b r h) fun res s' hres => ?_)
  · rcases List.mem_cons.mp (I.stkSub p.1 hm) with z | z
    · exact p3 z
    · exact p4 z
  · match res, hres with
    | .error e, hres => exact L2N.passAt tk σ pins _ _ e s' I hres
    | .ok (.ret u), hres =>
      obtain ⟨v, H', I3, rv, q3⟩ := I.after hres
      exact ⟨v, H', I3, rv, q3⟩
    | .ok .next, hres => exact False.elim hres
    | .ok .brk, hres => exact False.elim hres
    | .ok .cont, hres => exact False.elim hres
theorem Cf.hxin (cf : Cf X g W c k) : HxIn X g := fun a dd c e1 e2 => by
  obtain ⟨_, p, ⟨_, vs, hv, _⟩, h2, h3⟩ := cf.roomH e1
  obtain ⟨rfl, hz⟩ := h3 a dd c e2
  exact ⟨p.2, h2, hz, vs, hv⟩
theorem Cf.prp (cf : Cf X g W c k) : PrpOk X g := fun cl f h1 h2 => by
  obtain ⟨p, a, fd, ps, j, rfl, k1, k2, F, b⟩ := cf.wo.prp cl f h1 h2
  exact ⟨p, a, fd, ps, j, k1, k2, F, cf.room h2, b⟩
theorem Cf.ga (cf : Cf X g W c k) (f : Str) : GaOk X W g f := ga_ok cf.wo.fld cf.prp cf.hxin cf.wo.xf
theorem takes0 {X : Cx} : L2N.Takes X W0 := fun _ _ ⟨_, _, _, _, _, _, _, _, _, _, _, _, _, _, _, _, w⟩ => w.elim
theorem calls_of (cf : Cf X g W c k) {a : Addr} {fd : FuncData} {ps : List Str} {m : List D → M D} (b : Binds X.K fd ps []) (F : Fx X g k a fd ps m) : Calls X W (.ref a) m := by
  unfold Fx at F
  cases e : g.hot with
  | false =>
    rw [e] at F
    exact calls_fn F (cf.room e) b cf.tk
  | true =>
    rw [e] at F
    obtain ⟨r, p, h1, h2, h3⟩ := cf.roomH e
    exact calls_fnY F r h1 h2 h3 b cf.tk
theorem calls_mk (cf : Cf X g W c k) {f : Str} (h : c.mks.contains f = true) : Calls X W (.ref (He.ga X.K f)) (mkI g f) := by
  obtain ⟨_, _, h1 | h2⟩ := cf.wo.mak f h
  · obtain ⟨a, fd, ps, j, e, rfl, M', b, F⟩ := h1
    exact calls_make M' F (cf.room e) b cf.tk
  · intro pins s σ H Q us vs I rv ⟨ρ, hh, ds, rl, rs, p⟩
    rw [h2] at p
    exact False.elim p
theorem Cf.mth (cf : Cf X g W c k) : MthOk X W g := fun cl m h => by
  obtain ⟨a, fd, ps, k1, k2, b, F⟩ := cf.wo.mth cl m h
  exact ⟨a, k1, k2, calls_of cf b F⟩
theorem Cf.owok (cf : Cf X g W c k) : OwOk X W g where
  opo := fun cl o h => by
    obtain ⟨k1, k2⟩ := cf.wo.ows.opo cl o h
    obtain ⟨a, fd, ps, h1, h2, b, F⟩ := cf.wo.ow cl _ (.inl ⟨o, h, rfl⟩)
    exact ⟨a, k1, k2, h1, h2, calls_of cf b F⟩
  opi := fun cl o h => by
    obtain ⟨k1, k2, fo, ro, rc, k3, k4, k5, k6, k7⟩ := cf.wo.ows.opi cl o h
    obtain ⟨a, fd, ps, h1, h2, b, F⟩ := cf.wo.ow cl _ (.inr (.inl ⟨o, h, rfl⟩))
    exact ⟨a, fo, ro, rc, k1, k2, h1, h2, k3, k4, k5, k6, k7, calls_of cf b F⟩
  opu := fun cl h => by
    obtain ⟨a, fd, ps, h1, h2, b, F⟩ := cf.wo.ow cl _ (.inr (.inr (.inl ⟨h, rfl⟩)))
    exact ⟨a, cf.wo.ows.opu cl h, h1, h2, calls_of cf b F⟩
  eqo := fun cl t h => by
    obtain ⟨k1, k2, _, _⟩ := cf.wo.ows.eqo cl t h
    obtain ⟨a, fd, ps, h1, h2, b, F⟩ := cf.wo.ow cl _ (.inr (.inr (.inr ⟨t, h, rfl⟩)))
    exact ⟨a, k1, k2, h1, h2, calls_of cf b F⟩
  neo := fun cl t h hot => by
    obtain ⟨k1, k2, k3, k4⟩ := cf.wo.ows.eqo cl t h
    rcases cf.wo.own cl t h hot with ⟨a, fd, ps, j, rfl, h1, h2, b, F⟩ | no
    · exact .inl ⟨a, j, fd, ps, k1, k2, k3, k4, h1, h2, F, cf.room hot, b⟩
    · exact .inr no
/-- within a comprehension's block -/
theorem Cf.blk (cf : Cf X g W c k) (hot : g.hot = false) (s : Shared) (H : Hp) (scope : Scope) (cl : List (Str × Addr)) (C : Addr) (fp : List Addr) : Cf (X.blk s H scope (compEnvC scope cl C X.env) fp) g W0 (c.blk scope) k where
  N := cf.N
  nd := cf.nd
  sc := by
    show PySem.relabel scope X.env = L2.relS scope c.sc
    unfold PySem.relabel L2.relS Env.kindOf
    rw [cf.sc]
  fn := fun x => rfl
  hu := cf.hu
  calm := cf.calm
  room := cf.room
  roomH := fun e => by rw [hot] at e; cases e
  tk := takes0
  wo := ⟨cf.wo.isok, cf.wo.fld, cf.wo.gl, cf.wo.free, cf.wo.cf, cf.wo.mak, cf.wo.xcm, cf.wo.xc, cf.wo.xf, cf.wo.prp, cf.wo.exm, cf.wo.ch, cf.wo.chm, cf.wo.mth, ⟨cf.wo.ows.opo, cf.wo.ows.opi, cf.wo.ows.opu, cf.wo.ows.eqo⟩, cf.wo.ow, cf.wo.owh, cf.wo.own⟩
/-- within a try's body -/
theorem Cf.tr {W' : WX} (cf : Cf X g W c k) (hot : g.hot = false) {pn : List (Addr × Obj)} {xe : Value → Shared → Prop} (tk : L2N.Takes (X.tr pn xe) W') : Cf (X.tr pn xe) g W' c k where
  N := cf.N
  nd := cf.nd
  sc := cf.sc
  fn := cf.fn
  hu := cf.hu
  calm := cf.calm
  room := cf.room
  roomH := fun e => by rw [hot] at e; cases e
  tk := tk
  wo := ⟨cf.wo.isok, cf.wo.fld, cf.wo.gl, cf.wo.free, cf.wo.cf, cf.wo.mak, cf.wo.xcm, cf.wo.xc, cf.wo.xf, cf.wo.prp, cf.wo.exm, cf.wo.ch, cf.wo.chm, cf.wo.mth, ⟨cf.wo.ows.opo, cf.wo.ows.opi, cf.wo.ows.opu, cf.wo.ows.eqo⟩, cf.wo.ow, cf.wo.owh, cf.wo.own⟩
/-- within an except suite -/
theorem Cf.suite (cf : Cf X g W c k) (hot : g.hot = false) {a : Addr} {oe : Obj} {cls : Value} {d : Option Addr} (pn : List (Addr × Obj)) (z : L2N.Zn cls d oe) (dt : ∃ vs, oe.data = .fields vs) {hx : Option (Nat × Nat × Str)} (hp : HxP X.K hx (a, oe)) : Cf (X.suite a ((a, oe) :: pn)) (gH g hx) W0 c k where
  N := cf.N
  nd := cf.nd
  sc := cf.sc
  fn := cf.fn
  hu := cf.hu
  calm := fun e => nomatch e
  room := fun e => nomatch e
  roomH := fun _ => ⟨⟨(cf.room hot).dp, (cf.room hot).un⟩, (a, oe), ⟨rfl, dt.elim fun vs e => ⟨vs, e, z.2.2 vs e⟩⟩, .head _, hp⟩
  tk := takes0
  wo := ⟨⟨cf.wo.isok.one, cf.wo.isok.ist⟩, cf.wo.fld, cf.wo.gl, cf.wo.free, fun f h => cf.wo.ch hot hx f h, fun f h => ⟨(cf.wo.mak f h).1, (cf.wo.mak f h).2.1, .inr fun _ _ => rfl⟩, cf.wo.xcm, cf.wo.xc, ⟨cf.wo.xf.fd, cf.wo.xf.iz⟩, (fun _ _ _ e => nomatch e), cf.wo.exm, (fun e => nomatch e), (fun e => nomatch e), fun cl m h => cf.wo.chm hot hx cl m h, ⟨cf.wo.ows.opo, cf.wo.ows.opi, cf.wo.ows.opu, cf.wo.ows.eqo⟩, fun cl m h => cf.wo.owh hot hx cl m h, (fun e => nomatch e), (fun _ _ _ e => nomatch e)⟩
theorem isLoc_ok {fn : Str → Bool} {sc : Scope} {x : Str} (h : isLoc sc fn x = true) : (sc.names.lookup x = some .local ∨ sc.names.lookup x = some .cell) ∧ (fn x = true ∨ sc.names.lookup x = some .local) := by
  unfold isLoc at h
  split at h
  · exact ⟨.inl (by assumption), .inr (by assumption)⟩
  · exact ⟨.inr (by assumption), .inl h⟩
  · cases h
mutual
theorem sndP (cf : Cf X g W c k) (hc : X.calm = true) : ∀ (t : Pt) (e : Expr), isP c t e = true → PG X e (gP X.K t)
  | .name i, e, h => by
    cases e with
    | Name x pos =>
      unfold isP at h
      obtain ⟨h1, h2⟩ := ba h
      obtain ⟨l1, l2⟩ := isLoc_ok h2
      unfold gP
      refine pg_name (by rw [cf.N]; exact cf.nd) (by rw [cf.N]; exact of_decide_eq_true h1) ?_ ?_
      · show X.env.scope.names.lookup x = _ ∨ X.env.scope.names.lookup x = _
        rw [cf.sc]
        exact l1
      · rw [cf.fn, cf.sc]
        exact l2
    | _ => unfold isP at h; cases h
  | .tup ts, e, h => by
    cases e with
    | Tuple es k' pos =>
      unfold isP at h
      unfold gP
      obtain ⟨h1, h2, h3⟩ := sndPs cf hc ts es h
      exact pg_tup hc h1 h2 h3
    | _ => unfold isP at h; cases h
theorem sndPs (cf : Cf X g W c k) (hc : X.calm = true) : ∀ (ts : List Pt) (es : List Expr), isPs c ts es = true → PGs X es (gPs X.K ts) ∧ (assignEach es X.env).length = ts.length ∧ (assignEach es X.env).findIdx? (·.1) = none
  | [], [], _ => ⟨by unfold gPs; exact pgs_nil, rfl, rfl⟩
  | [], _ :: _, h => by unfold isPs at h; cases h
  | _ :: _, [], h => by unfold isPs at h; cases h
  | t :: ts, e :: es, h => by
    unfold isPs at h
    obtain ⟨h, h3⟩ := ba h
    obtain ⟨h1, h2⟩ := ba h
    have p1 := sndP cf hc t e h2
    obtain ⟨q1, q2, q3⟩ := sndPs cf hc ts es h3
    have ea : assignEach (e :: es) X.env = (false, assign e X.env) :: assignEach es X.env := by cases e <;> first | rfl | cases h1
    refine ⟨?_, ?_, ?_⟩
    · unfold gPs
      exact pgs_cons p1 q1 (by rw [ea]; rfl)
    · rw [ea, List.length_cons, List.length_cons, q2]
    · rw [ea, List.findIdx?_cons]
      show (if false = true then _ else _) = none
      rw [if_neg Bool.false_ne_true, q3]
      rfl
end
end
end Ip
end
section
set_option Elab.async false
set_option linter.all false
set_option maxRecDepth 100000
set_option maxHeartbeats 1000000
/-! every expression that is told to be the machine's is kept -/
namespace Ip
open PySem L2
/-- a value, a test, a test of and | or -/
abbrev SX (X : Cx) (W : WX) (g : G) (A : E) (e : Expr) : Prop := SE X W g A e ∧ ST X W g A e ∧ ∀ op vs p, e = .BoolOp op vs p → SW X W g A e
section
variable {g : G} {k : Nat}
theorem noset_in {o : CmpOp} {b : Expr} (h : notSet b = true) : behindInMarks o b = false := by
  cases b <;> first | rfl | cases h
theorem fold_no {b : Expr} (h : notSet b = true) (env : Env) (x : Value) : foldedSetIterable b env x = pure x := by
  cases b <;> first | rfl | cases h
theorem plain_ix {b : Expr} (h : notSlice b = true) : PlainIx b := fun o i => by
  cases b <;> first | rfl | cases h
theorem allStar {c : SC} : ∀ {as : List E} {es : List Expr}, isEs c as es = true → es.all notStar = true
  | [], [], _ => rfl
  | [], _ :: _, h => by unfold isEs at h; cases h
  | _ :: _, [], h => by unfold isEs at h; cases h
  | a :: as, e :: es, h => by
    unfold isEs at h
    obtain ⟨h, h3⟩ := ba h
    obtain ⟨h1, h2⟩ := ba h
    rw [List.all_cons, h1, allStar h3]
    rfl
theorem star_cons {e : Expr} {es : List Expr} (h : (e :: es).all notStar = true) (env : Env) : starEach (e :: es) env = (false, eval e env) :: starEach es env := by
  rw [List.all_cons] at h
  exact star1 (ba h).1 _ _
theorem star_rest {e : Expr} {es : List Expr} (h : (e :: es).all notStar = true) (pos : Pos) (env : Env) : (backTo pos (starEach es env)).any (·.1) = false := by
  rw [List.all_cons] at h
  exact star_any (ba h).2
mutual
theorem sndE : ∀ (A : E) (c : SC) (X : Cx) (W : WX) (e : Expr), isE c A e = true → Cf X g W c k → SX X W g A e
  | .non, c, X, W, e, h, cf => by
    cases e with
    | Constant v j pos =>
      cases v with
      | none => exact ⟨se_non, st_plain se_non fun _ => rfl, fun _ _ _ z => nomatch z⟩
      | _ => unfold isE at h; cases h
    | _ => unfold isE at h; cases h
  | .bl b, c, X, W, e, h, cf => by
    cases e with
    | Constant v j pos =>
      cases v with
      | bool b' =>
        unfold isE at h
        rw [eq_of_beq h]
        exact ⟨se_bl, st_plain se_bl fun _ => rfl, fun _ _ _ z => nomatch z⟩
      | _ => unfold isE at h; cases h
    | _ => unfold isE at h; cases h
  | .int b, c, X, W, e, h, cf => by
    cases e with
    | Constant v j pos =>
      cases v with
      | int b' =>
        unfold isE at h
        rw [of_decide_eq_true h]
        exact ⟨se_int, st_plain se_int fun _ => rfl, fun _ _ _ z => nomatch z⟩
      | _ => unfold isE at h; cases h
    | _ => unfold isE at h; cases h
  | .str b, c, X, W, e, h, cf => by
    cases e with
    | Constant v j pos =>
      cases v with
      | str b' =>
        unfold isE at h
        rw [of_decide_eq_true h]
        exact ⟨se_str, st_plain se_str fun _ => rfl, fun _ _ _ z => nomatch z⟩
      | _ => unfold isE at h; cases h
    | _ => unfold isE at h; cases h
  | .var i, c, X, W, e, h, cf => by
    cases e with
    | Name x pos =>
      unfold isE at h
      obtain ⟨h, h3⟩ := ba h
      obtain ⟨h1, h2⟩ := ba h
      obtain ⟨d1, d2, d3⟩ := dbg1 h3
      have s : SE X W g (.var i) (.Name x pos) := se_var (by rw [cf.N]; exact of_decide_eq_true h1) (by rw [cf.sc]; exact isVis_ok h2) d1 d2
      exact ⟨s, st_plain s fun _ => rfl, fun _ _ _ z => nomatch z⟩
    | _ => unfold isE at h; cases h
  | .glob y, c, X, W, e, h, cf => by
    cases e with
    | Name x pos =>
      unfold isE at h
      obtain ⟨h, h4⟩ := ba h
      obtain ⟨h, h3⟩ := ba h
      obtain ⟨h1, h2⟩ := ba h
      obtain ⟨d1, d2, d3⟩ := dbg1 h3
      have e1 := of_decide_eq_true h1
      subst e1
      have s : SE X W g (.glob y) (.Name y pos) := se_glob (cf.gl h2) (fun d q => cf.wo.gl y d h4 q) d1
      exact ⟨s, st_plain s fun _ => rfl, fun _ _ _ z => nomatch z⟩
    | _ => unfold isE at h; cases h
  | .bty n, c, X, W, e, h, cf => by
    cases e with
    | Name x pos =>
      unfold isE at h
      obtain ⟨h, h4⟩ := ba h
      obtain ⟨h, h3⟩ := ba h
      obtain ⟨h1, h2⟩ := ba h
      obtain ⟨d1, d2, d3⟩ := dbg1 h2
      have s : SE X W g (.bty n) (.Name x pos) := se_bty (cf.gl h1) (cf.wo.free x h3) (of_decide_eq_true h4) d3 d1
      exact ⟨s, st_plain s fun _ => rfl, fun _ _ _ z => nomatch z⟩
    | _ => unfold isE at h; cases h
  | .bin o a b, c, X, W, e, h, cf => by
    cases e with
    | BinOp a' o' b' pos =>
      unfold isE at h
      obtain ⟨h, h3⟩ := ba h
      obtain ⟨h1, h2⟩ := ba h
      have e1 := of_decide_eq_true h1
      subst e1
      have s : SE X W g (.bin o a b) (.BinOp a' o b' pos) := se_bin (op_binW cf.owok cf.wo.isok cf.hxin cf.wo.xf) (sndE a c X W a' h2 cf).1 (sndE b c X W b' h3 cf).1
      exact ⟨s, st_plain s fun _ => rfl, fun _ _ _ z => nomatch z⟩
    | _ => unfold isE at h; cases h
  | .un o a, c, X, W, e, h, cf => by
    cases e with
    | UnaryOp o' a' pos =>
      cases o with
      | USub =>
        cases o' with
        | USub =>
          unfold isE at h
          have s : SE X W g (.un .USub a) (.UnaryOp .USub a' pos) := se_un cf.owok (sndE a c X W a' h cf).1 (.inl rfl)
          exact ⟨s, st_plain s fun _ => rfl, fun _ _ _ z => nomatch z⟩
        | _ => unfold isE at h; cases h
      | Invert =>
        cases o' with
        | Invert =>
          unfold isE at h
          have s : SE X W g (.un .Invert a) (.UnaryOp .Invert a' pos) := se_un cf.owok (sndE a c X W a' h cf).1 (.inr rfl)
          exact ⟨s, st_plain s fun _ => rfl, fun _ _ _ z => nomatch z⟩
        | _ => unfold isE at h; cases h
      | _ => cases o' <;> (unfold isE at h; cases h)
    | _ => cases o <;> (unfold isE at h; cases h)
  | .not a, c, X, W, e, h, cf => by
    cases e with
    | UnaryOp o' a' pos =>
      cases o' with
      | Not =>
        unfold isE at h
        obtain ⟨s1, s2, _⟩ := sndE a c X W a' h cf
        exact ⟨se_not s1, st_not s2, fun _ _ _ z => nomatch z⟩
      | _ => unfold isE at h; cases h
    | _ => unfold isE at h; cases h
  | .and a b, c, X, W, e, h, cf => by
    cases e with
    | BoolOp op vs pos =>
      match op, vs, h with
      | .And, a' :: b' :: [], h =>
        unfold isE at h
        obtain ⟨h1, h2⟩ := ba h
        obtain ⟨s1, s2, _⟩ := sndE a c X W a' h1 cf
        obtain ⟨t1, t2, _⟩ := sndE b c X W b' h2 cf
        have w : SW X W g (.and a b) (.BoolOp .And [a', b'] pos) := sw_and s2 (sw_and1 t2)
        exact ⟨se_and s1 (se_one t1), w.pt, fun _ _ _ _ => w⟩
      | .And, a' :: b' :: x :: r, h =>
        unfold isE at h
        obtain ⟨h1, h2⟩ := ba h
        obtain ⟨s1, s2, _⟩ := sndE a c X W a' h1 cf
        obtain ⟨t1, t2, t3⟩ := sndE b c X W (.BoolOp .And (b' :: x :: r) pos) h2 cf
        have w : SW X W g (.and a b) (.BoolOp .And (a' :: b' :: x :: r) pos) := sw_and s2 (t3 _ _ _ rfl)
        exact ⟨se_and s1 t1, w.pt, fun _ _ _ _ => w⟩
      | .And, [], h => unfold isE at h; cases h
      | .And, [_], h => unfold isE at h; cases h
      | .Or, _, h => unfold isE at h; cases h
    | _ => unfold isE at h; cases h
  | .or a b, c, X, W, e, h, cf => by
    cases e with
    | BoolOp op vs pos =>
      match op, vs, h with
      | .Or, a' :: b' :: [], h =>
        unfold isE at h
        obtain ⟨h1, h2⟩ := ba h
        obtain ⟨s1, s2, _⟩ := sndE a c X W a' h1 cf
        obtain ⟨t1, t2, _⟩ := sndE b c X W b' h2 cf
        have w : SW X W g (.or a b) (.BoolOp .Or [a', b'] pos) := sw_or s2 (sw_or1 t2)
        exact ⟨se_or s1 (se_one t1), w.pt, fun _ _ _ _ => w⟩
      | .Or, a' :: b' :: x :: r, h =>
        unfold isE at h
        obtain ⟨h1, h2⟩ := ba h
        obtain ⟨s1, s2, _⟩ := sndE a c X W a' h1 cf
        obtain ⟨t1, t2, t3⟩ := sndE b c X W (.BoolOp .Or (b' :: x :: r) pos) h2 cf
        have w : SW X W g (.or a b) (.BoolOp .Or (a' :: b' :: x :: r) pos) := sw_or s2 (t3 _ _ _ rfl)
        exact ⟨se_or s1 t1, w.pt, fun _ _ _ _ => w⟩
      | .Or, [], h => unfold isE at h; cases h
      | .Or, [_], h => unfold isE at h; cases h
      | .And, _, h => unfold isE at h; cases h
    | _ => unfold isE at h; cases h
  | .cmp o a b, c, X, W, e, h, cf => by
    cases e with
    | Compare a' os bs pos =>
      match os, bs, h with
      | [o'], [b'], h =>
        unfold isE at h
        obtain ⟨h, h4⟩ := ba h
        obtain ⟨h, h3⟩ := ba h
        obtain ⟨h1, h2⟩ := ba h
        have e1 := of_decide_eq_true h1
        subst e1
        have s1 := (sndE a c X W a' h2 cf).1
        have s2 := (sndE b c X W b' h3 cf).1
        exact ⟨se_cmp (op_cmpW cf.hu cf.owok cf.wo.isok cf.hxin cf.wo.xf) s1 s2 (noset_in h4), st_cmp (op_cmpW cf.hu cf.owok cf.wo.isok cf.hxin cf.wo.xf) s1 s2 (noset_in h4), fun _ _ _ z => nomatch z⟩
      | [], _, h => unfold isE at h; cases h
      | _ :: _ :: _, _, h => unfold isE at h; cases h
      | [_], [], h => unfold isE at h; cases h
      | [_], _ :: _ :: _, h => unfold isE at h; cases h
    | _ => unfold isE at h; cases h
  | .cmp2 o p a b d, c, X, W, e, h, cf => by
    cases e with
    | Compare a' os bs pos =>
      match os, bs, h with
      | [o', p'], [b', d'], h =>
        unfold isE at h
        obtain ⟨h, h6⟩ := ba h
        obtain ⟨h, h5⟩ := ba h
        obtain ⟨h, h4⟩ := ba h
        obtain ⟨h, h3⟩ := ba h
        obtain ⟨h1, h2⟩ := ba h
        have e1 := of_decide_eq_true h1
        have e2 := of_decide_eq_true h2
        subst e1 e2
        have s1 := (sndE a c X W a' h3 cf).1
        have s2 := (sndE b c X W b' h4 cf).1
        have s3 := (sndE d c X W d' h5 cf).1
        exact ⟨se_cmp2 cf.hu s1 s2 s3 (noset_in (o := p) h6), st_cmp2 cf.hu s1 s2 s3 (noset_in (o := p) h6), fun _ _ _ z => nomatch z⟩
      | [], _, h => unfold isE at h; cases h
      | [_], _, h => unfold isE at h; cases h
      | _ :: _ :: _ :: _, _, h => unfold isE at h; cases h
      | [_, _], [], h => unfold isE at h; cases h
      | [_, _], [_], h => unfold isE at h; cases h
      | [_, _], _ :: _ :: _ :: _, h => unfold isE at h; cases h
    | _ => unfold isE at h; cases h
  | .ife t a b, c, X, W, e, h, cf => by
    cases e with
    | IfExp t' a' b' pos =>
      unfold isE at h
      obtain ⟨h, h3⟩ := ba h
      obtain ⟨h1, h2⟩ := ba h
      obtain ⟨_, s1, _⟩ := sndE t c X W t' h1 cf
      obtain ⟨s2, u2, _⟩ := sndE a c X W a' h2 cf
      obtain ⟨s3, u3, _⟩ := sndE b c X W b' h3 cf
      exact ⟨se_ife s1 s2 s3, st_ife s1 u2 u3, fun _ _ _ z => nomatch z⟩
    | _ => unfold isE at h; cases h
  | .tup es, c, X, W, e, h, cf => by
    cases e with
    | Tuple es' x1 pos =>
      unfold isE at h
      have s : SE X W g (.tup es) (.Tuple es' x1 pos) := se_tup (sndEs es c X W es' h cf)
      exact ⟨s, st_plain s fun _ => rfl, fun _ _ _ z => nomatch z⟩
    | _ => unfold isE at h; cases h
  | .lst es, c, X, W, e, h, cf => by
    cases e with
    | List es' pos =>
      unfold isE at h
      have s : SE X W g (.lst es) (.List es' pos) := se_lst (sndEs es c X W es' h cf)
      exact ⟨s, st_plain s fun _ => rfl, fun _ _ _ z => nomatch z⟩
    | _ => unfold isE at h; cases h
  | .idx a i, c, X, W, e, h, cf => by
    cases e with
    | Subscript a' i' pos =>
      unfold isE at h
      obtain ⟨h, h3⟩ := ba h
      obtain ⟨h1, h2⟩ := ba h
      have s : SE X W g (.idx a i) (.Subscript a' i' pos) := se_idx (sndE a c X W a' h1 cf).1 (sndE i c X W i' h2 cf).1 (plain_ix h3)
      exact ⟨s, st_plain s fun _ => rfl, fun _ _ _ z => nomatch z⟩
    | _ => unfold isE at h; cases h
  | .sl a lo hi, c, X, W, e, h, cf => by
    cases e with
    | Subscript a' i' pos =>
      cases i' with
      | Slice lo' hi' st p2 =>
        cases st with
        | none =>
          unfold isE at h
          obtain ⟨h, h3⟩ := ba h
          obtain ⟨h1, h2⟩ := ba h
          have s : SE X W g (.sl a lo hi) (.Subscript a' (.Slice lo' hi' none p2) pos) := se_sl (sndE a c X W a' h1 cf).1 (sndO lo c X W lo' h2 cf) (sndO hi c X W hi' h3 cf)
          exact ⟨s, st_plain s fun _ => rfl, fun _ _ _ z => nomatch z⟩
        | some x => unfold isE at h; cases h
      | _ => unfold isE at h; cases h
    | _ => unfold isE at h; cases h
  | .attr a f, c, X, W, e, h, cf => by
    cases e with
    | Attribute a' f' pos =>
      unfold isE at h
      obtain ⟨h, h3⟩ := ba h
      obtain ⟨h1, h2⟩ := ba h
      have e1 := of_decide_eq_true h1
      subst e1
      have s : SE X W g (.attr a f) (.Attribute a' f pos) := se_attr (cf.ga f) (sndE a c X W a' h3 cf).1 (base_ok h2 _ _ _)
      exact ⟨s, st_plain s fun _ => rfl, fun _ _ _ z => nomatch z⟩
    | _ => unfold isE at h; cases h
  | .call f es, c, X, W, e, h, cf => by
    cases e with
    | Call fu es' kws pos =>
      cases fu with
      | Name x p =>
        cases kws with
        | nil =>
          unfold isE at h
          obtain ⟨h, h5⟩ := ba h
          obtain ⟨h, h4⟩ := ba h
          obtain ⟨h, h3⟩ := ba h
          obtain ⟨h1, h2⟩ := ba h
          have e1 := of_decide_eq_true h1
          subst e1
          obtain ⟨d1, d2, d3⟩ := dbg1 h3
          obtain ⟨a, fd, ps, k1, k2, k3, k4⟩ := cf.wo.cf f h4
          have sa := sndEs es c X W es' h5 cf
          have hst := allStar h5
          cases es' with
          | nil =>
            cases es with
            | nil =>
              have s : SE X W g (.call f []) (.Call (.Name f p) [] [] pos) := se_call0 (calls_of cf k3 k4) (cf.gl h2) k1 k2 d1
              exact ⟨s, st_plain s fun _ => rfl, fun _ _ _ z => nomatch z⟩
            | cons a as => unfold isEs at h5; cases h5
          | cons e' es' =>
            have s : SE X W g (.call f es) (.Call (.Name f p) (e' :: es') [] pos) := se_call (calls_of cf k3 k4) (cf.gl h2) k1 k2 sa d1 (star_cons hst _) (star_rest hst _ _)
            exact ⟨s, st_plain s fun _ => rfl, fun _ _ _ z => nomatch z⟩
        | cons y ys => unfold isE at h; cases h
      | _ => unfold isE at h; cases h
    | _ => unfold isE at h; cases h
  | .make f es, c, X, W, e, h, cf => by
    cases e with
    | Call fu es' kws pos =>
      cases fu with
      | Name x p =>
        cases kws with
        | nil =>
          unfold isE at h
          obtain ⟨h, h6⟩ := ba h
          obtain ⟨h, h5⟩ := ba h
          obtain ⟨h, h4⟩ := ba h
          obtain ⟨h, h3⟩ := ba h
          obtain ⟨h1, h2⟩ := ba h
          have e1 := of_decide_eq_true h1
          subst e1
          obtain ⟨d1, d2, d3⟩ := dbg1 h3
          obtain ⟨k1, k2, _⟩ := cf.wo.mak f h4
          have sa := sndEs es c X W es' h5 cf
          have hst := allStar h5
          cases es' with
          | nil => cases h6
          | cons e' es' =>
            have s : SE X W g (.make f es) (.Call (.Name f p) (e' :: es') [] pos) := se_make (calls_mk cf h4) (cf.gl h2) k1 k2 sa d1 (star_cons hst _) (star_rest hst _ _)
            exact ⟨s, st_plain s fun _ => rfl, fun _ _ _ z => nomatch z⟩
        | cons y ys => unfold isE at h; cases h
      | _ => unfold isE at h; cases h
    | _ => unfold isE at h; cases h
  | .meth o m es, c, X, W, e, h, cf => by
    cases e with
    | Call fu es' kws pos =>
      cases fu with
      | Attribute o' m' ap =>
        cases kws with
        | nil =>
          unfold isE at h
          obtain ⟨h, h6⟩ := ba h
          obtain ⟨h, h5⟩ := ba h
          obtain ⟨h, h4⟩ := ba h
          obtain ⟨h, h3⟩ := ba h
          obtain ⟨h1, h2⟩ := ba h
          have e1 := of_decide_eq_true h1
          subst e1
          have so := (sndE o c X W o' h3 cf).1
          have sa := sndEs es c X W es' h4 cf
          have hst := allStar h4
          cases es' with
          | nil =>
            cases es with
            | nil =>
              have s : SE X W g (.meth o m []) (.Call (.Attribute o' m ap) [] [] pos) := se_meth0 cf.mth so h2 h5
              exact ⟨s, st_plain s fun _ => rfl, fun _ _ _ z => nomatch z⟩
            | cons a as => unfold isEs at h4; cases h4
          | cons e' es' =>
            have s : SE X W g (.meth o m es) (.Call (.Attribute o' m ap) (e' :: es') [] pos) := se_meth cf.mth so sa h2 hst h5 (of_decide_eq_true h6)
            exact ⟨s, st_plain s fun _ => rfl, fun _ _ _ z => nomatch z⟩
        | cons y ys => unfold isE at h; cases h
      | _ => unfold isE at h; cases h
    | _ => unfold isE at h; cases h
  | .bi f es, c, X, W, e, h, cf => by
    cases e with
    | Call fu es' kws pos =>
      cases fu with
      | Name x p =>
        cases kws with
        | nil =>
          unfold isE at h
          obtain ⟨h, h5⟩ := ba h
          obtain ⟨h, h4⟩ := ba h
          obtain ⟨h, h3⟩ := ba h
          obtain ⟨h1, h2⟩ := ba h
          have e1 := of_decide_eq_true h1
          subst e1
          have sa := sndEs es c X W es' h4 cf
          have hst := allStar h4
          cases es' with
          | nil => cases h5
          | cons e' es' =>
            have s : SE X W g (.bi f es) (.Call (.Name (biName f) p) (e' :: es') [] pos) := se_bi cf.wo.isok cf.hxin cf.wo.xf cf.calm (cf.gl h2) (cf.wo.free _ h3) sa (star_cons hst _) (star_rest hst _ _)
            exact ⟨s, st_plain s fun _ => rfl, fun _ _ _ z => nomatch z⟩
        | cons y ys => unfold isE at h; cases h
      | _ => unfold isE at h; cases h
    | _ => unfold isE at h; cases h
  | .bm o m es, c, X, W, e, h, cf => by
    cases e with
    | Call fu es' kws pos =>
      cases fu with
      | Attribute o' m' ap =>
        cases kws with
        | nil =>
          unfold isE at h
          obtain ⟨h, h6⟩ := ba h
          obtain ⟨h, h5⟩ := ba h
          obtain ⟨h, h4⟩ := ba h
          obtain ⟨h, h3⟩ := ba h
          obtain ⟨h1, h2⟩ := ba h
          have e1 := of_decide_eq_true h1
          subst e1
          have so := (sndE o c X W o' h3 cf).1
          have sa := sndEs es c X W es' h4 cf
          have hst := allStar h4
          cases es' with
          | nil =>
            cases es with
            | nil =>
              have s : SE X W g (.bm o m []) (.Call (.Attribute o' (bmName m) ap) [] [] pos) := se_bm0 so h2 h5
              exact ⟨s, st_plain s fun _ => rfl, fun _ _ _ z => nomatch z⟩
            | cons a as => unfold isEs at h4; cases h4
          | cons e' es' =>
            have s : SE X W g (.bm o m es) (.Call (.Attribute o' (bmName m) ap) (e' :: es') [] pos) := se_bm so sa h2 hst h5 (of_decide_eq_true h6)
            exact ⟨s, st_plain s fun _ => rfl, fun _ _ _ z => nomatch z⟩
        | cons y ys => unfold isE at h; cases h
      | _ => unfold isE at h; cases h
    | _ => unfold isE at h; cases h
  | .fmt a, c, X, W, e, h, cf => by
    cases e with
    | FormattedValue a' n sp pos =>
      cases sp with
      | none =>
        unfold isE at h
        obtain ⟨h1, h2⟩ := ba h
        have e1 := of_decide_eq_true h1
        subst e1
        have s : SE X W g (.fmt a) (.FormattedValue a' (-1) none pos) := se_fmt (sndE a c X W a' h2 cf).1
        exact ⟨s, st_plain s fun _ => rfl, fun _ _ _ z => nomatch z⟩
      | some x => unfold isE at h; cases h
    | _ => unfold isE at h; cases h
  | .fstr es, c, X, W, e, h, cf => by
    cases e with
    | JoinedStr es' pos =>
      unfold isE at h
      obtain ⟨h1, h2⟩ := ba h
      have sj := sndJ es c X W es' h1 cf
      have h2 := of_decide_eq_true h2
      match es', sj, h2 with
      | v1 :: v2 :: rest, sj, _ =>
        have s : SE X W g (.fstr es) (.JoinedStr (v1 :: v2 :: rest) pos) := se_fstr sj
        exact ⟨s, st_plain s fun _ => rfl, fun _ _ _ z => nomatch z⟩
      | [], _, h2 => exact absurd h2 (by simp)
      | [_], _, h2 => exact absurd h2 (by simp)
    | _ => unfold isE at h; cases h
  | .lc el t own it ifs, c, X, W, e, h, cf => by
    cases e with
    | ListComp e' gs scope pos =>
      match gs, h with
      | [⟨tg, iter, ifs', n⟩], h =>
        unfold isE at h
        obtain ⟨h, h9⟩ := ba h
        obtain ⟨h, h8⟩ := ba h
        obtain ⟨h, h7⟩ := ba h
        obtain ⟨h, h6⟩ := ba h
        obtain ⟨h, h5⟩ := ba h
        obtain ⟨h, h4⟩ := ba h
        obtain ⟨h, h3⟩ := ba h
        obtain ⟨h1, h2⟩ := ba h
        have e1 := of_decide_eq_true h1
        subst e1
        have s : SE X W g (.lc el t own it ifs) (.ListComp e' [⟨tg, iter, ifs', 0⟩] scope pos) := by
          cases hot : g.hot with
          | true =>
            refine ⟨fun pins s σ H Q I hq => ?_⟩
            obtain ⟨ρ, hh, δ, rl, sl, p⟩ := rdE.re hq lc_E
            rw [hot] at p
            exact False.elim p
          | false =>
            have hc := cf.calm hot
            refine se_lc (ow := ownOf c.N own) (by unfold ownOf; rw [List.map_map]; exact List.map_id' own) (fun i hi => ?_) hot hc (by rw [cf.N]; exact cf.nd) (sndI it c X W tg iter h2 cf) (by rw [cf.N, cf.sc]; exact blkOk_by h4) (fun s H C cl fp => ?_) (fun s H C cl fp => ?_) (fun s H C cl fp => ?_) (fold_no h3 _)
            · have := List.all_eq_true.mp h5 i hi
              simpa using this
            · exact sndP (cf.blk hot s H scope cl C fp) hc t tg h6
            · have cb := cf.blk hot s H scope cl C fp
              match ifs, ifs', h7, h8 with
              | [], [], _, _ => exact sts_nil
              | [i], [i'], h7, _ =>
                unfold isEs at h7
                obtain ⟨h7, _⟩ := ba h7
                exact sts_one (sndE i (c.blk scope) _ W0 i' (ba h7).2 cb).2.1
              | [], _ :: _, h7, _ => unfold isEs at h7; cases h7
              | _ :: _, [], h7, _ => unfold isEs at h7; cases h7
              | _, _ :: _ :: _, _, h8 => exact absurd (of_decide_eq_true h8) (by simp)
              | _ :: _ :: _, [_], h7, _ => unfold isEs at h7; unfold isEs at h7; simp at h7
            · exact (sndE el (c.blk scope) _ W0 e' h9 (cf.blk hot s H scope cl C fp)).1
        exact ⟨s, st_plain s fun _ => rfl, fun _ _ _ z => nomatch z⟩
      | [], h => unfold isE at h; cases h
      | ⟨_, _, _, _⟩ :: _ :: _, h => unfold isE at h; cases h
    | _ => unfold isE at h; cases h
theorem sndEs : ∀ (As : List E) (c : SC) (X : Cx) (W : WX) (es : List Expr), isEs c As es = true → Cf X g W c k → SA X W g As es
  | [], c, X, W, [], h, cf => sa_nil
  | [], c, X, W, _ :: _, h, cf => by unfold isEs at h; cases h
  | _ :: _, c, X, W, [], h, cf => by unfold isEs at h; cases h
  | a :: as, c, X, W, e :: es, h, cf => by
    unfold isEs at h
    obtain ⟨h, h3⟩ := ba h
    obtain ⟨h1, h2⟩ := ba h
    exact sa_cons (sndE a c X W e h2 cf).1 (sndEs as c X W es h3 cf) (star1 h1 _ _)
theorem sndJ : ∀ (As : List E) (c : SC) (X : Cx) (W : WX) (es : List Expr), isEs c As es = true → Cf X g W c k → SJ X W g As es
  | [], c, X, W, [], h, cf => .nil
  | [], c, X, W, _ :: _, h, cf => by unfold isEs at h; cases h
  | _ :: _, c, X, W, [], h, cf => by unfold isEs at h; cases h
  | a :: as, c, X, W, e :: es, h, cf => by
    unfold isEs at h
    obtain ⟨h, h3⟩ := ba h
    obtain ⟨h1, h2⟩ := ba h
    exact .cons (sndE a c X W e h2 cf).1 (sndJ as c X W es h3 cf)
theorem sndO : ∀ (A : Option E) (c : SC) (X : Cx) (W : WX) (e : Option Expr), isO c A e = true → Cf X g W c k → SO X W g A e
  | none, c, X, W, none, h, cf => so_none
  | none, c, X, W, some _, h, cf => by unfold isO at h; cases h
  | some _, c, X, W, none, h, cf => by unfold isO at h; cases h
  | some a, c, X, W, some e, h, cf => by
    unfold isO at h
    exact so_some (sndE a c X W e h cf).1
theorem sndI : ∀ (A : Ip.It) (c : SC) (X : Cx) (W : WX) (tg e : Expr), isI c A e = true → Cf X g W c k → SI X W g A tg e
  | .e a, c, X, W, tg, e, h, cf => by
    unfold isI at h
    exact si_e (sndE a c X W e h cf).1
  | .rng [], c, X, W, tg, e, h, cf => by unfold isI at h; cases h
  | .rng [a], c, X, W, tg, e, h, cf => by
    cases e with
    | Call fu es' kws pos =>
      cases fu with
      | Name x p =>
        match es', kws, h with
        | [e'], [], h =>
          unfold isI at h
          obtain ⟨h, h5⟩ := ba h
          obtain ⟨h, h4⟩ := ba h
          obtain ⟨h, h3⟩ := ba h
          obtain ⟨h1, h2⟩ := ba h
          have e1 := of_decide_eq_true h1
          subst e1
          exact si_rng1 (cf.gl h2) (cf.wo.free _ h3) (sa_cons (sndE a c X W e' h5 cf).1 sa_nil (star1 h4 _ _)) h4
        | [], _, h => unfold isI at h; cases h
        | _ :: _ :: _, _, h => unfold isI at h; cases h
        | [_], _ :: _, h => unfold isI at h; cases h
      | _ => unfold isI at h; cases h
    | _ => unfold isI at h; cases h
  | .rng [a, b], c, X, W, tg, e, h, cf => by
    cases e with
    | Call fu es' kws pos =>
      cases fu with
      | Name x p =>
        match es', kws, h with
        | [e', e2], [], h =>
          unfold isI at h
          obtain ⟨h, h7⟩ := ba h
          obtain ⟨h, h6⟩ := ba h
          obtain ⟨h, h5⟩ := ba h
          obtain ⟨h, h4⟩ := ba h
          obtain ⟨h, h3⟩ := ba h
          obtain ⟨h1, h2⟩ := ba h
          have e1 := of_decide_eq_true h1
          subst e1
          exact si_rng2 (cf.gl h2) (cf.wo.free _ h3) (sa_cons (sndE a c X W e' h6 cf).1 (sa_cons (sndE b c X W e2 h7 cf).1 sa_nil (star1 h5 _ _)) (star1 h4 _ _)) h4 h5
        | [], _, h => unfold isI at h; cases h
        | [_], _, h => unfold isI at h; cases h
        | _ :: _ :: _ :: _, _, h => unfold isI at h; cases h
        | [_, _], _ :: _, h => unfold isI at h; cases h
      | _ => unfold isI at h; cases h
    | _ => unfold isI at h; cases h
  | .rng [a, b, d], c, X, W, tg, e, h, cf => by
    cases e with
    | Call fu es' kws pos =>
      cases fu with
      | Name x p =>
        match es', kws, h with
        | [e', e2, e3], [], h =>
          unfold isI at h
          obtain ⟨h, h9⟩ := ba h
          obtain ⟨h, h8⟩ := ba h
          obtain ⟨h, h7⟩ := ba h
          obtain ⟨h, h6⟩ := ba h
          obtain ⟨h, h5⟩ := ba h
          obtain ⟨h, h4⟩ := ba h
          obtain ⟨h, h3⟩ := ba h
          obtain ⟨h1, h2⟩ := ba h
          have e1 := of_decide_eq_true h1
          subst e1
          exact si_rng3 (cf.gl h2) (cf.wo.free _ h3) (sa_cons (sndE a c X W e' h7 cf).1 (sa_cons (sndE b c X W e2 h8 cf).1 (sa_cons (sndE d c X W e3 h9 cf).1 sa_nil (star1 h6 _ _)) (star_cons (by simp [List.all_cons, h5, h6]) _)) (star_cons (by simp [List.all_cons, h4, h5, h6]) _)) h4 h5 h6
        | [], _, h => unfold isI at h; cases h
        | [_], _, h => unfold isI at h; cases h
        | [_, _], _, h => unfold isI at h; cases h
        | _ :: _ :: _ :: _ :: _, _, h => unfold isI at h; cases h
        | [_, _, _], _ :: _, h => unfold isI at h; cases h
      | _ => unfold isI at h; cases h
    | _ => unfold isI at h; cases h
  | .rng (_ :: _ :: _ :: _ :: _), c, X, W, tg, e, h, cf => by unfold isI at h; cases h
end
end
end Ip
end
section
set_option Elab.async false
set_option linter.all false
set_option maxRecDepth 100000
set_option maxHeartbeats 1000000
/-! an error's own __init__: super().__init__(text), then its fields -/
namespace Ip
open PySem L2
/-- what the written part says of an error class at C and of its __init__ at f -/
structure XcOk (P : Program) (K : PySem.W.Frag) (C f : Addr) (F : NdefX.NF) : Prop where
  ex : OexC K C
  ini : PySem.W.findIn K (.ref C) "__init__" = some (some (.ref f))
  tyI : PySem.W.typeIn K (.ref f) = some (.type "function")
  fn : ∃ oc od osl doc pm ctv, K.lookup f = some ⟨oc, od, .func (F.fd doc pm ctv), osl⟩
  code : PySem.W.codeIn K (.ref F.c) F.qual = true
  file : ∃ ccl cdd vs ccs file tf, K.lookup F.c = some ⟨ccl, cdd, .fields vs, ccs⟩ ∧ vs[2]? = some (.str file tf) ∧ ((P.main.file : Str) == file) = true
  cell : ∃ cc cl cld csl, F.cl = [(("__class__" : Str), cc)] ∧ K.lookup cc = some ⟨cl, cld, .cell (some (.ref C)), csl⟩
  cls : ∃ cdD, PySem.W.clsIn K C = some cdD
  sup : PySem.W.ks_superIn K C C "__init__" = some (some (.builtin "ValueError.__init__"))
  self : PySem.W.mroIn K C (.ref C) = some true
  sub : PySem.W.subIn K (.ref C) (.type "ValueError") = some true
  opq : PySem.W.nsIn K cStatics "thirdparty.any" = some none
  top : (P.main.scope.names.lookup ("super" : Str)).isSome = false
  ks : F.scope.names.lookup ("super" : Str) = some .globalImplicit
  kc : F.scope.names.lookup ("__class__" : Str) = some .free
section
variable {CX : CXT} {P : Program} {w : World} {K : PySem.W.Frag} {mg : Str → Option Value} {base : Heap} {N : List Str} {F : NdefX.NF} {f C : Addr} {A : Around} {outer : List Env} {s0 : Shared} {H0 : Hp} {E : XK}
theorem super_init (x : XcOk P K C f F) (hk : F.scope.kind = .function) (hsup : mg "super" = none) {ar : Arg} (har : (F.params.posonlyargs ++ F.params.args).head? = some ar) (hN0 : N[0]? = some ar.arg) (hka : F.scope.names.lookup ar.arg = some .local)
    {body : List Stmt} {p0 p1 ap pos : Pos} {e : Expr} {te : TE} (hst : notStar e = true) (hl : (ap.endLine == pos.line) = true) {s : Shared} {σ : St} {H : Hp} {a : Addr} (I : L2.Inv (NdefX.ncx CX P w K mg base N F f A outer s0 H0 E) [] σ H s)
    (h0 : σ[0]? = some (some (.ref a))) (ha : H a = some (exo a C none)) (he : PE (NdefX.ncx CX P w K mg base N F f A outer s0 H0 E) e te) {Q : Hp → Prop} (hq : tCons te tNil σ H fun vs H1 => ∃ v, vs = [v] ∧ H1 a = some (exo a C none) ∧ Q H1) :
    wpAt (model P w) (NdefX.ncx CX P w K mg base N F f A outer s0 H0 E).A (.func body (NdefX.envF F f s0.heap.objs.size)) (eval (.Call (.Attribute (.Call (.Name "super" p0) [] [] p1) "__init__" ap) [e] [] pos) (NdefX.envF F f s0.heap.objs.size))
      (fun _ s' => ∃ H', L2.Inv (NdefX.ncx CX P w K mg base N F f A outer s0 H0 E) [] σ H' s' ∧ Q H') (NdefX.ncx CX P w K mg base N F f A outer s0 H0 E).xe s := by
  have KX : K.In s.heap := I.kIn
  obtain ⟨oc, od, osl, doc, pm, ctv, hfn⟩ := x.fn
  obtain ⟨ccl, cdd, vs, ccs, file, tf, hcode, hvs, hfile⟩ := x.file
  obtain ⟨cc, cl, cld, csl, hcl, hcell⟩ := x.cell
  obtain ⟨cdD, hcls⟩ := x.cls
  have hks : (NdefX.envF F f s0.heap.objs.size).kindOf "super" = some .globalImplicit := x.ks
  have hkc : (NdefX.envF F f s0.heap.objs.size).kindOf "__class__" = some .free := x.kc
  have hf : methodCallForm (([e] : List Expr).length + ([] : List Keyword).length) (backTo pos (starEach [e] (NdefX.envF F f s0.heap.objs.size))) (backToKw pos (keywordEach [] (NdefX.envF F f s0.heap.objs.size))) = true := by
    rw [star1 hst]; rfl
  refine PySem.ks_wpAt_MethodCall (pl := do return (← importBound (.Call (.Name "super" p0) [] [] p1) (NdefX.envF F f s0.heap.objs.size)).getD true) ?_ ?_
  rotate_left
  · show (do
      let ov ← attributeBase (.Call (.Name "super" p0) [] [] p1) "__init__" (NdefX.envF F f s0.heap.objs.size) (eval (.Call (.Name "super" p0) [] [] p1) (NdefX.envF F f s0.heap.objs.size))
      standAt ap.atName
      methodCall (.Call (.Name "super" p0) [] [] p1) "__init__" ap pos (NdefX.envF F f s0.heap.objs.size) ov (([e] : List Expr).length + ([] : List Keyword).length) (backTo pos (starEach [e] (NdefX.envF F f s0.heap.objs.size))) (backToKw pos (keywordEach [] (NdefX.envF F f s0.heap.objs.size)))) = _
    unfold methodCall calleeOf methodCallPos
    rw [hf, hl]
    rfl
  obtain ⟨oD, hD1, hD2⟩ : ∃ oD, s.heap.get? C = some oD ∧ oD.data = .cls cdD := by
    unfold PySem.W.clsIn at hcls
    split at hcls
    · rename_i ho
      cases hcls
      exact ⟨_, KX _ _ ho, rfl⟩
    · cases hcls
  obtain ⟨t1, hx⟩ := exo_at I.hok ha
  obtain ⟨m, hns, hlo⟩ := id I.loc
  have hself : m ar.arg = some (.ref a) := by
    obtain ⟨u, r, l⟩ := hlo 0 ar.arg (.ref a) hN0 h0 (.inl hka)
    rcases l with ⟨_, l⟩ | ⟨l, _⟩
    · rw [l, show u = Value.ref a from r]
    · have nl : ∀ k, F.scope.names.lookup ar.arg = some k → k ≠ .local → False := fun k q n => by rw [hka] at q; cases q; exact n rfl
      rcases l with l | l
      · exact (nl _ l (by decide)).elim
      · exact (nl _ l (by decide)).elim
  refine PySem.ks_wpAt_super_base (env := NdefX.envF F f s0.heap.objs.size) hks hkc (by decide) rfl (KX _ _ hfn) rfl har rfl (KX _ _ hcode) rfl hvs hfile x.top ?_
  obtain ⟨mb, b1, b2⟩ := I.mod.blt
  refine PySem.W.ks_loadName_global hk hks (PySem.Calls.loadGlobal_builtin (env := NdefX.envF F f s0.heap.objs.size) (I.mod.glob.keeps I.bk) hsup (b1.keeps I.bk) ((b2 _ (by decide +kernel)).trans (show bootBuiltins "super" = some (.type "super") by decide +kernel)) ⟨rfl, ?_⟩)
  refine wpAny_loadName_free hk hkc (show F.cl.lookup ("__class__" : Str) = some cc by rw [hcl]; rfl) ⟨_, KX _ _ hcell, rfl⟩ ?_
  refine wpAny_loadName_local hk hka hns hself ?_
  refine PySem.ks_wpAny_isType_cls hD1 hD2 ⟨rfl, ?_⟩
  obtain ⟨hh, gg, dd, tt, os⟩ := s
  refine PySem.ks_wpAny_call_super hD1 hD2 hx rfl (fun c z => by cases z) (PySem.W.looks_mroIn KX x.self) fun h' eso kp => ?_
  have I1 : L2.Inv (NdefX.ncx CX P w K mg base N F f A outer s0 H0 E) [] σ H ⟨h', gg, dd, tt, os⟩ := I.kept (t' := tt) kp
  have KX1 : K.In h' := I1.kIn
  have hx1 := kp _ _ hx
  have inst : PySem.W.InstAt h' a _ C none := ⟨hx1, rfl, rfl, True.intro⟩
  have hal : PySem.W.alongIn K "__init__" ((cdD.mro.dropWhile (· != .ref C)).drop 1) = some (some (.builtin "ValueError.__init__")) := by
    have q := x.sup
    unfold PySem.W.ks_superIn at q
    rw [hcls] at q
    exact q
  refine PySem.W.kxs_getMethod PySem.W.kxs_ValueError eso (PySem.W.looks_opaque KX1 x.opq) (l₀ := cdD.mro) ?_ rfl KX1 hal (inst.type.andThen (PySem.W.looks_subIn KX1 x.sub)) (PySem.W.ks_ne KX1 inst hcls) (by decide) ?_
  · exact fun A Q E s k q => wpAny_bind ((PySem.W.looks_clsIn KX1 hcls) A _ E s k (wpAny_pure q))
  -- the wrapper stands at u, nothing else has changed
  have hu : (h'.push (PySem.W.kxs_mw "ValueError.__init__" a)).get? h'.objs.size = some (PySem.W.kxs_mw "ValueError.__init__" a) := Heap.get?_push_size _ rfl
  have k2 : ∀ b u, h'.get? b = some u → (h'.push (PySem.W.kxs_mw "ValueError.__init__" a)).get? b = some u := fun b u q => Heap.get?_push_of_some _ q
  have I2 : L2.Inv (NdefX.ncx CX P w K mg base N F f A outer s0 H0 E) [] σ H ⟨h'.push (PySem.W.kxs_mw "ValueError.__init__" a), gg, dd, tt + 1, os⟩ := I1.kept (t' := tt + 1) k2
  have nu : H h'.objs.size = none := I1.hok.fresh (Nat.le_refl _)
  have I3 : L2.Inv (NdefX.ncx CX P w K mg base N F f A outer s0 H0 E) [(h'.objs.size, PySem.W.kxs_mw "ValueError.__init__" a)] σ H ⟨h'.push (PySem.W.kxs_mw "ValueError.__init__" a), gg, dd, tt + 1, os⟩ := by
    refine I2.pins_of fun p hp => ?_
    rw [List.mem_singleton] at hp
    subst hp
    exact ⟨hu, nu, Nat.ne_of_gt I1.lt, I1.nofs (Nat.le_refl _), fun v z => by cases z⟩
  refine PySem.W.kxs_callWith (i := "ValueError.__init__") (x := a) (by rw [star1 hst]; rfl) ?_
  rw [star1 hst]
  refine PySem.Calls.evalArgs_plain ?_
  have pa : PA (NdefX.ncx CX P w K mg base N F f A outer s0 H0 E) [e] (tCons te tNil) := pa_cons he pa_nil (star1 hst _ _)
  have run := pa.run pos _ _ σ H (fun vs H1 => ∃ v, vs = [v] ∧ H1 a = some (exo a C none) ∧ Q H1) I3 hq
  have run' : wpAny (model P w) (NdefX.ncx CX P w K mg base N F f A outer s0 H0 E).A (spliced (backTo pos (starEach [e] (NdefX.envF F f s0.heap.objs.size)))) _ _ _ := run
  rw [star1 hst] at run'
  refine wpAny_mono run' (fun us s3 hus => ?_) fun _ _ z => z
  obtain ⟨vs3, H3, I4, r3, v3, ev3, ha3, q3⟩ := hus
  have hw := (I4.pin _ (List.mem_append_right _ (List.mem_singleton.mpr rfl))).1
  refine ⟨hw, ?_⟩
  obtain ⟨nm, q, N', bs, bm, sn, sub, ab, col, dd', k0, k1, k2', k3, k5, hC, hbm⟩ := x.ex.cls
  obtain ⟨t3, hx3⟩ := exo_at I4.hok ha3
  have hC3 := I4.kIn _ _ hC
  have FB := PySem.F.excBase_ValueError
  have hz : us.length ≤ sizeLine := by
    rw [← r3.length, ev3]
    exact Nat.le_of_lt (small1000 (show 1 ≤ 1000 by decide))
  obtain ⟨h3, g3, d3, t3', os3⟩ := s3
  refine wpAny_call (codeAny_of_tree ?_)
  show wpAny _ (Around.in1 _) (callAny (.ref h'.objs.size) ⟨[] ++ us, []⟩) _ _ _
  simp only [callAny]
  refine wpAny_bind (wpAny_load hw ?_)
  simp only [PySem.W.kxs_mw]
  refine PySem.W.KFB.if_so (by decide) ?_
  refine wpAny_bind (PySem.W.check_bound_init FB.toExcCallFacts hC3 hx3 rfl ?_)
  refine wpAny_bind (wpAny_pure (wpAny_pure ?_))
  refine ⟨plainId_quiet FB.init.plain _, codeAny_builtin FB.initEntry ?_⟩
  refine PySem.W.exc_init_tree (cls := .ref C) (t0 := t3) (dv := none) (c2 := .none) (c3 := .none) (b4 := .bool false) hx3 hz fun h4 k4 e4 _ => ?_
  have J := I4.write (t' := t3') (x := a) (e := a) (o := exo a C none) (by rw [ha3]; exact True.intro) (.inl rfl) k4 ⟨_, e4⟩ (exo_ok e4)
  have eu : upd H3 a (exo a C none) = H3 := by
    funext b
    by_cases hb : b = a
    · rw [hb, upd_same, ha3]
    · rw [upd_ne hb]
  rw [eu] at J
  exact ⟨H3, J.pins_of (fun p hp => by cases hp), q3⟩
end
/-! ### the fields -/
def tSt (K : PySem.W.Frag) : List (Str × Nat) → TS
  | [] => tNext
  | (f, i) :: r => tSeq (tOst K f (tVar 0) (tVar i)) (tSt K r)
def isSt (c : SC) : List (Str × Nat) → List Stmt → Bool
  | [], [] => true
  | (f, i) :: r, .Assign [.Attribute o f' _] v _ :: ss => decide (f = f') && isE c (.var 0) o && isE c (.var i) v && isSt c r ss
  | _, _ => false
theorem isE_var {c : SC} {i : Nat} {e : Expr} (h : isE c (.var i) e = true) : ∃ x pos, e = .Name x pos ∧ c.N[i]? = some x ∧ Vis c.sc x ∧ (x == ("__debug__" : Str)) = false ∧ (x == ("__classdict__" : Str)) = false := by
  cases e with
  | Name x pos =>
    unfold isE at h
    obtain ⟨h, h3⟩ := ba h
    obtain ⟨h1, h2⟩ := ba h
    obtain ⟨d1, d2, d3⟩ := dbg1 h3
    exact ⟨x, pos, rfl, of_decide_eq_true h1, isVis_ok h2, d1, d2⟩
  | _ => unfold isE at h; cases h
theorem st_ok {X : Cx} {c : SC} (hN : X.N = c.N) (hsc : X.env.scope = c.sc) : ∀ (fs : List (Str × Nat)) (sts : List Stmt), isSt c fs sts = true → PSs X sts (tSt X.K fs)
  | [], [], _ => pss_nil
  | [], _ :: _, h => by unfold isSt at h; cases h
  | (f, i) :: r, [], h => by unfold isSt at h; cases h
  | (f, i) :: r, st :: ss, h => by
    cases st with
    | Assign tgs v pos =>
      match tgs, h with
      | [.Attribute o f' p], h =>
        unfold isSt at h
        obtain ⟨h, h4⟩ := ba h
        obtain ⟨h, h3⟩ := ba h
        obtain ⟨h1, h2⟩ := ba h
        have e1 := of_decide_eq_true h1
        subst e1
        obtain ⟨x, px, rfl, n1, v1, d1, d2⟩ := isE_var h2
        obtain ⟨y, py, rfl, n2, v2, d3, d4⟩ := isE_var h3
        refine pss_cons (ps_ost (pe_var (by rw [hN]; exact n1) (by rw [hsc]; exact v1) d1 d2) (pe_var (by rw [hN]; exact n2) (by rw [hsc]; exact v2) d3 d4) rfl) (st_ok hN hsc r ss h4)
      | [], h => unfold isSt at h; cases h
      | tg :: _ :: _, h => cases tg <;> (unfold isSt at h; cases h)
      | [.Name _ _], h => unfold isSt at h; cases h
      | [.Tuple _ _ _], h => unfold isSt at h; cases h
      | [.Subscript _ _ _], h => unfold isSt at h; cases h
      | [.BoolOp _ _ _], h => unfold isSt at h; cases h
      | [.NamedExpr _ _ _], h => unfold isSt at h; cases h
      | [.BinOp _ _ _ _], h => unfold isSt at h; cases h
      | [.UnaryOp _ _ _], h => unfold isSt at h; cases h
      | [.Lambda _ _ _ _], h => unfold isSt at h; cases h
      | [.IfExp _ _ _ _], h => unfold isSt at h; cases h
      | [.Dict _ _ _], h => unfold isSt at h; cases h
      | [.Set _ _ _], h => unfold isSt at h; cases h
      | [.ListComp _ _ _ _], h => unfold isSt at h; cases h
      | [.SetComp _ _ _ _], h => unfold isSt at h; cases h
      | [.DictComp _ _ _ _ _], h => unfold isSt at h; cases h
      | [.GeneratorExp _ _ _ _], h => unfold isSt at h; cases h
      | [.Await _ _], h => unfold isSt at h; cases h
      | [.Yield _ _], h => unfold isSt at h; cases h
      | [.YieldFrom _ _], h => unfold isSt at h; cases h
      | [.Compare _ _ _ _], h => unfold isSt at h; cases h
      | [.Call _ _ _ _], h => unfold isSt at h; cases h
      | [.FormattedValue _ _ _ _], h => unfold isSt at h; cases h
      | [.JoinedStr _ _], h => unfold isSt at h; cases h
      | [.Constant _ _ _], h => unfold isSt at h; cases h
      | [.Starred _ _], h => unfold isSt at h; cases h
      | [.List _ _], h => unfold isSt at h; cases h
      | [.Slice _ _ _ _], h => unfold isSt at h; cases h
    | _ => unfold isSt at h; cases h
section
variable {K : PySem.W.Frag} {C a : Addr} {σ : St} {Dd : Ends}
/-- behind the first store -/
theorem st_old (T : OexC K C) (h0 : σ[0]? = some (some (.ref a))) {dx : Addr} : ∀ (fs : List (Str × Nat)) (vs : List V) (acc : List (Str × V)) (H : Hp), (∀ p ∈ fs, PySem.W.findIn K (.ref C) p.1 = some none) → fs.length = vs.length → (∀ (j : Nat) p v, fs[j]? = some p → vs[j]? = some v → σ[p.2]? = some (some v)) →
    H a = some (exo a C (some dx)) → H dx = some (exd dx acc) → a ≠ dx → acc.length + fs.length ≤ 900 →
    (∀ H', H' a = some (exo a C (some dx)) → H' dx = some (exd dx (((fs.map (·.1)).zip vs).reverse ++ acc)) → (∀ b, b ≠ dx → H' b = H b) → Dd.nx σ H') → tSt K fs Dd σ H
  | [], vs, acc, H, _, hl, _, ha, hd, _, _, k => by
    have : vs = [] := by cases vs with
      | nil => rfl
      | cons => cases hl
    subst this
    exact k H ha hd fun _ _ => rfl
  | (f, i) :: r, [], acc, H, _, hl, _, ha, hd, _, _, k => by cases hl
  | (f, i) :: r, v :: vs, acc, H, hf, hl, hv, ha, hd, nad, hz, k => by
    have hi : σ[i]? = some (some v) := hv 0 (f, i) v rfl rfl
    refine ⟨v, hi, _, h0, a, C, rfl, T, hf (f, i) (List.mem_cons_self ..), .inr ⟨dx, acc, ha, hd, by simp at hz; omega, ?_⟩⟩
    refine st_old T h0 r vs ((f, v) :: acc) _ (fun p hp => hf p (List.mem_cons_of_mem _ hp)) (by simpa using hl) (fun j p w h1 h2 => hv (j + 1) p w (by simpa using h1) (by simpa using h2)) (by rw [upd_ne nad]; exact ha) upd_same nad (by simp at hz ⊢; omega) fun H' k1 k2 k3 => ?_
    refine k H' k1 ?_ fun b hb => by rw [k3 b hb, upd_ne hb]
    rw [k2]
    simp
/-- all of them -/
theorem st_new (T : OexC K C) (h0 : σ[0]? = some (some (.ref a))) {f : Str} {i : Nat} {r : List (Str × Nat)} {v : V} {vs : List V} {H : Hp} (hf : ∀ p ∈ (f, i) :: r, PySem.W.findIn K (.ref C) p.1 = some none) (hl : r.length = vs.length)
    (hv : ∀ (j : Nat) p w, ((f, i) :: r)[j]? = some p → (v :: vs)[j]? = some w → σ[p.2]? = some (some w)) (ha : H a = some (exo a C none)) (hz : r.length ≤ 800)
    (k : ∀ dx H', H dx = none → dx ≠ a → H' a = some (exo a C (some dx)) → H' dx = some (exd dx ((((f, i) :: r).map (·.1)).zip (v :: vs)).reverse) → (∀ b, b ≠ a → b ≠ dx → H' b = H b) → Dd.nx σ H') : tSt K ((f, i) :: r) Dd σ H := by
  have hi : σ[i]? = some (some v) := hv 0 (f, i) v rfl rfl
  refine ⟨v, hi, _, h0, a, C, rfl, T, hf (f, i) (List.mem_cons_self ..), .inl ⟨ha, fun dx hn ne => ?_⟩⟩
  refine st_old T h0 r vs [(f, v)] _ (fun p hp => hf p (List.mem_cons_of_mem _ hp)) hl (fun j p w h1 h2 => hv (j + 1) p w (by simpa using h1) (by simpa using h2)) upd_same (by rw [upd_ne ne, upd_same]) ne.symm (by simp; omega) fun H' k1 k2 k3 => ?_
  refine k dx H' hn ne k1 ?_ fun b h1 h2 => by rw [k3 b h2, upd_ne h1, upd_ne h2]
  rw [k2]
  simp
end
/-! ### the promise of such an __init__ -/
def scX (N : List Str) (sc : Scope) : SC := ⟨sc, fun _ => false, N, [], [], [], [], [], []⟩
theorem wo0 {X : Cx} {N : List Str} {sc : Scope} {k : Nat} : Wo X g0 (scX N sc) k where
  isok := ⟨(fun _ _ _ h => nomatch h), (fun _ h => nomatch h)⟩
  fld := fun _ _ h => by cases h
  gl := fun _ _ h => by cases h
  free := fun _ h => by cases h
  cf := fun _ h => by cases h
  mak := fun _ h => by cases h
  xf := ⟨fun _ _ h => (nomatch h), fun _ h => (nomatch h)⟩
  prp := fun _ _ h => (nomatch h)
  exm := fun _ h => by cases h
  ch := fun _ _ _ h => by cases h
  chm := fun _ _ _ _ h => by cases h
  mth := fun _ _ h => by cases h
  xcm := fun _ h => by cases h
  xc := fun _ _ _ h => by cases h
  ows := ⟨fun _ _ h => (nomatch h), fun _ _ h => (nomatch h), fun _ h => (nomatch h), fun _ _ h => (nomatch h)⟩
  ow := fun _ _ h => by
    rcases h with ⟨_, h, _⟩ | ⟨_, h, _⟩ | ⟨h, _⟩ | ⟨_, h, _⟩ <;> cases h
  owh := fun _ _ _ _ h => by
    rcases h with ⟨_, h, _⟩ | ⟨_, h, _⟩ | ⟨h, _⟩ | ⟨_, h, _⟩ <;> cases h
  own := fun _ _ h => (nomatch h)
def isX (N : List Str) (sc : Scope) (arg : E) (fs : List (Str × Nat)) : List Stmt → Bool
  | .Expr (.Call (.Attribute (.Call (.Name sp _) [] [] _) m ap) [e] [] pos) _ :: rest => decide (sp = "super") && decide (m = "__init__") && notStar e && (ap.endLine == pos.line) && isE (scX N sc) arg e && isSt (scX N sc) fs rest
  | _ => false
theorem isX_parts {N : List Str} {sc : Scope} {arg : E} {fs : List (Str × Nat)} {body : List Stmt} (h : isX N sc arg fs body = true) : ∃ p0 p1 ap e pos p2 rest, body = .Expr (.Call (.Attribute (.Call (.Name "super" p0) [] [] p1) "__init__" ap) [e] [] pos) p2 :: rest ∧
    notStar e = true ∧ (ap.endLine == pos.line) = true ∧ isE (scX N sc) arg e = true ∧ isSt (scX N sc) fs rest = true := by
  unfold isX at h
  split at h
  · obtain ⟨h, h6⟩ := ba h
    obtain ⟨h, h5⟩ := ba h
    obtain ⟨h, h4⟩ := ba h
    obtain ⟨h, h3⟩ := ba h
    obtain ⟨h1, h2⟩ := ba h
    have e1 := of_decide_eq_true h1
    have e2 := of_decide_eq_true h2
    subst e1 e2
    exact ⟨_, _, _, _, _, _, _, rfl, h3, h4, h5, h6⟩
  · cases h
theorem fslots_get {fs : List Str} {j : Nat} {p : Str × Nat} (h : (fslots fs)[j]? = some p) : p.2 = j + 1 := by
  unfold fslots at h
  rw [List.getElem?_zipWith] at h
  split at h
  · rename_i a b e1 e2
    cases h
    rw [List.getElem?_range] at e1
    · cases e1; rfl
    · have := (List.getElem?_eq_some_iff.mp e1).1
      simpa using this
  · cases h
theorem fslots_len (fs : List Str) : (fslots fs).length = fs.length := by unfold fslots; simp
theorem rsl_args {K : PySem.W.Frag} {ρ : List Addr} {H : Hp} {ds : List D} {vs : List V} (r : RVs K ρ H ds vs) (n : Nat) : RSl K ρ H (ds.map some ++ List.replicate n none) (vs.map some ++ List.replicate n none) := by
  refine ⟨by simp [r.length], fun i d e => ?_⟩
  by_cases hi : i < ds.length
  · rw [List.getElem?_append_left (by simpa using hi), List.getElem?_map] at e
    cases q : ds[i]? with
    | none => rw [q] at e; cases e
    | some d' =>
      rw [q] at e
      cases e
      obtain ⟨v, ev, rv⟩ := r.get q
      refine ⟨v, ?_, rv⟩
      rw [List.getElem?_append_left (by rw [List.length_map, r.length]; exact hi), List.getElem?_map, ev]
      rfl
  · rw [List.getElem?_append_right (by simpa using hi), List.getElem?_replicate] at e
    split at e <;> cases e
theorem RSl.consN {K : PySem.W.Frag} {ρ : List Addr} {H : Hp} {δ : Sl} {σ : St} (s : RSl K ρ H δ σ) (o : Option V) : RSl K ρ H (none :: δ) (o :: σ) := by
  refine ⟨by simp [s.1], fun i d e => ?_⟩
  cases i with
  | zero => cases e
  | succ i => exact s.2 i d e
theorem xinit_ok {P : Program} {w : World} {K : PySem.W.Frag} {mg : Str → Option Value} {base : Heap} {F : NdefX.NF} {f C : Addr} {k : Nat} {fl : List Str} {arg : E} {ar : Arg} (x : XcOk P K C f F) (S : NdefX.NScope (xN fl) (xP fl) xR F.scope) (hne : fl ≠ []) (hlen : fl.length ≤ 100)
    (hsup : mg "super" = none) (har : (F.params.posonlyargs ++ F.params.args).head? = some ar) (hars : ar.arg = ("self" : Str)) (hX : isX (xN fl) F.scope arg (fslots fl) F.body = true) (hno : ∀ p ∈ fslots fl, PySem.W.findIn K (.ref C) p.1 = some none)
    {doc pm ctv oc : Value} {od : Option Addr} {osl : Array (Option Value)} (lk : K.lookup f = some ⟨oc, od, .func (F.fd doc pm ctv), osl⟩) :
    FnOk P w K mg base (L2N.CX P w) (k + 1) f (F.fd doc pm ctv) (xP fl) (spX K C (fslots fl) arg) := by
  refine ⟨fun vs H Q E h => ?_, fun A outer s H args us vs Q E hr e0 hb r hsp => ?_⟩
  · obtain ⟨a, vs', ρ, h, ds, d, h', rfl, hl, _⟩ := h
    rw [List.length_cons, List.length_cons, hl, fslots_len]
  · have KX : K.In s.heap := e0.mod.kin.keeps fun b o e => (e0.bs b o e).1
    have lim : s.heap.NoLimit := e0.mod.nolimit.keeps fun b o e => (e0.bs b o e).1
    obtain ⟨cc, cl, cld, csl, hcl, hcell⟩ := x.cell
    refine PySem.ks_codeAny_call_defAt hr.depth (KX _ _ lk) rfl lim (PySem.W.codeRec_of KX x.code) rfl hb S.nocell (fun y hy => S.par y.1 (List.of_mem_zip hy).1) (fun h₁ hns kp => ?_) S.co S.gen S.kind
    obtain ⟨a, vs', ρ, h, ds, d, h', rfl, hl, rl, na, rs, ha, hev, kk⟩ := hsp
    have hvl : (V.ref a :: vs').length = (xP fl).length := by rw [List.length_cons, List.length_cons, hl, fslots_len]
    have CA : NdefX.CellsAt F.cl xR [none] s.heap H := by
      have only : ∀ y c, F.cl.lookup y = some c → c = cc := fun y c e => by
        rw [hcl, List.lookup_cons] at e
        split at e
        · cases e; rfl
        · cases e
      have fr : H cc = none := (e0.bs _ _ (e0.mod.kin _ _ hcell)).2
      refine ⟨rfl, fun y c e => ?_, fun y z c e1 e2 => ?_, fun i y e => ?_⟩
      · rw [only y c e]
        exact ⟨fr, _, _, KX _ _ hcell, rfl⟩
      · rw [hcl, List.lookup_cons] at e1 e2
        split at e1
        · rename_i b1
          split at e2
          · rename_i b2
            rw [eq_of_beq b1, eq_of_beq b2]
          · cases e2
        · cases e1
      · cases i with
        | zero =>
          cases e
          exact ⟨cc, by rw [hcl]; rfl, fun v z => by cases z⟩
        | succ i => cases e
    have I := NdefX.inv_startN (CX := L2N.CX P w) (E := E) (f := f) (tk := s.toks + ((xP fl).zip us).length) S hr.hd e0 hvl r CA hns kp
    obtain ⟨p0, p1, ap, e, pos, p2, rest, hbd, h1, h2, h3, h4⟩ := isX_parts hX
    have hN0 : (xN fl)[0]? = some ar.arg := by rw [hars]; rfl
    have hka : F.scope.names.lookup ar.arg = some .local := by rw [hars]; exact S.par _ (List.mem_cons_self ..)
    -- the slots
    have hlr : ds.length = vs'.length := rs.length.symm
    have hst : NdefX.startF (xN fl) (V.ref a :: vs') [none] = some (V.ref a) :: (vs'.map some ++ [none]) := by
      unfold NdefX.startF
      have e1 : (xN fl).length - (V.ref a :: vs').length - ([none] : List (Option V)).length = 0 := by
        simp only [List.length_cons, List.length_append, List.length_nil]
        rw [hl, fslots_len]
        omega
      rw [e1]
      simp
    rw [hst] at I
    have h0 : (some (V.ref a) :: (vs'.map some ++ [none]))[0]? = some (some (V.ref a)) := rfl
    have cf : Cf (NdefX.ncx (L2N.CX P w) P w K mg base (xN fl) F f A outer s H E) g0 W0 (scX (xN fl) F.scope) k := by
      refine ⟨rfl, S.nd, rfl, fun _ => rfl, ?_, fun _ => rfl, fun _ => hr.deeper _, (fun z => nomatch z), takes0, wo0⟩
      have := (hr.deeper (NdefX.envF F f s.heap.objs.size)).un
      show (A.deeper (NdefX.envF F f s.heap.objs.size)).units + 64 < cLine
      omega
    have sarg := (sndE arg (scX (xN fl) F.scope) _ W0 e h3 cf).1
    have hq : tCons (rdE K W0 (evalE g0 arg)) tNil (some (V.ref a) :: (vs'.map some ++ [none])) H fun vs H1 => ∃ v, vs = [v] ∧ H1 a = some (exo a C none) ∧ ∃ ρ1, Ex ρ ρ1 H H1 ∧ Rl K ρ1 h' H1 := by
      refine ⟨ρ, h, none :: (ds.map some ++ [none]), rl, (rsl_args rs 1).consN _, ?_⟩
      rw [hev]
      exact fun ρ1 H1 v ex rl1 rv => ⟨v, rfl, ex.kp _ _ ha na, ρ1, ex, rl1⟩
    have key : wpAt (model P w) (NdefX.ncx (L2N.CX P w) P w K mg base (xN fl) F f A outer s H E).A (.func F.body (NdefX.envF F f s.heap.objs.size)) (execs F.body (NdefX.envF F f s.heap.objs.size))
        (fun fw s' => fw = .next ∧ ∃ σ' H', L2.Inv (NdefX.ncx (L2N.CX P w) P w K mg base (xN fl) F f A outer s H E) [] σ' H' s' ∧ Q .non H') (NdefX.ncx (L2N.CX P w) P w K mg base (xN fl) F f A outer s H E).xe { s with heap := h₁, toks := s.toks + ((xP fl).zip us).length } := by
      have eb : execs F.body (NdefX.envF F f s.heap.objs.size) = execs (.Expr (.Call (.Attribute (.Call (.Name "super" p0) [] [] p1) "__init__" ap) [e] [] pos) p2 :: rest) (NdefX.envF F f s.heap.objs.size) := by rw [hbd]
      rw [eb]
      refine PySem.ks_wpAt_execs_cons (PySem.ks_wpAt_Expr_any (wpAt_mono (super_init x S.kind hsup har hN0 hka h1 h2 I h0 ha sarg hq) (fun _ s2 hs2 => ?_) fun _ _ z => z) I.quiet rfl)
      obtain ⟨H1, I1, ρ1, ex1, rl1⟩ := hs2
      have ha1 : H1 a = some (exo a C none) := ex1.kp _ _ ha na
      refine wpAt_of_wpAny (wpAny_mono ((st_ok (c := scX (xN fl) F.scope) rfl rfl (fslots fl) rest h4).run [] s2 _ H1 { nx := fun _ H' => Q .non H', rt := fun _ _ => False } I1 ?_) (fun fw s3 hs3 => ?_) fun _ _ z => z)
      · cases fl with
        | nil => exact absurd rfl hne
        | cons f1 fr =>
          cases hvs : vs' with
          | nil => rw [hvs] at hl; rw [fslots_len] at hl; cases hl
          | cons v1 vr =>
            subst hvs
            have efs : fslots (f1 :: fr) = (f1, 1) :: (fslots (f1 :: fr)).drop 1 := by
              unfold fslots
              rw [List.length_cons, List.range_succ_eq_map]
              rfl
            have hlr2 : ((fslots (f1 :: fr)).drop 1).length = vr.length := by
              rw [List.length_drop, ← hl]; rfl
            rw [efs]
            refine st_new x.ex h0 (fun p hp => hno p (by rw [efs]; exact hp)) hlr2 (fun j p v q1 q2 => ?_) ha1 (by rw [hlr2]; have := hl; rw [fslots_len] at this; simp at this hlen; omega) fun dx H' n1 n2 n3 n4 n5 => kk ρ1 H1 dx H' ex1 rl1 n1 n2 n3 (by rw [efs]; exact n4) n5
            rw [← efs] at q1
            rw [fslots_get q1, List.getElem?_cons_succ, List.getElem?_append_left (by rw [List.length_map]; exact (List.getElem?_eq_some_iff.mp q2).1), List.getElem?_map, q2]
            rfl
      · cases fw with
        | next =>
          obtain ⟨σ', H', J, q⟩ := hs3
          exact ⟨rfl, σ', H', J, q⟩
        | ret u => obtain ⟨v, σ', H', J, rv, q⟩ := hs3; exact q.elim
        | brk => obtain ⟨σ', H', J, q⟩ := hs3; exact q.elim
        | cont => obtain ⟨σ', H', J, q⟩ := hs3; exact q.elim
    refine wpAt_mono key (fun fw s' hs => ?_) fun e s' z => z
    obtain ⟨rfl, σ', H', J, q⟩ := hs
    exact ⟨V.non, H', J.os, J.bare, J.base, J.hok, rfl, q⟩
end Ip
end
section
set_option Elab.async false
set_option linter.all false
set_option maxRecDepth 100000
set_option maxHeartbeats 1000000
/-! raise -/
namespace Ip
open PySem L2
section
variable {K : PySem.W.Frag} {ρ ρ' : List Addr} {h : Hs} {H H' : Hp}
/-- one object goes that the machine does not hold -/
theorem Rl.moved (r : Rl K ρ h H) {a : Addr} {u : HO} (hu : H a = some u) (na : a ∉ ρ) (ht : ∀ vs, u ≠ .tup vs) (hf : ∀ o w, u ≠ .frz o w) (hx : ∀ fs, u ≠ .xd fs) (k : ∀ p o, H p = some o → p ≠ a → H' p = some o) : Rl K ρ h H' ∧ St' K ρ ρ H H' := by
  have st : St' K ρ ρ H H' := by
    refine ⟨fun _ _ e => e, fun q vs e => ?_, fun q vs e => ?_, fun q fs e => k q _ e fun z => by subst z; rw [hu] at e; exact hx fs (Option.some.inj e)⟩
    · rcases e with e | e
      · exact .inl (k q _ e fun z => by subst z; rw [hu] at e; exact ht vs (Option.some.inj e))
      · exact .inr e
    · rcases e with ⟨o, e⟩ | e
      · exact .inl ⟨o, k q _ e fun z => by subst z; rw [hu] at e; exact hf _ _ (Option.some.inj e)⟩
      · exact .inr e
  refine ⟨⟨r.nd, r.len, fun i o q e1 e2 => ?_⟩, st⟩
  have ro := r.ob i o q e1 e2
  obtain ⟨u', e'⟩ := ro.some
  refine ro.st st ?_
  rw [k q u' e' fun z => na (z ▸ List.mem_of_getElem? e2), e']
theorem RF.append : ∀ {as bs : List (Str × D)} {vs ws : List (Str × V)}, RF K ρ H as vs → RF K ρ H bs ws → RF K ρ H (as ++ bs) (vs ++ ws)
  | [], _, _, _, e, b => by rw [show _ = [] from e]; exact b
  | (f, d) :: ds, _, _, _, ⟨v, r, e, a, q⟩, b => by rw [e]; exact ⟨v, _, rfl, a, RF.append q b⟩
theorem RF.reverse : ∀ {as : List (Str × D)} {vs : List (Str × V)}, RF K ρ H as vs → RF K ρ H as.reverse vs.reverse
  | [], _, e => by rw [show _ = [] from e]; rfl
  | (f, d) :: ds, _, ⟨v, r, e, a, q⟩ => by
    rw [e, List.reverse_cons, List.reverse_cons]
    exact (RF.reverse q).append ⟨v, [], rfl, a, rfl⟩
theorem RF.zip : ∀ (fl : List Str) {ds : List D} {vs : List V}, RVs K ρ H ds vs → RF K ρ H (fl.zip ds) (fl.zip vs)
  | [], _, _, _ => rfl
  | f :: fl, [], _, e => by rw [show _ = [] from e]; rfl
  | f :: fl, d :: ds, _, ⟨v, r, e, a, q⟩ => by rw [e]; exact ⟨v, _, rfl, a, RF.zip fl q⟩
end
theorem fslots_map (fl : List Str) : (fslots fl).map (·.1) = fl := by
  unfold fslots
  apply List.ext_getElem?
  intro i
  rw [List.getElem?_map, List.getElem?_zipWith]
  by_cases hi : i < fl.length
  · rw [List.getElem?_range hi]
    simp [hi]
  · rw [List.getElem?_eq_none (by simpa using hi), List.getElem?_eq_none (by simpa using hi)]
    rfl
/-- C(e, ..): an error that has no context -/
theorem pmkN {X : Cx} {x : Str} {e : Expr} {es : List Expr} {ta : TA} {p pos : Pos} {C fI : Addr} {k : Nat} {fd : FuncData} {ps : List Str} {sp : Sp} (T : OexC X.K C) (iC : PySem.W.findIn X.K (.ref C) "__init__" = some (some (.ref fI)))
    (tI : PySem.W.typeIn X.K (.ref fI) = some (.type "function")) (F1 : FnOk X.prog X.w X.K X.mg X.base (L2N.CX X.prog X.w) k fI fd ps sp) (room : Room (k + 1) X.A) (bnds : Binds X.K fd ps []) (hg : Gl X x) (hm : X.mg x = some (.ref C)) (ha : PA X (e :: es) ta)
    (hdb : (x == ("__debug__" : Str)) = false) (he : starEach (e :: es) X.env = (false, eval e X.env) :: starEach es X.env) (hpl : (backTo pos (starEach es X.env)).any (·.1) = false) : L2N.PMk X (.Call (.Name x p) (e :: es) [] pos) (tMkO C sp [] ta) := by
  intro pins s σ H Q I want
  obtain ⟨_, _, _, _, bm, _, _, _, _, _, _, _, _, _, _, atC, okB⟩ := T.cls
  refine wpAny_Call_Name_kw (ld_glob I hg hm (PySem.W.callWith_K (h₀ := X.base) I.ok.mod.kin T.kC (thn (ha.run pos pins s σ H _ I want) fun us s1 got => ?_) he hpl) hdb)
  obtain ⟨vs, H1, I1, rel, few, next⟩ := got
  refine ⟨I1.kIn, ?_⟩
  show wpAny _ _ (call (.ref C) us) _ _ _
  obtain ⟨hp, gg, dr, tk, os⟩ := s1
  have above : hp.objs.size ≤ hp.objs.size + 1 := Nat.le_succ _
  have want1 := next (hp.objs.size + 1) (I1.hok.fresh above)
  rw [List.append_nil] at want1
  have keeps : ∀ b o, hp.get? b = some o → ((hp.push (PySem.W.kdv_tup us)).push (PySem.HandSPX.excO C hp.objs.size)).get? b = some o := fun b o z => Heap.get?_push_of_some _ (Heap.get?_push_of_some _ z)
  have stands : ((hp.push (PySem.W.kdv_tup us)).push (PySem.HandSPX.excO C hp.objs.size)).get? (hp.objs.size + 1) = some (PySem.HandSPX.excO C hp.objs.size) := by heap_get
  have I2 := I1.laid (t' := tk) (o := exo (hp.objs.size + 1) C none) keeps above (exo_ok stands)
  have rel2 : Vals (V.ref (hp.objs.size + 1) :: vs) (Value.ref (hp.objs.size + 1) :: us) := .cons rfl rel
  have many : (Value.ref (hp.objs.size + 1) :: us).length = ps.length := by rw [← rel2.length, F1.len _ _ _ _ want1]
  have short : us.length ≤ sizeLine := by
    have := rel.length
    rw [sizeLine_eq]
    omega
  have bd := bnds ⟨(hp.push (PySem.W.kdv_tup us)).push (PySem.HandSPX.excO C hp.objs.size), gg, dr, tk, os⟩ (Value.ref (hp.objs.size + 1) :: us) I2.kIn (by rw [List.append_nil]; exact many)
  rw [List.append_nil] at bd
  have run := F1.run (X.A.under (.builtin "type.__call__" ⟨.ref C :: us, []⟩)) X.stack _ _ ⟨Value.ref (hp.objs.size + 1) :: us, []⟩ _ _ _ (fun _ _ _ => False) (room.make C us []) (I2.env0.make C us []) bd rel2 want1
  refine wpAny_call (PySem.HandSPX.call_own F.excBase_ValueError (fun Y => PySem.HandSPX.refsVE_contains Y bm okB) (I1.kIn _ _ atC) (PySem.W.looks_findIn I1.kIn iC) (fun self => PySem.W.bind_fn I1.kIn self tI) short (codeAny_mono run fun res s' done => ?_))
  match res, done with
  | .error er, done => exact passN pins σ _ _ er s' I2 done
  | .ok (.ret u), done =>
    obtain ⟨v, H2, os2, bare2, un2, hok2, rv, ev, d, fs, ea, ed, hd1, q2⟩ := done
    subst ev
    obtain ⟨h2, g2, d2, t2, os'⟩ := s'
    obtain ⟨t0, G, J, kG, gone, there, free⟩ := mk_end0 (d2 := d2) (t2 := t2) I1 above keeps un2 hok2 os2 bare2 ea ed hd1
    exact ⟨rv, _, _, _, ⟨G, g2, d2, t2, os'⟩, _, .ref C, some d, rfl, J, kG, gone, there, ⟨rfl, rfl, fun vs z => by cases z; rfl⟩, rfl, rfl, free, rfl, bare2, raises_own T.exC T.tyC, q2⟩
  | .ok .next, done => exact False.elim done
  | .ok .brk, done => exact False.elim done
  | .ok .cont, done => exact False.elim done
section
variable {X : Cx} {W : WX} {g : G} {k : Nat} {c : SC} {pos : Pos}
theorem raise_E {n : Str} {As : List E} (δ : Sl) (h : Hs) : execS g (.raise n As) δ h = if g.hot then .bad else thenS δ (evalEs g As δ h) fun ds h' => mkX g n ds δ h' := by rw [execS]
theorem ss_raise {n : Str} {As : List E} {e : Expr} {es : List Expr} {p rp : Pos} (cf : Cf X g W c k) (hs : SA X W g As (e :: es)) (hg : Gl X n) (hm : X.mg n = some (.ref (He.ga X.K n))) (hk : PySem.W.keepIn X.K (.ref (He.ga X.K n)) = true) (hdb : (n == ("__debug__" : Str)) = false) (hst : (e :: es).all notStar = true) :
    SS X W g (.raise n As) (.Raise (some (.Call (.Name n p) (e :: es) [] pos)) none rp) := by
  cases hot : g.hot with
  | true =>
    refine ⟨fun pins s σ H Dd I hq => ?_⟩
    obtain ⟨ρ, hh, δ, rl, sl, pp⟩ := rdS.re hq raise_E
    dsimp only at pp
    rw [hot] at pp
    exact False.elim pp
  | false =>
    cases hx : g.xc n with
    | none =>
      -- nothing is known of the class: only an error of the arguments comes out
      have pm : L2N.PMk X (.Call (.Name n p) (e :: es) [] pos) (fun σ H Q => rdA X.K W (evalEs g As) σ H fun _ _ => False) := by
        intro pins s σ H Q I hq
        refine wpAny_Call_Name_kw (ld_glob I hg hm ?_ hdb)
        refine PySem.W.callWith_K (h₀ := X.base) I.ok.mod.kin hk ?_ (star_cons hst _) (star_rest hst _ _)
        exact thn (hs.run pos pins s σ H _ I hq) fun us s1 ⟨vs, H1, I1, r, q1⟩ => q1.elim
      refine PS.imp (L2N.ps_raise (cf.calm hot) cf.tk pm) fun Dd σ H hq => ?_
      obtain ⟨ρ, h, δ, rl, sl, pp⟩ := rdS.re hq raise_E
      dsimp only at pp
      rw [hot, if_neg Bool.false_ne_true] at pp
      refine ⟨ρ, h, δ, rl, sl, rdS.expr sl rl pp fun ds h1 ρ1 H1 vs _ x1 rl1 r1 p1 => ?_⟩
      unfold mkX at p1
      rw [hx] at p1
      exact p1
    | some fa =>
      obtain ⟨fl, arg⟩ := fa
      obtain ⟨f, fd, j, rfl, T, iC, tI, hz, hb, F⟩ := cf.wo.xc n fl arg hx
      have pm := pmkN (e := e) (es := es) (pos := pos) (p := p) T iC tI F (cf.room hot) hb hg hm hs hdb (star_cons hst _) (star_rest hst _ _)
      refine PS.imp (L2N.ps_raise (cf.calm hot) cf.tk pm) fun Dd σ H hq => ?_
      obtain ⟨ρ, h, δ, rl, sl, pp⟩ := rdS.re hq raise_E
      dsimp only at pp
      rw [hot, if_neg Bool.false_ne_true] at pp
      refine ⟨ρ, h, δ, rl, sl, rdS.expr sl rl pp fun ds h1 ρ1 H1 vs _ x1 rl1 r1 p1 => ?_⟩
      unfold mkX at p1
      rw [hx] at p1
      dsimp only at p1
      by_cases hl : ds.length = fl.length
      · rw [if_pos hl] at p1
        refine ⟨by rw [r1.length, hl]; omega, fun a ha => ?_⟩
        cases ev : evalE g0 arg (none :: (ds.map some ++ [none])) h1 with
        | bad => rw [ev] at p1; exact False.elim p1
        | exc c' fs' h' => rw [ev] at p1; exact False.elim p1
        | ok d h2 =>
          rw [ev] at p1
          dsimp only at p1
          obtain ⟨rlu, xu⟩ := rl1.newT (u := exo a (He.ga X.K n) none) ha
          have na : a ∉ ρ1 := fun m => by
            obtain ⟨o, ro⟩ := rl1.mem m
            obtain ⟨u, e⟩ := ro.some
            rw [ha] at e; cases e
          rw [List.append_nil]
          refine ⟨a, vs, ρ1, h1, ds, d, h2, rfl, by rw [r1.length, hl, fslots_len], rlu, na, r1.mono rl1 xu, upd_same, ev, fun ρ2 H2 dx H' x2 rl2 d1 d2 d3 d4 d5 => ⟨rfl, dx, _, d3, d4, ?_, ?_⟩⟩
          · -- the dict is new
            cases e1 : H1 dx with
            | none => rfl
            | some o =>
              have e2 : upd H1 a (exo a (He.ga X.K n) none) dx = some o := by rw [upd_ne d2]; exact e1
              by_cases m : dx ∈ ρ1
              · obtain ⟨i, hi, ei⟩ := List.mem_iff_getElem.mp m
                have m2 : dx ∈ ρ2 := List.mem_of_getElem? (x2.pre i dx (by simp [hi, ei]))
                obtain ⟨o', ro'⟩ := rl2.mem m2
                obtain ⟨u', e'⟩ := ro'.some
                rw [d1] at e'; cases e'
              · rw [x2.kp dx o e2 m] at d1; cases d1
          · have a2 : H2 a = some (exo a (He.ga X.K n) none) := x2.kp _ _ upd_same na
            have na2 : a ∉ ρ2 := fun m => by
              rcases x2.nw a m with m | m
              · exact na m
              · rw [upd_same] at m; cases m
            have dx1 : H1 dx = none := by
              cases e1 : H1 dx with
              | none => rfl
              | some o =>
                have e2 : upd H1 a (exo a (He.ga X.K n) none) dx = some o := by rw [upd_ne d2]; exact e1
                by_cases m : dx ∈ ρ1
                · obtain ⟨i, hi, ei⟩ := List.mem_iff_getElem.mp m
                  have m2 : dx ∈ ρ2 := List.mem_of_getElem? (x2.pre i dx (by simp [hi, ei]))
                  obtain ⟨o', ro'⟩ := rl2.mem m2
                  obtain ⟨u', e'⟩ := ro'.some
                  rw [d1] at e'; cases e'
                · rw [x2.kp dx o e2 m] at d1; cases d1
            -- the heap at the end
            have fin : ∀ b, b ≠ a → b ≠ dx → upd (del H' a) dx (.xd (((fslots fl).map (·.1)).zip vs).reverse) b = H2 b := fun b b1 b2 => by
              rw [upd_ne b2, del_ne b1, d5 b b1 b2]
            have kp2 : ∀ b o, H2 b = some o → b ≠ a → upd (del H' a) dx (.xd (((fslots fl).map (·.1)).zip vs).reverse) b = some o := fun b o e b1 => by
              rw [fin b b1 fun z => by rw [z, d1] at e; cases e]; exact e
            obtain ⟨rl3, st3⟩ := rl2.moved a2 na2 (fun _ => exo_tup) (fun _ _ => exo_frz) (fun _ z => by unfold exo at z; cases z) kp2
            have x3 : Ex ρ1 ρ2 H1 (upd (del H' a) dx (.xd (((fslots fl).map (·.1)).zip vs).reverse)) := by
              refine ⟨x2.pre, fun q o e n => ?_, fun q m => ?_⟩
              · have qa : q ≠ a := fun z => by rw [z, ha] at e; cases e
                refine kp2 q o (x2.kp q o (by rw [upd_ne qa]; exact e) n) qa
              · rcases x2.nw q m with m | m
                · exact .inl m
                · right
                  by_cases qa : q = a
                  · rw [qa]; exact ha
                  · rw [upd_ne qa] at m; exact m
            refine p1 ρ2 _ (some dx) σ x3 rl3 ((sl.mono rl x1).mono rl1 x3) ⟨dx, _, rfl, upd_same, ?_⟩
            have q := (RF.zip fl (r1.mono rl1 x3)).reverse
            rw [fslots_map] at q ⊢
            exact q
      · rw [if_neg hl] at p1; exact False.elim p1
end
end Ip
end
section
set_option Elab.async false
set_option linter.all false
set_option maxRecDepth 100000
set_option maxHeartbeats 1000000
/-! try: .. except C as n: .. (several clauses, named or not), in contexts that are calm -/
namespace Ip
open PySem PySem.Spec PyProof.Rows L2

abbrev Tcl := Addr → Value → Option Addr → TS
/-- behind the clause: the name goes -/
def endN (o : Option Nat) (Dd : Ends) : Ends := match o with
  | none => Dd
  | some i => { nx := fun σ H => Dd.nx (σ.set i none) H, rt := Dd.rt, bk := fun σ H => Dd.bk (σ.set i none) H, ct := fun σ H => Dd.ct (σ.set i none) H }
def setN (o : Option Nat) (a : Addr) (σ : L2.St) : L2.St := match o with
  | none => σ
  | some i => σ.set i (some (.ref a))
def wN (K : PySem.W.Frag) (Wout : WX) (Dd : Ends) : List (Value × Option Nat × Tcl) → WX
  | [] => Wout
  | (v, o, ts) :: r => fun cls d σ H => ∃ b, PySem.W.exmOne K cls v = some b ∧ (b = true → ∀ a, H a = none → ts a cls d (endN o Dd) (setN o a σ) H) ∧ (b = false → wN K Wout Dd r cls d σ H)
/-- a clause's suite -/
def SuOk (X : Cx) (su : List Stmt) (ts : Tcl) : Prop := ∀ (a : Addr) (oe : Obj) (cls : Value) (d : Option Addr) (pn : List (Addr × Obj)), L2N.Zn cls d oe → (∃ vs, oe.data = .fields vs) → PSs (X.suite a ((a, oe) :: pn)) su (ts a cls d)
inductive HdN (X : Cx) : List ExceptHandler → List (Value × Option Nat × Tcl) → Prop
  | nil : HdN X [] []
  | bare {x : Str} {v : Value} {ts : Tcl} {b₀ : Stmt} {su : List Stmt} {np hp : Pos} {hds : List ExceptHandler} {l : List (Value × Option Nat × Tcl)} (nm : Names X x v) (so : SuOk X (b₀ :: su) ts) (r : HdN X hds l) :
      HdN X (.ExceptHandler (some (.Name x np)) none (b₀ :: su) hp :: hds) ((v, none, ts) :: l)
  | named {x n : Str} {i : Nat} {v : Value} {ts : Tcl} {b₀ : Stmt} {su : List Stmt} {np hp : Pos} {hds : List ExceptHandler} {l : List (Value × Option Nat × Tcl)} (nm : Names X x v) (hi : X.N[i]? = some n) (hl : X.env.kindOf n = some .local) (so : SuOk X (b₀ :: su) ts) (r : HdN X hds l) :
      HdN X (.ExceptHandler (some (.Name x np)) (some n) (b₀ :: su) hp :: hds) ((v, some i, ts) :: l)
section
variable {X : Cx} {pins : List (Addr × Obj)} {Wout : WX} {Dd : Ends}
/-- what holds where an error has landed in the frame of X -/
structure Landed (X : Cx) (pins : List (Addr × Obj)) (a : Addr) (cls : Value) (d : Option Addr) (B : Heap) (σ : L2.St) (H : Hp) (sI : Shared) (s' : Shared) (h3 : Heap) : Prop where
  inv : Inv X pins σ H sI
  nb : ∀ b o, sI.heap.get? b = some o → b ∉ frs X.stack → B.get? b = some o
  up : sI.heap.UpToSlots h3
  fl : HandSPX.FlyingZ B (X.env :: X.outer) a (L2N.Zn cls d) h3
  na : H a = none
  os : s'.os = sI.os
  ag : AllBare s'.gens
variable {a : Addr} {cls : Value} {d : Option Addr} {B : Heap} {σ : L2.St} {H : Hp} {sI s' : Shared} {h3 : Heap}
theorem Landed.now (L : Landed X pins a cls d B σ H sI s' h3) : Inv X pins σ H { s' with heap := h3 } := L.inv.landed L.nb L.fl.1 L.up L.os L.ag
theorem Landed.suite (L : Landed X pins a cls d B σ H sI s' h3) (hf : X.env.frame = some X.env.locals) : ∃ (oe : Obj) (vs : Array Value), h3.get? a = some oe ∧ L2N.Zn cls d oe ∧ oe.data = .fields vs ∧ Inv (X.suite a ((a, oe) :: (X.pn ++ pins))) [] σ H { s' with heap := h3 } := by
  obtain ⟨oe, vs, at3, z3, d3⟩ := L.fl.there
  have off : a ∉ frs (X.env :: X.outer) := fun m => by
    obtain ⟨_, o', e', no⟩ := L.fl.2.2.1.mem m
    rw [at3] at e'
    cases e'
    exact no _ d3
  refine ⟨oe, vs, at3, z3, d3, L.now.suite at3 d3 L.na (fun z => off ?_) fun m => off ?_⟩
  · exact List.mem_filterMap.mpr ⟨X.env, .head _, by rw [hf, z]⟩
  · obtain ⟨e, me, q⟩ := List.mem_filterMap.mp m
    exact List.mem_filterMap.mpr ⟨e, .tail _ me, q⟩
/-- the clauses, one after the other -/
theorem clauses (hst : X.stack = X.env :: X.outer) (hf : X.env.frame = some X.env.locals) (hN : X.N.Nodup) (tk : L2N.Takes X Wout) (L : Landed X pins a cls d B σ H sI s' h3) {hds : List ExceptHandler} {l : List (Value × Option Nat × Tcl)} (hk : HdN X hds l) :
    wN X.K Wout Dd l cls d σ H → wpAny (model X.prog X.w) X.A (handleBy (.ref a) X.env hds) (SP X pins Dd) X.xe { s' with heap := h3 } := by
  have ok := L.inv.ok
  obtain ⟨oe3, vs3, at3, z3, d3, S3⟩ := L.suite hf
  have look : PySem.W.Looks (model X.prog X.w) h3 (typeOf (.ref a)) cls := fun A Q E s k q => wpAny_typeOf_ref (k _ _ at3) (by rw [z3.1]; exact q)
  have name : ∀ {x : Str} {v : Value} {np : Pos} {Q E : Value → Shared → Prop}, Names X x v → Q v { s' with heap := h3 } → wpAny (model X.prog X.w) (X.A.mark (some (.ref a))) (eval (.Name x np) X.env) Q E { s' with heap := h3 } := by
    rintro x v np Q E ⟨g1, g2, g3 | ⟨g3, g4, g5⟩⟩ q
    · exact ld_glob (X := X.suite a _) S3 g1 g3 q g2
    · exact ld_blt (X := X.suite a _) S3 g1 g3 g4 q g5 g2
  induction hk with
  | nil =>
    intro w
    refine wpAny_handleBy_nil ?_
    obtain ⟨_, _, _, _, _, _, _, _, he, _, hd, h1, _⟩ := id L.fl
    unfold PySem.passOn
    refine wpAny_bind (wpAny_field he hd h1 ?_)
    rw [if_neg (by simp)]
    have out : wpAny (model X.prog X.w) X.A (setFlight (.ref a) X.env.frame) (fun _ s4 => wpAny (model X.prog X.w) X.A (throw (.ref a) : Sem Flow) (SP X pins Dd) X.xe s4) X.xe { s' with heap := h3 } := by
      rw [hf]
      refine HandSPX.setFlight_upZ L.fl fun h4 held up4 => wpAny_throw (tk _ _ ⟨a, B, sI, pins, σ, H, cls, d, rfl, L.inv, L.nb, L.up.trans up4, .inr (.inr ?_), L.na, L.os, L.ag, w⟩)
      rw [hst]
      exact held
    first
      | exact wpAny_bind (wpAny_pure (wpAny_bind out))
      | exact wpAny_bind out
  | @bare x v ts b₀ su np hp hds2 l2 nm so r ih =>
    rintro ⟨b, m, yes, no⟩
    refine wpAny_handleBy_cons (codeAny_handlers_test (name nm ((PySem.W.exm_one (M := model X.prog X.w) L.now.kIn look m).here ?_))) (by intro q; cases q)
    cases b with
    | false => exact ih (no rfl)
    | true =>
      refine codeAny_handlers_suite (HandSPX.lands_againZ L.fl fun h4 fl4 up4 => ?_)
      have L4 : Landed X pins a cls d B σ H sI s' h4 := ⟨L.inv, L.nb, L.up.trans up4, fl4, L.na, L.os, L.ag⟩
      obtain ⟨oe4, vs4, _, z4, d4, S4⟩ := L4.suite hf
      refine wpAny_mono ((so a oe4 cls d (X.pn ++ pins) z4 ⟨_, d4⟩).run [] _ _ H _ S4 (yes rfl a L.na)) (fun fw s6 got => ?_) fun _ _ z => False.elim z
      cases fw with
      | next => obtain ⟨σ6, H6, S6, q6⟩ := got; exact ⟨σ6, H6, S6.unsuite ok, q6⟩
      | brk => obtain ⟨σ6, H6, S6, q6⟩ := got; exact ⟨σ6, H6, S6.unsuite ok, q6⟩
      | cont => obtain ⟨σ6, H6, S6, q6⟩ := got; exact ⟨σ6, H6, S6.unsuite ok, q6⟩
      | ret u => obtain ⟨v6, σ6, H6, S6, r6, q6⟩ := got; exact ⟨v6, σ6, H6, S6.unsuite ok, r6, q6⟩
  | @named x n i v ts b₀ su np hp hds2 l2 nm hi hl so r ih =>
    rintro ⟨b, m, yes, no⟩
    refine wpAny_handleBy_cons (codeAny_handlers_test (name nm ((PySem.W.exm_one (M := model X.prog X.w) L.now.kIn look m).here ?_))) (by intro q; cases q)
    cases b with
    | false => exact ih (no rfl)
    | true =>
      refine codeAny_handlers_suite_as (HandSPX.lands_againZ L.fl fun h4 fl4 up4 => ?_)
      have L4 : Landed X pins a cls d B σ H sI s' h4 := ⟨L.inv, L.nb, L.up.trans up4, fl4, L.na, L.os, L.ag⟩
      obtain ⟨oe4, vs4, _, z4, d4, S4⟩ := L4.suite hf
      refine store_ok (X := X.suite a _) (v := .ref a) S4 hN hi (.inl hl) rfl (fun s5 S5 => ?_) (.inr hl)
      refine wpAny_mono ((so a oe4 cls d (X.pn ++ pins) z4 ⟨_, d4⟩).run [] s5 _ H _ S5 (yes rfl a L.na)) (fun fw s6 got => ?_) fun _ _ z => False.elim z
      cases fw with
      | next => obtain ⟨σ6, H6, S6, q6⟩ := got; exact gone_ok (S6.unsuite ok) hN hi hl fun s7 J7 => ⟨_, _, J7, q6⟩
      | brk => obtain ⟨σ6, H6, S6, q6⟩ := got; exact gone_ok (S6.unsuite ok) hN hi hl fun s7 J7 => ⟨_, _, J7, q6⟩
      | cont => obtain ⟨σ6, H6, S6, q6⟩ := got; exact gone_ok (S6.unsuite ok) hN hi hl fun s7 J7 => ⟨_, _, J7, q6⟩
      | ret u => obtain ⟨v6, σ6, H6, S6, r6, q6⟩ := got; exact gone_ok (S6.unsuite ok) hN hi hl fun s7 J7 => ⟨_, _, _, J7, r6, q6⟩
variable {body : List Stmt} {h₀ : ExceptHandler} {hds : List ExceptHandler} {l : List (Value × Option Nat × Tcl)} {pos : Pos} {tb : WX → TS}
theorem ps_tryN (hst : X.stack = X.env :: X.outer) (hf : X.env.frame = some X.env.locals) (hN : X.N.Nodup) (tk : L2N.Takes X Wout)
    (hb : ∀ (W : WX) (pn : List (Addr × Obj)) (xe : Value → Shared → Prop), L2N.Takes (X.tr pn xe) W → PassesOwn (model X.prog X.w) X.A X.env xe → PSs (X.tr pn xe) body (tb W)) (hk : HdN X (h₀ :: hds) l) :
    PS X (.Try body (h₀ :: hds) [] [] pos) (fun Dd σ H => tb (wN X.K Wout Dd l) Dd σ H) := by
  refine ⟨fun pins s σ H Dd I want => wpAny_Try_except ?_⟩
  have ok := I.ok
  refine wpAny_mono ((hb (wN X.K Wout Dd l) (X.pn ++ pins) (fun e s₁ => wpAny (model X.prog X.w) X.A (noteFrame e X.env) (fun _ s₂ => wpAny (model X.prog X.w) X.A (setFlight e none) (fun _ s₃ => wpAny (model X.prog X.w) X.A (handleBy e X.env (h₀ :: hds)) (SP X pins Dd) X.xe s₃) X.xe s₂) X.xe s₁)
    (fun u s' air => ?_) PassesOwn.looking).run [] s σ H Dd (I.toTry _) want) (fun fw s1 got => ?_) fun _ _ z => z
  · obtain ⟨a, B, sI, _, σ', H', cls, d, rfl, J', nb, up, sky, na, os, ag, w⟩ := air
    have J : Inv X pins σ' H' sI := J'.ofTry ok
    refine L2N.Sky.land L2N.Zn.steady (by rw [ok.frames, hst]) hf (by rw [← hst]; exact sky) fun h3 fl3 up3 => ?_
    exact clauses hst hf hN tk ⟨J, nb, up.trans up3, fl3, na, os, ag⟩ hk w
  · cases fw with
    | next => obtain ⟨σ', H', J', q⟩ := got; exact wpAny_execs_nil ⟨σ', H', J'.ofTry ok, q⟩
    | brk => obtain ⟨σ', H', J', q⟩ := got; exact ⟨σ', H', J'.ofTry ok, q⟩
    | cont => obtain ⟨σ', H', J', q⟩ := got; exact ⟨σ', H', J'.ofTry ok, q⟩
    | ret u => obtain ⟨v, σ', H', J', r, q⟩ := got; exact ⟨v, σ', H', J'.ofTry ok, r, q⟩
end
end Ip
end
section
set_option Elab.async false
set_option linter.all false
set_option maxRecDepth 100000
set_option maxHeartbeats 1000000
/-! statements against the program's text -/
namespace Ip
open PySem L2
section
variable {X : Cx} {W : WX} {g : G} {A B C : E} {a b c : Expr} {pos : Pos}
/-! ### x op= e -/
def rdIp (K : PySem.W.Frag) (o : Operator) : TIp := fun x y H Q => ∃ ρ h a b, Rl K ρ h H ∧ RV K ρ H a x ∧ RV K ρ H b y ∧ Po K (relV K) (fun _ _ _ => False) ρ H Q (augop o a b h)
theorem ip_aug {o : Operator} : PIp X o (rdIp X.K o) := by
  intro pins s σ H x y v u Q I rx ry ⟨ρ, h, a, b, rl, ra, rb, p⟩
  have fin : ∃ r : R2, OpR X (inplaceOp o) r ∧ r x y H Q := by
    cases a with
    | int i =>
      cases b with
      | int j =>
        rw [show x = _ from ra, show y = _ from rb]
        cases o with
        | Add => exact ⟨_, iop_add, i, j, rfl, rfl, Po.ok (a := D.int (i + j)) p rl rfl⟩
        | Sub => exact ⟨_, iop_sub, i, j, rfl, rfl, Po.ok (a := D.int (i - j)) p rl rfl⟩
        | _ => exact False.elim p
      | _ => exact False.elim p
    | str i =>
      cases b with
      | str j =>
        rw [show x = _ from ra, show y = _ from rb]
        cases o with
        | Add =>
          have p : Po X.K (relV X.K) (fun _ _ _ => False) ρ H Q ((if i.length + j.length ≤ sizeLine then ret (.str (i ++ j)) else fail : M D) h) := p
          by_cases c : i.length + j.length ≤ sizeLine
          · rw [if_pos c] at p
            exact ⟨_, iop_add_str, i, j, rfl, rfl, c, p.ok rl rfl⟩
          · rw [if_neg c] at p; exact False.elim p
        | _ => exact False.elim p
      | _ => exact False.elim p
    | _ => exact False.elim p
  obtain ⟨r, ho, q⟩ := fin
  exact ho pins s σ H x y v u Q I rx ry q
theorem augop_noexc {o : Operator} {x y : D} {h : Hs} {c : Str} {fs : Option (List (Str × D))} {h' : Hs} : augop o x y h ≠ .exc c fs h' := by
  intro e
  cases x with
  | int i =>
    cases y with
    | int j => cases o <;> cases e
    | _ => cases e
  | str i =>
    cases y with
    | str j =>
      cases o with
      | Add =>
        have e : (if i.length + j.length ≤ sizeLine then ret (.str (i ++ j)) else fail : M D) h = .exc c fs h' := e
        split at e <;> cases e
      | _ => cases e
    | _ => cases e
  | _ => cases e
theorem aug_E {i : Nat} {o : Operator} (δ : Sl) (h : Hs) : execS g (.aug i o A) δ h = (match δ[i]? with
    | some (some x) => thenS δ (bnd (evalE g A δ) (augop o x) h) fun d h' => .next (δ.set i (some d)) h'
    | _ => .bad) := by rw [execS]; try rfl
theorem ss_aug {i : Nat} {x : Str} {o : Operator} {pos' : Pos} (hN : X.N.Nodup) (hi : X.N[i]? = some x) (hx : L2.Loc X.env.scope x) (hf : X.fn x = true ∨ X.env.scope.names.lookup x = some .local) (ha : SE X W g A a) : SS X W g (.aug i o A) (.AugAssign (.Name x pos') o a pos) := by
  refine PS.imp (ps_aug hN hi hx ha (ip_aug (o := o)) hf) fun Dd σ H h => ?_
  obtain ⟨ρ, h, δ, rl, sl, p⟩ := rdS.re h aug_E
  dsimp only at p
  cases e : δ[i]? with
  | none => rw [e] at p; exact False.elim p
  | some oo =>
    cases oo with
    | none => rw [e] at p; exact False.elim p
    | some d0 =>
      rw [e] at p
      obtain ⟨v0, e0, r0⟩ := sl.2 i d0 e
      have q := rdS.expr (rel := relV X.K) sl rl p (Rq := fun v H1 => Dd.nx (σ.set i (some v)) H1) fun d h1 ρ1 H1 v _ x1 rl1 r1 p1 => p1 ρ1 H1 _ (.refl _ _) rl1 ((sl.mono rl x1).set r1)
      refine ⟨v0, e0, ρ, h, δ, rl, sl, q.bnd fun d h1 ρ1 H1 v _ x1 rl1 r1 p1 => ?_⟩
      exact ⟨ρ1, h1, d0, d, rl1, r0.mono rl x1, r1, p1.noexc fun _ _ _ => augop_noexc⟩
theorem gP_name (K : PySem.W.Frag) (i : Nat) : gP K (.name i) = gName i := by unfold gP; rfl
theorem pg_never {tg : Expr} : PG X tg (fun _ _ _ _ => False) := ⟨fun _ _ _ _ _ _ _ _ _ h => h.elim⟩
/-- a store that the machine refuses -/
theorem ss_asgBad {t : Pt} {tg : Expr} (ha : SE X W g A a) (hn : notComp a = true) (hw : swappedStores [tg] a X.env = pure none) (hst : (assignEach [tg] X.env).map (·.2) = [assign tg X.env]) (hb : ∀ d δ, asgP g.hot t d δ = none) : SS X W g (.asg t A) (.Assign [tg] a pos) := by
  refine PS.imp (ps_asg ha pg_never (swaps_no hn _ _ _) hw hst) fun Dd σ H h => ?_
  obtain ⟨ρ, h, δ, rl, sl, p⟩ := rdS.re h asg_E
  refine ⟨ρ, h, δ, rl, sl, rdS.expr sl rl p fun d h1 ρ1 H1 v _ x1 rl1 r1 p1 => ?_⟩
  rw [hb] at p1
  exact p1
/-! ### name = [..] -/
theorem ss_asgLc {i : Nat} {y : Str} {py spos : Pos} {t : Pt} {own : List Nat} {it : Ip.It} {ifs : List E} {elt tg iter : Expr} {eifs : List Expr} {scope : Scope} {ow : List (Str × Nat)} (how : ow.map (·.2) = own) (hs : ∀ i ∈ slotsP t, i ∈ own) (hot : g.hot = false) (hc : X.calm = true) (hN : X.N.Nodup)
    (hi : SI X W g it tg iter) (ok : BlkOk X.N X.env.scope scope ow) (hg : ∀ (s : Shared) (H : Hp) (C : Addr) (cl : List (Str × Addr)) (fp : List Addr), PG (X.blk s H scope (compEnvC scope cl C X.env) fp) tg (gP X.K t))
    (ht : ∀ (s : Shared) (H : Hp) (C : Addr) (cl : List (Str × Addr)) (fp : List Addr), PTs (X.blk s H scope (compEnvC scope cl C X.env) fp) eifs (rdTs X.K g ifs))
    (he : ∀ (s : Shared) (H : Hp) (C : Addr) (cl : List (Str × Addr)) (fp : List Addr), SE (X.blk s H scope (compEnvC scope cl C X.env) fp) W0 g A elt) (hfs : ∀ x, foldedSetIterable iter X.env x = pure x)
    (hy : X.N[i]? = some y) (hx : L2.Loc X.env.scope y) (hf : X.fn y = true ∨ X.env.scope.names.lookup y = some .local) :
    SS X W g (.asg (.name i) (.lc A t own it ifs)) (.Assign [.Name y py] (.ListComp elt [⟨tg, iter, eifs, 0⟩] scope pos) spos) := by
  have fin : ∀ Dd σ H, rdS X.K W (execS g (.asg (.name i) (.lc A t own it ifs))) Dd σ H → tAsg (tLc (rdI X.K W (evalI g it)) (gP X.K t) (rdTs X.K g ifs) (rdE X.K W0 (evalE g A)) own) (gName i) Dd σ H := fun Dd σ H h => by
    have q := asg_rd h fun σ H Q q => lc_rd hs hot q
    rw [gP_name] at q
    exact q
  subst how
  cases hb : (X.env.blockKind == .function && X.env.kindOf y == some .local && py.line == pos.line && !(scope.names.any fun (n, k) => n == y && (k == .local || k == .cell))) with
  | true =>
    have hsw : swapsWith (.ListComp elt [⟨tg, iter, eifs, 0⟩] scope pos) (some (.Name y py)) spos.line X.env = pure true := by
      rw [← hb]; rfl
    obtain ⟨hb, _⟩ := ba hb
    obtain ⟨hb, _⟩ := ba hb
    obtain ⟨_, hb⟩ := ba hb
    exact PS.imp (ps_setLc hc hN hy (eq_of_beq hb) hsw hi ok hg ht he hfs) fin
  | false =>
    have hsw : swapsWith (.ListComp elt [⟨tg, iter, eifs, 0⟩] scope pos) (some (.Name y py)) spos.line X.env = pure false := by
      rw [← hb]; rfl
    exact PS.imp (ps_set hN hy hx (pe_lc hc hN hi ok hg ht he hfs) hsw hf) fin
end
/-! ### the match -/
def noSwap : Expr → Expr → Bool
  | .Tuple _ _ _, .Tuple _ _ _ => false
  | .List _ _, .Tuple _ _ _ => false
  | _, _ => true
def isName : Expr → Bool
  | .Name _ _ => true
  | _ => false
def okNm (c : SC) : Option Nat → Option Str → Bool
  | none, none => true
  | some i, some n => decide (c.N[i]? = some n) && decide (c.sc.names.lookup n = some .local)
  | _, _ => false
def isRs (c : SC) (n : Str) (es : List E) : Expr → Bool
  | .Call (.Name x _) (e :: es') [] _ => decide (n = x) && isGl c.sc x && noDbg x && c.xcs.contains n && isEs c es (e :: es')
  | _ => false
mutual
def isS (c : SC) : S → Stmt → Bool
  | .expr e, .Expr e' _ => isE c e e' && notComp e'
  | .ret e, .Return (some e') _ => isE c e e'
  | .retN, .Return none _ => true
  | .pass, .Pass _ => true
  | .brk, .Break _ => true
  | .cont, .Continue _ => true
  | .asg t e, .Assign [tg] e' _ => isP c t tg && isE c e e' && notStar tg && noSwap tg e' && (notComp e' || isName tg)
  | .sub o i e, .Assign [.Subscript o' i' _] e' _ => isE c o o' && isE c i i' && isE c e e' && notComp e' && notSlice i'
  | .fld o f e, .Assign [.Attribute o' f' _] e' _ => decide (f = f') && isE c o o' && isE c e e' && notComp e'
  | .aug i o e, .AugAssign (.Name x _) o' e' _ => decide (c.N[i]? = some x) && isLoc c.sc c.fn x && decide (o = o') && isE c e e'
  | .iff t a b, .If t' a' b' _ => isE c t t' && isSs c a a' && isSs c b b'
  | .for_ t it b, .For tg iter b' [] _ => isP c t tg && isI c it iter && notSet iter && isSs c b b'
  | .whl t b, .While t' b' [] _ => isE c t t' && isSs c b b'
  | .raise n es, .Raise (some e) none _ => isRs c n es e
  | .try_ b hs, .Try b' (h :: hds) [] [] _ => isSs c b b' && isH c hs (h :: hds)
  | _, _ => false
def isH (c : SC) : Hd → List ExceptHandler → Bool
  | .nil, [] => true
  | .cons x o b r, .ExceptHandler (some (.Name y _)) nm (s :: ss) _ :: hds => decide (x = y) && isGl c.sc y && noDbg y && c.xns.contains x && okNm c o nm && isSs c b (s :: ss) && isH c r hds
  | _, _ => false
def isSs (c : SC) : List S → List Stmt → Bool
  | [], [] => true
  | a :: as, s :: ss => isS c a s && isSs c as ss
  | _, _ => false
end
theorem swap_no {tg e : Expr} (h : noSwap tg e = true) (env : Env) : swappedStores [tg] e env = pure none := by
  unfold swappedStores
  cases tg <;> first | rfl | (cases e <;> first | rfl | cases h)
section
variable {g : G} {k : Nat} {X : Cx} {W : WX} {c : SC}
theorem Cf.hN (cf : Cf X g W c k) : X.N.Nodup := by rw [cf.N]; exact cf.nd
theorem Cf.hloc (cf : Cf X g W c k) {x : Str} (h : isLoc c.sc c.fn x = true) : L2.Loc X.env.scope x ∧ (X.fn x = true ∨ X.env.scope.names.lookup x = some .local) := by
  obtain ⟨l1, l2⟩ := isLoc_ok h
  refine ⟨?_, ?_⟩
  · show X.env.scope.names.lookup x = _ ∨ X.env.scope.names.lookup x = _
    rw [cf.sc]; exact l1
  · rw [cf.fn, cf.sc]; exact l2
/-- the parts of a comprehension -/
theorem lc_parts (cf : Cf X g W c k) (hot : g.hot = false) {el : E} {t : Pt} {own : List Nat} {it : Ip.It} {ifs : List E} {e' : Expr} {gs : List Comprehension} {scope : Scope} {pos : Pos} (h : isE c (.lc el t own it ifs) (.ListComp e' gs scope pos) = true) :
    ∃ tg iter ifs', gs = [⟨tg, iter, ifs', 0⟩] ∧ (∀ i ∈ slotsP t, i ∈ own) ∧ SI X W g it tg iter ∧ BlkOk X.N X.env.scope scope (ownOf c.N own) ∧
      (∀ (s : Shared) (H : Hp) (C : Addr) (cl : List (Str × Addr)) (fp : List Addr), PG (X.blk s H scope (compEnvC scope cl C X.env) fp) tg (gP X.K t)) ∧
      (∀ (s : Shared) (H : Hp) (C : Addr) (cl : List (Str × Addr)) (fp : List Addr), PTs (X.blk s H scope (compEnvC scope cl C X.env) fp) ifs' (rdTs X.K g ifs)) ∧
      (∀ (s : Shared) (H : Hp) (C : Addr) (cl : List (Str × Addr)) (fp : List Addr), SE (X.blk s H scope (compEnvC scope cl C X.env) fp) W0 g el e') ∧ ∀ x, foldedSetIterable iter X.env x = pure x := by
  match gs, h with
  | [⟨tg, iter, ifs', n⟩], h =>
    unfold isE at h
    obtain ⟨h, h9⟩ := ba h
    obtain ⟨h, h8⟩ := ba h
    obtain ⟨h, h7⟩ := ba h
    obtain ⟨h, h6⟩ := ba h
    obtain ⟨h, h5⟩ := ba h
    obtain ⟨h, h4⟩ := ba h
    obtain ⟨h, h3⟩ := ba h
    obtain ⟨h1, h2⟩ := ba h
    have e1 := of_decide_eq_true h1
    subst e1
    have hc := cf.calm hot
    refine ⟨tg, iter, ifs', rfl, fun i hi => ?_, sndI it c X W tg iter h2 cf, by rw [cf.N, cf.sc]; exact blkOk_by h4, fun s H C cl fp => ?_, fun s H C cl fp => ?_, fun s H C cl fp => ?_, fold_no h3 _⟩
    · have := List.all_eq_true.mp h5 i hi
      simpa using this
    · exact sndP (cf.blk hot s H scope cl C fp) hc t tg h6
    · have cb := cf.blk hot s H scope cl C fp
      match ifs, ifs', h7, h8 with
      | [], [], _, _ => exact sts_nil
      | [i], [i'], h7, _ =>
        unfold isEs at h7
        obtain ⟨h7, _⟩ := ba h7
        exact sts_one (sndE i (c.blk scope) _ W0 i' (ba h7).2 cb).2.1
      | [], _ :: _, h7, _ => unfold isEs at h7; cases h7
      | _ :: _, [], h7, _ => unfold isEs at h7; cases h7
      | _, _ :: _ :: _, _, h8 => exact absurd (of_decide_eq_true h8) (by simp)
      | _ :: _ :: _, [_], h7, _ => unfold isEs at h7; unfold isEs at h7; simp at h7
    · exact (sndE el (c.blk scope) _ W0 e' h9 (cf.blk hot s H scope cl C fp)).1
  | [], h => unfold isE at h; cases h
  | ⟨_, _, _, _⟩ :: _ :: _, h => unfold isE at h; cases h
theorem isE_comp {A : E} {e : Expr} (h : isE c A e = true) (hn : notComp e = false) : ∃ el t own it ifs e' gs scope pos, A = .lc el t own it ifs ∧ e = .ListComp e' gs scope pos := by
  cases e with
  | ListComp e' gs scope pos =>
    cases A with
    | lc el t own it ifs => exact ⟨el, t, own, it, ifs, e', gs, scope, pos, rfl, rfl⟩
    | un o a => cases o <;> (unfold isE at h; cases h)
    | _ => unfold isE at h; cases h
  | SetComp e' gs scope pos =>
    cases A with
    | un o a => cases o <;> (unfold isE at h; cases h)
    | _ => unfold isE at h; cases h
  | DictComp k' e' gs scope pos =>
    cases A with
    | un o a => cases o <;> (unfold isE at h; cases h)
    | _ => unfold isE at h; cases h
  | _ => cases hn
end
/-! ### try -/
def StF (X : Cx) : Prop := X.stack = X.env :: X.outer ∧ X.env.frame = some X.env.locals
theorem RF.parts {K : PySem.W.Frag} {ρ : List Addr} {H : Hp} : ∀ {l : List (Str × D)} {vs : List (Str × V)}, RF K ρ H l vs → ∃ ws, vs = (l.map (·.1)).zip ws ∧ RVs K ρ H (l.map (·.2)) ws
  | [], _, e => ⟨[], e, rfl⟩
  | (f, d) :: l, _, ⟨v, r, e, a, b⟩ => by
    obtain ⟨ws, q1, q2⟩ := RF.parts b
    exact ⟨v :: ws, by rw [e, q1]; rfl, v, ws, rfl, a, q2⟩
theorem RSl.del {K : PySem.W.Frag} {ρ : List Addr} {H : Hp} {δ : Sl} {σ : L2.St} (s : RSl K ρ H δ σ) (i : Nat) : RSl K ρ H (δ.set i none) (σ.set i none) := by
  refine ⟨by simp [s.1], fun j d e => ?_⟩
  by_cases hj : i = j
  · subst hj
    rw [List.getElem?_set_self (by simpa using (List.getElem?_eq_some_iff.mp e).1)] at e
    cases e
  · rw [List.getElem?_set_ne hj] at e ⊢
    exact s.2 j d e
theorem PoS.noX {K : PySem.W.Frag} {W : WX} {ρ : List Addr} {H : Hp} {Dd : Ends} {r : RS} (p : PoS K W ρ H Dd (noXS r)) : PoS K W0 ρ H Dd r := by
  cases r with
  | exc c fs δ h => exact False.elim p
  | _ => exact p
theorem PoS.wipe {K : PySem.W.Frag} {W : WX} {ρ : List Addr} {H : Hp} {Dd : Ends} {r : RS} {i : Nat} (p : PoS K W ρ H Dd (wipeS i r)) : PoS K W0 ρ H (endN (some i) Dd) r := by
  cases r with
  | next δ h => exact fun ρ' H' σ' x rl sl => p ρ' H' _ x rl (sl.del i)
  | ret d h => exact p
  | brk δ h => exact fun ρ' H' σ' x rl sl => p ρ' H' _ x rl (sl.del i)
  | cont δ h => exact fun ρ' H' σ' x rl sl => p ρ' H' _ x rl (sl.del i)
  | exc c fs δ h => exact False.elim p
  | bad => exact False.elim p
theorem allEq_of {f : Nat → Nat → RS} {r : RS} (h : ∀ a b, f a b = r) : allEq f = r := by
  unfold allEq
  rw [if_pos fun a b => (h a b).trans (h 0 0).symm, h 0 0]
theorem PoS.all {K : PySem.W.Frag} {W : WX} {ρ : List Addr} {H : Hp} {Dd : Ends} {f : Nat → Nat → RS} (p : PoS K W ρ H Dd (allEq f)) (a b : Nat) : PoS K W ρ H Dd (f a b) := by
  unfold allEq at p
  split at p
  · rename_i e
    rw [e a b]
    exact p
  · exact False.elim p
/-- what a clause's suite is taken for -/
def tsOf (X : Cx) (g : G) (o : Option Nat) (b : List S) : Tcl := fun a cls d Dd σ H => match o, d with
  | none, _ => rdS X.K W0 (execSs (gH g none) b) Dd σ H
  | some _, some dd => ∃ cl, cls = .ref (He.ga X.K cl) ∧ rdS X.K W0 (execSs (gH g (some (a, dd, cl))) b) Dd σ H
  | some _, none => False
/-- the clauses against the machine's -/
def HdOk (X : Cx) (W : WX) (g : G) (hs : Hd) (hds : List ExceptHandler) : Prop := ∃ l, HdN X hds l ∧ ∀ (Dd : Ends) (c : Str) (fs : Option (List (Str × D))) (δ : Sl) (h : Hs) (ρ : List Addr) (H : Hp) (σ : L2.St) (d : Option Addr), Rl X.K ρ h H → RSl X.K ρ H δ σ → XR X.K ρ H fs d →
  PoS X.K W ρ H Dd (execH g hs c fs δ h) → wN X.K W Dd l (.ref (He.ga X.K c)) d σ H
section
variable {g : G} {k : Nat} {X : Cx} {W : WX} {c : SC}
theorem hd_nil : HdOk X W g .nil [] := ⟨[], .nil, fun Dd c fs δ h ρ H σ d rl sl xr p => by
  rw [execH] at p
  exact p ρ H d σ (.refl _ _) rl sl xr⟩
theorem hd_cons {x : Str} {o : Option Nat} {b : List S} {r : Hd} {np hp : Pos} {nm : Option Str} {s : Stmt} {ss : List Stmt} {hds : List ExceptHandler} (cf : Cf X g W c k) (hot : g.hot = false) (h1 : isGl c.sc x = true) (h2 : noDbg x = true) (h3 : c.xns.contains x = true) (h4 : okNm c o nm = true)
    (hs : ∀ (a : Addr) (oe : Obj) (cls : Value) (d : Option Addr) (pn : List (Addr × Obj)) (hx : Option (Nat × Nat × Str)), L2N.Zn cls d oe → (∃ vs, oe.data = .fields vs) → HxP X.K hx (a, oe) → SB (X.suite a ((a, oe) :: pn)) W0 (gH g hx) b (s :: ss)) (hr : HdOk X W g r hds) :
    HdOk X W g (.cons x o b r) (.ExceptHandler (some (.Name x np)) nm (s :: ss) hp :: hds) := by
  obtain ⟨v, k1, k2⟩ := cf.wo.exm x h3
  obtain ⟨l, hn, hw⟩ := hr
  have names : Names X x v := ⟨cf.gl h1, (dbg1 h2).1, k1⟩
  have su : SuOk X (s :: ss) (tsOf X g o b) := fun a oe cls d pn z dt => by
    refine ⟨fun pins s0 σ H Dd I hq => ?_⟩
    unfold tsOf at hq
    split at hq
    · exact (hs a oe cls _ pn none z dt fun _ _ _ e => nomatch e).run pins s0 σ H Dd I hq
    · obtain ⟨cl, rfl, hq⟩ := hq
      refine (hs a oe _ _ pn _ z dt fun a' dd' c' e => ?_).run pins s0 σ H Dd I hq
      cases e
      exact ⟨rfl, z⟩
    · exact hq.elim
  refine ⟨(v, o, tsOf X g o b) :: l, ?_, fun Dd c fs δ h ρ H σ d rl sl xr p => ?_⟩
  · cases o with
    | none =>
      cases nm with
      | none => exact .bare names su hn
      | some n => cases h4
    | some i =>
      cases nm with
      | none => cases h4
      | some n =>
        obtain ⟨q1, q2⟩ := ba h4
        refine .named names (by rw [cf.N]; exact of_decide_eq_true q1) ?_ su hn
        show X.env.scope.names.lookup n = _
        rw [cf.sc]
        exact of_decide_eq_true q2
  · rw [execH] at p
    cases e : g.exm c x with
    | none => rw [e] at p; exact False.elim p
    | some t =>
      rw [e] at p
      refine ⟨t, k2 c t e, fun ht a ha => ?_, fun ht => ?_⟩
      · subst ht
        dsimp only at p
        unfold suiteN at p
        cases o with
        | none => exact ⟨ρ, h, δ, rl, sl, p.noX⟩
        | some i =>
          cases fs with
          | none => exact False.elim p
          | some fl =>
            obtain ⟨q, vs, rfl, hd, rf⟩ := xr
            obtain ⟨ws, rfl, rws⟩ := rf.parts
            exact ⟨c, rfl, ρ, h, _, rl, sl.set (d := .exn a q c (fl.map (·.1)) (fl.map (·.2))) ⟨rfl, ws, hd, rws⟩, (p.all a q).wipe⟩
      · subst ht
        exact hw Dd c fs δ h ρ H σ d rl sl xr p
theorem try_E {b : List S} {hs : Hd} (δ : Sl) (h : Hs) : execS g (.try_ b hs) δ h = if g.hot then .bad else match execSs g b δ h with
    | .exc c fs δ1 h1 => execH g hs c fs δ1 h1
    | r => r := by rw [execS]; try rfl
theorem ss_try {b : List S} {hs : Hd} {b' : List Stmt} {h0 : ExceptHandler} {hds : List ExceptHandler} {pos : Pos} (cf : Cf X g W c k) (sf : StF X) (hb : g.hot = false → ∀ (W' : WX) (pn : List (Addr × Obj)) (xe : Value → Shared → Prop), L2N.Takes (X.tr pn xe) W' → PassesOwn (model X.prog X.w) X.A X.env xe → SB (X.tr pn xe) W' g b b')
    (hk : g.hot = false → HdOk X W g hs (h0 :: hds)) : SS X W g (.try_ b hs) (.Try b' (h0 :: hds) [] [] pos) := by
  cases hot : g.hot with
  | true =>
    refine ⟨fun pins s σ H Dd I hq => ?_⟩
    obtain ⟨ρ, hh, δ, rl, sl, pp⟩ := rdS.re hq try_E
    dsimp only at pp
    rw [hot] at pp
    exact False.elim pp
  | false =>
    obtain ⟨l, hn, hw⟩ := hk hot
    refine PS.imp (ps_tryN (tb := fun W' => rdS X.K W' (execSs g b)) sf.1 sf.2 (by rw [cf.N]; exact cf.nd) cf.tk (hb hot) hn) fun Dd σ H hq => ?_
    obtain ⟨ρ, h, δ, rl, sl, p⟩ := rdS.re hq try_E
    dsimp only at p
    rw [hot, if_neg Bool.false_ne_true] at p
    refine ⟨ρ, h, δ, rl, sl, ?_⟩
    cases e : execSs g b δ h with
    | exc c fs δ1 h1 =>
      rw [e] at p
      exact fun ρ' H' d σ' x rl1 sl1 xr => hw Dd c fs δ1 h1 ρ' H' σ' d rl1 sl1 xr (p.mono x)
    | next δ1 h1 => rw [e] at p; exact p
    | ret d h1 => rw [e] at p; exact p
    | brk δ1 h1 => rw [e] at p; exact p
    | cont δ1 h1 => rw [e] at p; exact p
    | bad => rw [e] at p; exact p
end
section
variable {k : Nat} {c : SC}
mutual
theorem sndS : ∀ (A : S) (g : G) (X : Cx) (W : WX) (st : Stmt), Cf X g W c k → PassesOwn (model X.prog X.w) X.A X.env X.xe → StF X → isS c A st = true → SS X W g A st
  | .expr e, g, X, W, st, cf, po, sf, h => by
    cases st with
    | Expr e' pos =>
      unfold isS at h
      obtain ⟨h1, h2⟩ := ba h
      exact ss_expr (sndE e c X W e' h1 cf).1 h2
    | _ => unfold isS at h; cases h
  | .ret e, g, X, W, st, cf, po, sf, h => by
    cases st with
    | Return o pos =>
      cases o with
      | some e' =>
        unfold isS at h
        exact ss_ret (sndE e c X W e' h cf).1
      | none => unfold isS at h; cases h
    | _ => unfold isS at h; cases h
  | .retN, g, X, W, st, cf, po, sf, h => by
    cases st with
    | Return o pos =>
      cases o with
      | none => exact ss_retN
      | some e' => unfold isS at h; cases h
    | _ => unfold isS at h; cases h
  | .pass, g, X, W, st, cf, po, sf, h => by
    cases st with
    | Pass pos => exact ss_pass
    | _ => unfold isS at h; cases h
  | .brk, g, X, W, st, cf, po, sf, h => by
    cases st with
    | Break pos => exact ss_brk
    | _ => unfold isS at h; cases h
  | .cont, g, X, W, st, cf, po, sf, h => by
    cases st with
    | Continue pos => exact ss_cont
    | _ => unfold isS at h; cases h
  | .asg t e, g, X, W, st, cf, po, sf, h => by
    cases st with
    | Assign tgs e' pos =>
      match tgs, h with
      | [tg], h =>
        unfold isS at h
        obtain ⟨h, h5⟩ := ba h
        obtain ⟨h, h4⟩ := ba h
        obtain ⟨h, h3⟩ := ba h
        obtain ⟨h1, h2⟩ := ba h
        have hst : (assignEach [tg] X.env).map (·.2) = [assign tg X.env] := by cases tg <;> first | rfl | cases h3
        cases hn : notComp e' with
        | true =>
          cases hot : g.hot with
          | false => exact ss_asg (sndE e c X W e' h2 cf).1 (sndP cf (cf.calm hot) t tg h1) hn (swap_no h4 _) hst
          | true =>
            cases t with
            | name i =>
              cases tg with
              | Name x p =>
                unfold isP at h1
                obtain ⟨k1, k2⟩ := ba h1
                obtain ⟨l1, l2⟩ := cf.hloc k2
                refine ss_asg (sndE e c X W e' h2 cf).1 ?_ hn (swap_no h4 _) hst
                rw [gP_name]
                exact pg_name cf.hN (by rw [cf.N]; exact of_decide_eq_true k1) l1 l2
              | _ => unfold isP at h1; cases h1
            | tup ts =>
              refine ss_asgBad (sndE e c X W e' h2 cf).1 hn (swap_no h4 _) hst fun d δ => ?_
              rw [hot]
              unfold asgP
              cases d <;> rfl
        | false =>
          rw [hn] at h5
          cases tg with
          | Name x p =>
            cases t with
            | name i =>
              unfold isP at h1
              obtain ⟨k1, k2⟩ := ba h1
              obtain ⟨l1, l2⟩ := cf.hloc k2
              obtain ⟨el, t, own, it, ifs, e2, gs, scope, pos2, rfl, rfl⟩ := isE_comp h2 hn
              cases hot : g.hot with
              | true =>
                refine ⟨fun pins s σ H Dd I hq => ?_⟩
                obtain ⟨ρ, hh, δ, rl, sl, p⟩ := rdS.re hq asg_E
                dsimp only at p
                rw [lc_E, hot] at p
                exact False.elim p
              | false =>
                obtain ⟨tg, iter, ifs', rfl, q1, q2, q3, q4, q5, q6, q7⟩ := lc_parts cf hot h2
                exact ss_asgLc (ow := ownOf c.N own) (by unfold ownOf; rw [List.map_map]; exact List.map_id' own) q1 hot (cf.calm hot) cf.hN q2 q3 q4 q5 q6 q7 (by rw [cf.N]; exact of_decide_eq_true k1) l1 l2
            | tup ts => unfold isP at h1; cases h1
          | _ => cases h5
      | [], h => unfold isS at h; cases h
      | _ :: _ :: _, h => unfold isS at h; cases h
    | _ => unfold isS at h; cases h
  | .sub o i e, g, X, W, st, cf, po, sf, h => by
    cases st with
    | Assign tgs e' pos =>
      cases tgs with
      | nil => unfold isS at h; cases h
      | cons tg r =>
        cases tg with
        | Subscript o' i' p =>
          cases r with
          | nil =>
            unfold isS at h
            obtain ⟨h, h5⟩ := ba h
            obtain ⟨h, h4⟩ := ba h
            obtain ⟨h, h3⟩ := ba h
            obtain ⟨h1, h2⟩ := ba h
            exact ss_sub (sndE o c X W o' h1 cf).1 (sndE i c X W i' h2 cf).1 (sndE e c X W e' h3 cf).1 h4 h5
          | cons y ys => unfold isS at h; cases h
        | _ => cases r <;> (unfold isS at h; cases h)
    | _ => unfold isS at h; cases h
  | .fld o f e, g, X, W, st, cf, po, sf, h => by
    cases st with
    | Assign tgs e' pos =>
      cases tgs with
      | nil => unfold isS at h; cases h
      | cons tg r =>
        cases tg with
        | Attribute o' f' p =>
          cases r with
          | nil =>
            unfold isS at h
            obtain ⟨h, h4⟩ := ba h
            obtain ⟨h, h3⟩ := ba h
            obtain ⟨h1, h2⟩ := ba h
            have e1 := of_decide_eq_true h1
            subst e1
            exact ss_fld cf.wo.fld (sndE o c X W o' h2 cf).1 (sndE e c X W e' h3 cf).1 h4
          | cons y ys => unfold isS at h; cases h
        | _ => cases r <;> (unfold isS at h; cases h)
    | _ => unfold isS at h; cases h
  | .aug i o e, g, X, W, st, cf, po, sf, h => by
    cases st with
    | AugAssign tg o' e' pos =>
      cases tg with
      | Name x p =>
        unfold isS at h
        obtain ⟨h, h4⟩ := ba h
        obtain ⟨h, h3⟩ := ba h
        obtain ⟨h1, h2⟩ := ba h
        have e1 := of_decide_eq_true h3
        subst e1
        obtain ⟨l1, l2⟩ := cf.hloc h2
        exact ss_aug cf.hN (by rw [cf.N]; exact of_decide_eq_true h1) l1 l2 (sndE e c X W e' h4 cf).1
      | _ => unfold isS at h; cases h
    | _ => unfold isS at h; cases h
  | .iff t a b, g, X, W, st, cf, po, sf, h => by
    cases st with
    | If t' a' b' pos =>
      unfold isS at h
      obtain ⟨h, h3⟩ := ba h
      obtain ⟨h1, h2⟩ := ba h
      exact ss_if (sndE t c X W t' h1 cf).2.1 (sndSs a g X W a' cf po sf h2) (sndSs b g X W b' cf po sf h3)
    | _ => unfold isS at h; cases h
  | .for_ t it b, g, X, W, st, cf, po, sf, h => by
    cases st with
    | For tg iter b' oe pos =>
      cases oe with
      | nil =>
        unfold isS at h
        obtain ⟨h, h4⟩ := ba h
        obtain ⟨h, h3⟩ := ba h
        obtain ⟨h1, h2⟩ := ba h
        exact ss_for po cf.calm (fun _ => sndI it c X W tg iter h2 cf) (fun hot => sndP cf (cf.calm hot) t tg h1) (sndSs b g X W b' cf po sf h4) (fold_no h3 _)
      | cons y ys => unfold isS at h; cases h
    | _ => unfold isS at h; cases h
  | .whl t b, g, X, W, st, cf, po, sf, h => by
    cases st with
    | While t' b' oe pos =>
      cases oe with
      | nil =>
        unfold isS at h
        obtain ⟨h1, h2⟩ := ba h
        exact ss_whl po (sndE t c X W t' h1 cf).2.1 (sndSs b g X W b' cf po sf h2)
      | cons y ys => unfold isS at h; cases h
    | _ => unfold isS at h; cases h
  | .raise n es, g, X, W, st, cf, po, sf, h => by
    cases st with
    | Raise o fr pos =>
      cases o with
      | none => unfold isS at h; cases h
      | some ee =>
        cases fr with
        | some y => unfold isS at h; cases h
        | none =>
          unfold isS at h
          unfold isRs at h
          split at h
          · rename_i x p2 e0 es' p
            obtain ⟨h, h5⟩ := ba h
            obtain ⟨h, h4⟩ := ba h
            obtain ⟨h, h3⟩ := ba h
            obtain ⟨h1, h2⟩ := ba h
            have e1 := of_decide_eq_true h1
            subst e1
            obtain ⟨k1, k2⟩ := cf.wo.xcm _ h4
            exact ss_raise cf (sndEs es c X W (e0 :: es') h5 cf) (cf.gl h2) k1 k2 (dbg1 h3).1 (allStar h5)
          · cases h
    | _ => unfold isS at h; cases h
  | .try_ b hs, g, X, W, st, cf, po, sf, h => by
    cases st with
    | Try b' hds oe fb pos =>
      cases oe with
      | cons y ys => cases hds <;> (unfold isS at h; cases h)
      | nil =>
        cases fb with
        | cons y ys => cases hds <;> (unfold isS at h; cases h)
        | nil =>
          cases hds with
          | nil => unfold isS at h; cases h
          | cons h0 hds =>
            unfold isS at h
            obtain ⟨h1, h2⟩ := ba h
            exact ss_try cf sf (fun hot W' pn xe tk po' => sndSs b g (X.tr pn xe) W' b' (cf.tr hot tk) po' sf h1) fun hot => sndH hs g X W (h0 :: hds) cf hot sf h2
    | _ => unfold isS at h; cases h
theorem sndH : ∀ (hs : Hd) (g : G) (X : Cx) (W : WX) (hds : List ExceptHandler), Cf X g W c k → g.hot = false → StF X → isH c hs hds = true → HdOk X W g hs hds
  | .nil, g, X, W, hds, cf, hot, sf, h => by
    cases hds with
    | nil => exact hd_nil
    | cons y ys => unfold isH at h; cases h
  | .cons x o b r, g, X, W, hds, cf, hot, sf, h => by
    cases hds with
    | nil => unfold isH at h; cases h
    | cons h0 hds =>
      cases h0 with
      | ExceptHandler ty nm su hp =>
        cases ty with
        | none => cases su <;> (unfold isH at h; cases h)
        | some te =>
          cases su with
          | nil => cases te <;> (unfold isH at h; cases h)
          | cons s ss =>
            cases te with
            | Name y np =>
              unfold isH at h
              obtain ⟨h, h7⟩ := ba h
              obtain ⟨h, h6⟩ := ba h
              obtain ⟨h, h5⟩ := ba h
              obtain ⟨h, h4⟩ := ba h
              obtain ⟨h, h3⟩ := ba h
              obtain ⟨h1, h2⟩ := ba h
              have e1 := of_decide_eq_true h1
              subst e1
              exact hd_cons cf hot h2 h3 h4 h5 (fun a oe cls d pn hx z dt hp => sndSs b (gH g hx) (X.suite a ((a, oe) :: pn)) W0 (s :: ss) (cf.suite hot pn z dt hp) PassesOwn.never sf h6) (sndH r g X W hds cf hot sf h7)
            | _ => unfold isH at h; cases h
theorem sndSs : ∀ (As : List S) (g : G) (X : Cx) (W : WX) (sts : List Stmt), Cf X g W c k → PassesOwn (model X.prog X.w) X.A X.env X.xe → StF X → isSs c As sts = true → SB X W g As sts
  | [], g, X, W, [], cf, po, sf, _ => sb_nil
  | [], g, X, W, _ :: _, cf, po, sf, h => by unfold isSs at h; cases h
  | _ :: _, g, X, W, [], cf, po, sf, h => by unfold isSs at h; cases h
  | a :: as, g, X, W, s :: ss, cf, po, sf, h => by
    unfold isSs at h
    obtain ⟨h1, h2⟩ := ba h
    exact sb_cons (sndS a g X W s cf po sf h1) (sndSs as g X W ss cf po sf h2)
end
end
end Ip
end
section
set_option Elab.async false
set_option linter.all false
set_option maxRecDepth 100000
set_option maxHeartbeats 1000000
/-! every def of a table keeps what the machine tells, level by level -/
namespace Ip
open PySem L2
abbrev Hx := Option (Nat × Nat × Str)
abbrev Lev := Option Hx → FKey → List D → M D
def endF : RS → R D
  | .ret d h => .ok d h
  | .next _ h => .ok .non h
  | .exc c fs _ h => .exc c fs h
  | _ => .bad
noncomputable def runF (g : G) (fn : Fn) (ds : List D) : M D := fun h => if ds.length = fn.params.length then endF (execSs g fn.body (ds.map some ++ List.replicate (fn.names.length - ds.length) none) h) else .bad
def gC (gb : G) (k : Nat) (L L' : Lev) : G := { gb with cf := L none, cm := L' none, ch := fun hx => L (some hx), hot := false, hx := none, xc := if 2 ≤ k then gb.xc else fun _ => none, prp := if 1 ≤ k then gb.prp else fun _ _ => false }
def gY (gb : G) (L : Lev) (hx : Hx) : G := { gb with cf := L (some hx), cm := fun _ _ => fail, ch := fun _ _ _ => fail, hot := true, hx := hx, xc := fun _ => none, prp := fun _ _ => false }
noncomputable def step (T : FKey → Option Fn) (gb : G) (k : Nat) (L L' : Lev) : Lev := fun m key ds => match T key with
  | none => fail
  | some fn => match m with
    | none => runF (gC gb k L L') fn ds
    | some hx => runF (gY gb L hx) fn ds
noncomputable def lvs (T : FKey → Option Fn) (gb : G) : Nat → Lev × Lev
  | 0 => (fun _ _ _ => fail, fun _ _ _ => fail)
  | k + 1 => (step T gb k (lvs T gb k).1 (lvs T gb k).2, (lvs T gb k).1)
/-- the names of the module's top, by kind -/
structure Sv where
  fns : List Str
  mks : List Str
  gls : List Str
  frees : List Str
  xcs : List Str
  xns : List Str
def Sv.sc (v : Sv) (sc : Scope) (N : List Str) : SC := ⟨sc, fun _ => true, N, v.fns, v.mks, v.gls, v.frees, v.xcs, v.xns⟩
/-- a def as it stands in the written part -/
def DfOk (K : PySem.W.Frag) (v : Sv) (a : Addr) (fd : FuncData) (fn : Fn) : Prop := ∃ (name qual : Str) (params : Arguments) (body : List Stmt) (scope : Scope) (dV kV doc pm cdv ct oc : Value) (an od : Option Addr) (osl : Array (Option Value)),
  fd = PySem.W.fnOf name qual params body scope dV kV doc pm an cdv ct ∧ K.lookup a = some ⟨oc, od, .func fd, osl⟩ ∧ PySem.W.codeIn K cdv qual = true ∧ FnScope fn.names fn.params scope ∧ Binds K fd fn.params [] ∧ isSs (v.sc scope fn.names) fn.body body = true
structure Tp (P : Program) (w : World) (K : PySem.W.Frag) (mg : Str → Option Value) (base : Heap) (T : FKey → Option Fn) (gb : G) (v : Sv) (ad : FKey → Addr) (fd : FKey → FuncData) : Prop where
  isok : IsOk K gb
  fld : FldOk K gb
  gl : ∀ x d, v.gls.contains x = true → gb.gl x = some d → ∃ u v, mg x = some u ∧ RelV v u ∧ ∀ ρ H, RV K ρ H d v
  free : ∀ x, v.frees.contains x = true → mg x = none
  fnk : ∀ f, v.fns.contains f = true → (∃ fn, T (f, none) = some fn) ∧ mg f = some (.ref (ad (f, none))) ∧ PySem.W.keepIn K (.ref (ad (f, none))) = true
  mak : ∀ f, v.mks.contains f = true → mg f = some (.ref (He.ga K f)) ∧ PySem.W.keepIn K (.ref (He.ga K f)) = true ∧ (∃ fn, T (f, some "__init__") = some fn) ∧ Mk K (He.ga K f) (ad (f, some "__init__"))
  xcm : ∀ n, v.xcs.contains n = true → mg n = some (.ref (He.ga K n)) ∧ PySem.W.keepIn K (.ref (He.ga K n)) = true
  xc : ∀ n fl arg, gb.xc n = some (fl, arg) → ∃ f fd, OexC K (He.ga K n) ∧ PySem.W.findIn K (.ref (He.ga K n)) "__init__" = some (some (.ref f)) ∧ PySem.W.typeIn K (.ref f) = some (.type "function") ∧ fl.length ≤ 100 ∧ Binds K fd (xP fl) [] ∧
    ∀ k, FnOk P w K mg base (L2N.CX P w) (k + 1) f fd (xP fl) (spX K (He.ga K n) (fslots fl) arg)
  xf : XcF K gb
  prp : ∀ cl f, gb.prp cl f = true → ∃ p, (∃ fn, T (cl, some f) = some fn) ∧ Cls K (He.ga K cl) ∧ PropOf K (He.ga K cl) f p (ad (cl, some f))
  exm : ∀ x, v.xns.contains x = true → ∃ v, (mg x = some v ∨ (mg x = none ∧ bootBuiltins x = some v ∧ x ≠ "__name__")) ∧ ∀ cl b, gb.exm cl x = some b → PySem.W.exmOne K (.ref (He.ga K cl)) v = some b
  mth : ∀ cl m, gb.mth cl m = true → (∃ fn, T (cl, some m) = some fn) ∧ Cls K (He.ga K cl) ∧ Meth K (He.ga K cl) m (ad (cl, some m))
  ows : OwS K gb
  ow : ∀ cl m, Ow gb cl m → (∃ fn, T (cl, some m) = some fn) ∧ PySem.W.findIn K (.ref (He.ga K cl)) m = some (some (.ref (ad (cl, some m)))) ∧ PySem.W.isFn K (.ref (ad (cl, some m))) = true
  df : ∀ key fn, T key = some fn → DfOk K v (ad key) (fd key) fn
section
variable {P : Program} {w : World} {K : PySem.W.Frag} {mg : Str → Option Value} {base : Heap} {T : FKey → Option Fn} {gb : G} {v : Sv} {ad : FKey → Addr} {fd : FKey → FuncData}
/-- the promise of a level -/
def LvOk (P : Program) (w : World) (K : PySem.W.Frag) (mg : Str → Option Value) (base : Heap) (T : FKey → Option Fn) (gb : G) (ad : FKey → Addr) (fd : FKey → FuncData) (k : Nat) : Prop :=
  (∀ key fn, T key = some fn → FnOk P w K mg base (L2N.CX P w) k (ad key) (fd key) fn.params (spF K ((lvs T gb k).1 none key))) ∧
  ∀ hx key fn, T key = some fn → FnY P w K mg base (L2N.CX P w) k hx (ad key) (fd key) fn.params (spF K ((lvs T gb k).1 (some hx) key))
theorem Tp.bd (t : Tp P w K mg base T gb v ad fd) {key : FKey} {fn : Fn} (e : T key = some fn) : Binds K (fd key) fn.params [] := by
  obtain ⟨_, _, _, _, _, _, _, _, _, _, _, _, _, _, _, _, _, _, _, b, _⟩ := t.df key fn e
  exact b
theorem wo_cold {X : Cx} (t : Tp X.prog X.w X.K X.mg X.base T gb v ad fd) {k : Nat} (ih : ∀ j, j ≤ k → LvOk X.prog X.w X.K X.mg X.base T gb ad fd j) (scope : Scope) (N : List Str) : Wo X (gC gb k (lvs T gb k).1 (lvs T gb k).2) (v.sc scope N) k where
  isok := ⟨t.isok.one, t.isok.ist⟩
  fld := t.fld
  gl := t.gl
  free := t.free
  cf := fun f h => by
    obtain ⟨⟨fn, e⟩, h1, h2⟩ := t.fnk f h
    exact ⟨_, _, _, h1, h2, t.bd e, (ih k (Nat.le_refl _)).1 _ fn e⟩
  mak := fun f h => by
    obtain ⟨h1, h2, ⟨fn, e⟩, h3⟩ := t.mak f h
    refine ⟨h1, h2, ?_⟩
    cases k with
    | zero => exact .inr fun _ _ => rfl
    | succ j => exact .inl ⟨_, _, _, j, rfl, rfl, h3, t.bd e, (ih j (Nat.le_succ _)).1 _ fn e⟩
  xcm := t.xcm
  xc := fun n fl arg h => by
    have h : (if 2 ≤ k then gb.xc else fun _ => none) n = some (fl, arg) := h
    by_cases hk : 2 ≤ k
    · rw [if_pos hk] at h
      obtain ⟨f, fd, h1, h2, h3, h4, h5, h6⟩ := t.xc n fl arg h
      obtain ⟨j, rfl⟩ : ∃ j, k = j + 2 := ⟨k - 2, by omega⟩
      exact ⟨f, fd, j + 1, rfl, h1, h2, h3, h4, h5, h6 j⟩
    · rw [if_neg hk] at h; cases h
  xf := ⟨t.xf.fd, t.xf.iz⟩
  prp := fun cl f h _ => by
    have h : (if 1 ≤ k then gb.prp else fun _ _ => false) cl f = true := h
    by_cases hk : 1 ≤ k
    · rw [if_pos hk] at h
      obtain ⟨p, ⟨fn, e⟩, h1, h2⟩ := t.prp cl f h
      obtain ⟨j, rfl⟩ : ∃ j, k = j + 1 := ⟨k - 1, by omega⟩
      exact ⟨p, _, _, _, j, rfl, h1, h2, (ih j (Nat.le_succ _)).1 _ fn e, t.bd e⟩
    · rw [if_neg hk] at h; cases h
  exm := t.exm
  ch := fun _ hx f h => by
    obtain ⟨⟨fn, e⟩, h1, h2⟩ := t.fnk f h
    exact ⟨_, _, _, h1, h2, t.bd e, (ih k (Nat.le_refl _)).2 hx _ fn e⟩
  chm := fun _ hx cl m h => by
    obtain ⟨⟨fn, e⟩, h1, h2⟩ := t.mth cl m h
    exact ⟨_, _, _, h1, h2, t.bd e, (ih k (Nat.le_refl _)).2 hx _ fn e⟩
  mth := fun cl m h => by
    obtain ⟨⟨fn, e⟩, h1, h2⟩ := t.mth cl m h
    exact ⟨_, _, _, h1, h2, t.bd e, (ih k (Nat.le_refl _)).1 _ fn e⟩
  ows := ⟨t.ows.opo, t.ows.opi, t.ows.opu, t.ows.eqo⟩
  ow := fun cl m h => by
    obtain ⟨⟨fn, e⟩, h1, h2⟩ := t.ow cl m h
    exact ⟨_, _, _, h1, h2, t.bd e, (ih k (Nat.le_refl _)).1 _ fn e⟩
  owh := fun _ hx cl m h => by
    obtain ⟨⟨fn, e⟩, h1, h2⟩ := t.ow cl m h
    exact ⟨_, _, _, h1, h2, t.bd e, (ih k (Nat.le_refl _)).2 hx _ fn e⟩
  own := fun cl c h _ => by
    obtain ⟨⟨fn, e⟩, h1, h2⟩ := t.ow cl _ (.inr (.inr (.inr ⟨c, h, rfl⟩)))
    cases k with
    | zero => exact .inr fun _ _ => rfl
    | succ j => exact .inl ⟨_, _, _, j, rfl, h1, h2, t.bd e, (ih j (Nat.le_succ _)).1 _ fn e⟩
theorem wo_hot {X : Cx} (t : Tp X.prog X.w X.K X.mg X.base T gb v ad fd) {k : Nat} (ih : LvOk X.prog X.w X.K X.mg X.base T gb ad fd k) (hx : Hx) (scope : Scope) (N : List Str) : Wo X (gY gb (lvs T gb k).1 hx) (v.sc scope N) k where
  isok := ⟨t.isok.one, t.isok.ist⟩
  fld := t.fld
  gl := t.gl
  free := t.free
  cf := fun f h => by
    obtain ⟨⟨fn, e⟩, h1, h2⟩ := t.fnk f h
    exact ⟨_, _, _, h1, h2, t.bd e, ih.2 hx _ fn e⟩
  mak := fun f h => by
    obtain ⟨h1, h2, _⟩ := t.mak f h
    exact ⟨h1, h2, .inr fun _ _ => rfl⟩
  xcm := t.xcm
  xc := fun n fl arg h => nomatch h
  xf := ⟨t.xf.fd, t.xf.iz⟩
  prp := fun cl f h _ => nomatch h
  exm := t.exm
  ch := fun h => nomatch h
  chm := fun h => nomatch h
  mth := fun cl m h => by
    obtain ⟨⟨fn, e⟩, h1, h2⟩ := t.mth cl m h
    exact ⟨_, _, _, h1, h2, t.bd e, ih.2 hx _ fn e⟩
  ows := ⟨t.ows.opo, t.ows.opi, t.ows.opu, t.ows.eqo⟩
  ow := fun cl m h => by
    obtain ⟨⟨fn, e⟩, h1, h2⟩ := t.ow cl m h
    exact ⟨_, _, _, h1, h2, t.bd e, ih.2 hx _ fn e⟩
  owh := fun h => nomatch h
  own := fun _ _ _ h => nomatch h
theorem RSl.start {ρ : List Addr} {H : Hp} {ds : List D} {vs : List V} (r : RVs K ρ H ds vs) (N : List Str) : RSl K ρ H (ds.map some ++ List.replicate (N.length - ds.length) none) (L2.start N vs) := by
  have hl := r.length
  unfold L2.start
  refine ⟨by simp [hl], fun i d e => ?_⟩
  by_cases hi : i < ds.length
  · rw [List.getElem?_append_left (by simpa using hi), List.getElem?_map] at e
    cases q : ds[i]? with
    | none => rw [q] at e; cases e
    | some d0 =>
      rw [q] at e
      cases e
      obtain ⟨v, ev, rv⟩ := r.get q
      refine ⟨v, ?_, rv⟩
      rw [List.getElem?_append_left (by simp [hl, hi]), List.getElem?_map, ev]
      rfl
  · rw [List.getElem?_append_right (by simpa using hi), List.getElem?_replicate] at e
    split at e <;> cases e
theorem endF_ok {E : XK} {ρ : List Addr} {H : Hp} {Q : VK} {r : RS} (p : Po K (relV K) E ρ H Q (endF r)) : PoS K (fun c d _ H' => E c d H') ρ H { nx := fun _ H' => Q .non H', rt := Q } r := by
  cases r with
  | next δ h => exact fun ρ' H' σ' x rl sl => p ρ' H' .non x rl rfl
  | ret d h => exact p
  | brk δ h => exact False.elim p
  | cont δ h => exact False.elim p
  | exc c fs δ h => exact fun ρ' H' d σ' x rl sl xr => p ρ' H' d x rl xr
  | bad => exact False.elim p
theorem runF_len {g : G} {fn : Fn} {vs : List V} {H : Hp} {Q : VK} {E : XK} (h : spF K (runF g fn) vs H Q E) : vs.length = fn.params.length := by
  obtain ⟨ρ, hh, ds, rl, rs, p⟩ := h
  unfold runF at p
  by_cases e : ds.length = fn.params.length
  · rw [rs.length]; exact e
  · rw [if_neg e] at p; exact False.elim p
theorem runF_ok {g : G} {fn : Fn} {vs : List V} {H : Hp} {Q : VK} {E : XK} (h : spF K (runF g fn) vs H Q E) : rdS K (fun c d _ H' => E c d H') (execSs g fn.body) { nx := fun _ H' => Q .non H', rt := Q } (L2.start fn.names vs) H := by
  obtain ⟨ρ, hh, ds, rl, rs, p⟩ := h
  unfold runF at p
  by_cases e : ds.length = fn.params.length
  · rw [if_pos e] at p
    exact ⟨ρ, hh, _, rl, RSl.start rs fn.names, endF_ok p⟩
  · rw [if_neg e] at p; exact False.elim p
/-- a def where an error is handled -/
theorem fnY_of {CX : CXT} {k : Nat} {hx : Hx} {f : Addr} {name qual : Str} {params : Arguments} {body : List Stmt} {scope : Scope} {dV kV doc pm cdv ct oc : Value} {an od : Option Addr} {osl : Array (Option Value)} {N ps : List Str} {sp : Sp}
    (lk : K.lookup f = some ⟨oc, od, .func (PySem.W.fnOf name qual params body scope dV kV doc pm an cdv ct), osl⟩) (hcd : PySem.W.codeIn K cdv qual = true) (S : FnScope N ps scope) (len : ∀ vs H Q E, sp vs H Q E → vs.length = ps.length)
    (hbody : ∀ (A : Around) (outer : List Env) (s : Shared) (H : Hp) (vs : List V) (Q : VK) (E : XK) (p : Addr × Obj), L2H.Hot1 A p → HxP K hx p → L2H.RoomH k (A.deeper (PyProof.Rows.envOfC qual scope s.heap.objs.size f cdv)) → sp vs H Q E →
      ∃ t, PSs (L2H.cxH CX P w K mg base N qual scope f cdv A outer s H E p) body t ∧ t { nx := fun _ H' => Q .non H', rt := Q } (L2.start N vs) H) :
    FnY P w K mg base CX (k + 1) hx f (PySem.W.fnOf name qual params body scope dV kV doc pm an cdv ct) ps sp := by
  refine ⟨len, fun A outer s H args us vs Q E p room hot hp pin e0 bind rel want => ?_⟩
  have held : K.In s.heap := e0.mod.kin.keeps fun b o e => (e0.bs b o e).1
  have lim : s.heap.NoLimit := e0.mod.nolimit.keeps fun b o e => (e0.bs b o e).1
  refine codeAny_call_function room.depth (held _ _ lk) rfl S.co S.gen rfl (PySem.W.codeRec_of held hcd) (bind _ _ _ _ ?_)
  refine wpAny_newFunctionEnv_cells S.kind (fun y hy => ?_) fun env he s1 x => ?_
  · rcases S.par y.1 (List.of_mem_zip hy).1 with q | q
    · exact .inl q
    · exact .inr ⟨q, PySem.W.cellsFrom_some _ _ _ (.inl q)⟩
  · subst he
    refine ⟨lim.keeps x.toInCall.keep, codeAny_func ?_⟩
    obtain ⟨t, ht, hq⟩ := hbody A outer s H vs Q E p hot hp (room.deeper _) want
    have I := L2H.inv_startH (CX := CX) (E := E) (cd := cdv) S pin e0 (len _ _ _ _ want) rel x
    refine wpAny_mono (ht.run [] s1 (L2.start N vs) H _ I hq) (fun fl s' got => ?_) fun _ _ z => z
    cases fl with
    | ret u => obtain ⟨v, σ', H', J, rv, q⟩ := got; exact ⟨v, H', J.os, J.bare, J.base, J.hok, rv, q⟩
    | next => obtain ⟨σ', H', J, q⟩ := got; exact ⟨.non, H', J.os, J.bare, J.base, J.hok, rfl, q⟩
    | brk => obtain ⟨_, _, _, q⟩ := got; exact False.elim q
    | cont => obtain ⟨_, _, _, q⟩ := got; exact False.elim q
theorem lv_zero : LvOk P w K mg base T gb ad fd 0 := by
  refine ⟨fun key fn e => ⟨fun vs H Q E h => ?_, fun A outer s H args us vs Q E _ _ _ _ h => ?_⟩, fun hx key fn e => ⟨fun vs H Q E h => ?_, fun A outer s H args us vs Q E p _ _ _ _ _ _ _ h => ?_⟩⟩
  all_goals
    obtain ⟨ρ, hh, ds, rl, rs, p⟩ := h
    exact False.elim p
theorem lv_succ (t : Tp P w K mg base T gb v ad fd) {k : Nat} (ih : ∀ j, j ≤ k → LvOk P w K mg base T gb ad fd j) : LvOk P w K mg base T gb ad fd (k + 1) := by
  refine ⟨fun key fn e => ?_, fun hx key fn e => ?_⟩
  · obtain ⟨name, qual, params, body, scope, dV, kV, doc, pm, cdv, ct, oc, an, od, osl, ef, lk, hcd, S, b, chk⟩ := t.df key fn e
    have em : (lvs T gb (k + 1)).1 none key = runF (gC gb k (lvs T gb k).1 (lvs T gb k).2) fn := by
      funext ds
      show step T gb k (lvs T gb k).1 (lvs T gb k).2 none key ds = _
      unfold step
      rw [e]
    rw [em]
    rw [ef] at lk ⊢
    refine fn_of lk hcd S (fun vs H Q E h => runF_len h) fun A outer s H vs Q E hr h => ⟨_, ?_, runF_ok h⟩
    have cf : Cf (cxOf (L2N.CX P w) P w K mg base fn.names qual scope (ad key) cdv A outer s H E) (gC gb k (lvs T gb k).1 (lvs T gb k).2) (fun c d _ H' => E c d H') (v.sc scope fn.names) k :=
      ⟨rfl, S.nd, rfl, fun _ => rfl, by have := hr.un; show (A.deeper _).units + 64 < cLine; omega, fun _ => rfl, fun _ => hr, (fun z => nomatch z), L2N.takes_of rfl rfl rfl rfl, wo_cold (X := cxOf (L2N.CX P w) P w K mg base fn.names qual scope (ad key) cdv A outer s H E) t ih scope fn.names⟩
    exact sndSs fn.body _ _ _ body cf (passes_of (X := cxOf (L2N.CX P w) P w K mg base fn.names qual scope (ad key) cdv A outer s H E) rfl) ⟨rfl, rfl⟩ chk
  · obtain ⟨name, qual, params, body, scope, dV, kV, doc, pm, cdv, ct, oc, an, od, osl, ef, lk, hcd, S, b, chk⟩ := t.df key fn e
    have em : (lvs T gb (k + 1)).1 (some hx) key = runF (gY gb (lvs T gb k).1 hx) fn := by
      funext ds
      show step T gb k (lvs T gb k).1 (lvs T gb k).2 (some hx) key ds = _
      unfold step
      rw [e]
    rw [em]
    rw [ef] at lk ⊢
    refine fnY_of lk hcd S (fun vs H Q E h => runF_len h) fun A outer s H vs Q E p hot hp hr h => ⟨_, ?_, runF_ok h⟩
    have cf : Cf (L2H.cxH (L2N.CX P w) P w K mg base fn.names qual scope (ad key) cdv A outer s H E p) (gY gb (lvs T gb k).1 hx) (fun c d _ H' => E c d H') (v.sc scope fn.names) k :=
      ⟨rfl, S.nd, rfl, fun _ => rfl, by have := hr.un; show (A.deeper _).units + 64 < cLine; omega, (fun z => nomatch z), (fun z => nomatch z), fun _ => ⟨hr, p, ⟨hot.1, hot.2⟩, .head _, hp⟩, L2N.takes_of rfl rfl rfl rfl, wo_hot (X := L2H.cxH (L2N.CX P w) P w K mg base fn.names qual scope (ad key) cdv A outer s H E p) t (ih k (Nat.le_refl _)) hx scope fn.names⟩
    exact sndSs fn.body _ _ _ body cf (passes_of (X := L2H.cxH (L2N.CX P w) P w K mg base fn.names qual scope (ad key) cdv A outer s H E p) rfl) ⟨rfl, rfl⟩ chk
theorem levels (t : Tp P w K mg base T gb v ad fd) (k : Nat) : LvOk P w K mg base T gb ad fd k := by
  have all : ∀ k, ∀ j, j ≤ k → LvOk P w K mg base T gb ad fd j := by
    intro k
    induction k with
    | zero => intro j hj; obtain rfl : j = 0 := by omega
              exact lv_zero
    | succ k ih =>
      intro j hj
      by_cases e : j = k + 1
      · subst e; exact lv_succ t ih
      · exact ih j (by omega)
  exact all k k (Nat.le_refl _)
end
end Ip
end
section
set_option Elab.async false
set_option linter.all false
set_option maxRecDepth 100000
set_option maxHeartbeats 1000000
/-! the binding of parameters -/
namespace Ip
open PySem L2
theorem lookup_zip_none {ps : List Str} {us : List Value} {n : Str} (h : n ∉ ps) : (ps.zip us).lookup n = none := by
  induction ps generalizing us with
  | nil => rfl
  | cons p ps ih =>
    cases us with
    | nil => rfl
    | cons u us =>
      rw [List.zip_cons_cons, List.lookup_cons]
      have h1 : (n == p) = false := by
        cases q : n == p with
        | false => rfl
        | true => exact absurd (by rw [eq_of_beq q]; exact List.mem_cons_self ..) h
      rw [h1]
      exact ih fun m => h (List.mem_cons_of_mem _ m)
theorem zip_pick {all : List (Str × Value)} : ∀ {ps : List Str} {us : List Value}, us.length = ps.length → (∀ p ∈ ps.zip us, all.lookup p.1 = some p.2) → ps.filterMap (fun n => (all.lookup n).map (n, ·)) = ps.zip us
  | [], [], _, _ => rfl
  | [], _ :: _, h, _ => by cases h
  | _ :: _, [], h, _ => by cases h
  | p :: ps, u :: us, h, k => by
    have k0 := k (p, u) (List.mem_cons_self ..)
    rw [List.filterMap_cons, k0]
    show (p, u) :: _ = _
    rw [zip_pick (by simpa using h) fun q m => k q (List.mem_cons_of_mem _ m), List.zip_cons_cons]
theorem zip_look : ∀ {ps : List Str} {us : List Value}, ps.Nodup → ∀ p ∈ ps.zip us, (ps.zip us).lookup p.1 = some p.2
  | [], _, _, _, m => by cases m
  | _ :: _, [], _, _, m => by cases m
  | p :: ps, u :: us, nd, q, m => by
    rw [List.zip_cons_cons] at m ⊢
    rw [List.lookup_cons]
    rw [List.nodup_cons] at nd
    rcases List.mem_cons.mp m with rfl | m
    · simp
    · have hne : (q.1 == p) = false := by
        cases e : q.1 == p with
        | false => rfl
        | true => exact absurd (by rw [← eq_of_beq e]; exact (List.of_mem_zip m).1) nd.1
      rw [hne]
      exact zip_look nd.2 q m
theorem bind_all {fd : FuncData} {us : List Value} {args : List Arg} {kd : List (Option Expr)} {df : List Expr} (hp : fd.params = ⟨[], args, none, [], kd, none, df⟩) (hd : fd.defaults = .none) (nd : (args.map (·.arg)).Nodup) (hl : us.length = (args.map (·.arg)).length) :
    bindArgs fd ⟨us, []⟩ = pure ((args.map (·.arg)).zip us) := by
  have e1 := zip_pick (all := (args.map (·.arg)).zip us) hl (zip_look nd)
  have e2 : ((args.map (·.arg)).filter fun n => (((args.map (·.arg)).zip us).lookup n).isNone) = [] := by
    rw [List.filter_eq_nil_iff]
    intro n hn
    obtain ⟨i, hi, e⟩ := List.mem_iff_getElem.mp hn
    have hz : (n, us[i]'(by rw [hl]; exact hi)) ∈ (args.map (·.arg)).zip us := by
      rw [List.mem_iff_getElem]
      exact ⟨i, by simp; simp at hi hl; omega, by rw [List.getElem_zip]; rw [e]⟩
    rw [zip_look nd _ hz]
    simp
  unfold bindArgs
  simp only [hp, hd, List.map_nil, List.nil_append, List.length_nil]
  have hs : seqItems? .none = pure none := rfl
  rw [hs]
  simp only [List.forIn_nil, pure_bind, Option.getD_none, Option.isNone_none, List.drop_nil, List.append_nil]
  have hg : ¬ (us.length > (args.map (·.arg)).length) := by omega
  simp only [hg, decide_false, Bool.false_and, Bool.false_eq_true, if_false]
  simp only [List.length_nil, Nat.sub_zero, List.drop_nil, Nat.zero_sub, List.take_length, e2, List.isEmpty_nil, Bool.not_true, Bool.false_eq_true, if_false, List.zip_nil_right, List.forIn_nil, pure_bind, e1]
end Ip
end
section
set_option Elab.async false
set_option linter.all false
set_option maxRecDepth 100000
set_option maxHeartbeats 1000000
/-! what the head must say, as one Bool over the written part -/
namespace Ip
open PySem L2
inductive Tk where
  | ty (n : String) | cls (c : Str)
  deriving DecidableEq
def Tk.d : Tk → D
  | .ty n => .ty n
  | .cls c => .cls c
def tkOf : D → Option Tk
  | .ty n => some (.ty n)
  | .cls c => some (.cls c)
  | _ => none
theorem tkOf_d {d : D} {k : Tk} (h : tkOf d = some k) : d = k.d := by
  cases d <;> cases h <;> rfl
structure Df where
  key : FKey
  name : Str
  qual : Str
  st : Stmt
  fn : Fn
structure Xf where
  name : Str
  qual : Str
  st : Stmt
  fl : List Str
  arg : E
structure Spc where
  dfs : List Df
  xfs : List Xf
  fns : List Str
  mks : List Str
  gls : List (Str × D)
  frees : List Str
  xns : List (Str × Option String)
  flds : List (Str × Str)
  mths : List (Str × Str)
  prps : List (Str × Str)
  opo : List (Str × Operator)
  opi : List (Str × Operator)
  opu : List Str
  eqo : List (Str × Tk)
  isi : List ((Tk × Tk) × Bool)
  ist : List Str
  xfd : List (Str × Str)
  xiz : List Str
  exm : List ((Str × Str) × Bool)
  fuel : Nat
namespace Spc
def df (S : Spc) (key : FKey) : Option Df := S.dfs.find? fun d => decide (d.key = key)
def T (S : Spc) (key : FKey) : Option Fn := (S.df key).map (·.fn)
def xf (S : Spc) (n : Str) : Option Xf := S.xfs.find? fun d => decide (d.name = n)
def gb (S : Spc) : G where
  cf := fun _ _ => fail
  cm := fun _ _ => fail
  gl := fun x => S.gls.lookup x
  fld := fun c f => S.flds.contains (c, f)
  mth := fun c f => S.mths.contains (c, f)
  opo := fun c o => S.opo.contains (c, o)
  opi := fun c o => S.opi.contains (c, o)
  opu := fun c => S.opu.contains c
  eqo := fun c t => match tkOf t with
    | some k => S.eqo.contains (c, k)
    | none => false
  isi := fun t c => match tkOf t, tkOf c with
    | some a, some b => S.isi.lookup (a, b)
    | _, _ => none
  ist := fun c => S.ist.contains c
  xc := fun n => (S.xf n).map fun x => (x.fl, x.arg)
  hx := none
  xfd := fun c f => S.xfd.contains (c, f)
  xiz := fun c => S.xiz.contains c
  prp := fun c f => S.prps.contains (c, f)
  exm := fun c x => S.exm.lookup (c, x)
  ch := fun _ _ _ => fail
  fuel := S.fuel
  hot := false
def sv (S : Spc) : Sv := ⟨S.fns, S.mks, S.gls.map (·.1), S.frees, S.xfs.map (·.name), S.xns.map (·.1)⟩
/-! ### where the defs stand -/
def ad (S : Spc) (K : PySem.W.Frag) (key : FKey) : Addr := match key.2 with
  | none => He.ga K key.1
  | some m => match S.prps.contains (key.1, m) with
    | true => (match PySem.W.recIn K (He.ma K (He.ga K key.1) m) "property" with
      | some (.ref g :: _) => g
      | _ => 0)
    | false => He.ma K (He.ga K key.1) m
def fdI (K : PySem.W.Frag) (a : Addr) : FuncData := match K.lookup a with
  | some ⟨_, _, .func fd, _⟩ => fd
  | _ => default
end Spc
abbrev FnX : Type := Option (Str × Str × Arguments × FuncBody × Scope × Addr × Addr)
def fnI (K : PySem.W.Frag) (a : Addr) : He.FnW := match K.lookup a with
  | some ⟨_, _, .func fd, _⟩ => some (fd.name, fd.qualname, fd.params, fd.body, fd.scope, fd.globals, fd.closure, fd.builtins)
  | _ => none
def fnXo (K : PySem.W.Frag) (a : Addr) : FnX := match K.lookup a with
  | some ⟨_, _, .func fd, _⟩ => some (fd.name, fd.qualname, fd.params, fd.body, fd.scope, fd.globals, fd.builtins)
  | _ => none
def Df.val (d : Df) : He.FnW := some (d.name, d.qual, defArgs d.st, .stmts (defBody d.st), defScope d.st, mainGlobals, [], builtinsNs)
def Xf.val (d : Xf) : FnX := some ("__init__", d.qual, defArgs d.st, .stmts (defBody d.st), defScope d.st, mainGlobals, builtinsNs)
/-! ### checks of the text -/
def fscB (N P : List Str) (sc : Scope) : Bool := decide (sc.kind = .function) && !sc.isCoroutine && !sc.isGenerator && decide N.Nodup && decide (N.take P.length = P) && P.all (fun x => decide (sc.names.lookup x = some .local) || decide (sc.names.lookup x = some .cell)) && sc.names.all fun y => !decide (y.2 = .free)
theorem fscB_ok {N P : List Str} {sc : Scope} (h : fscB N P sc = true) : FnScope N P sc := by
  simp only [fscB, Bool.and_eq_true, decide_eq_true_eq, Bool.not_eq_true', List.all_eq_true, Bool.or_eq_true, decide_eq_false_iff_not] at h
  obtain ⟨⟨⟨⟨⟨⟨h1, h2⟩, h3⟩, h4⟩, h5⟩, h6⟩, h7⟩ := h
  exact ⟨h1, h2, h3, h4, h5, h6, h7⟩
def prB (ps : List Str) (a : Arguments) : Bool := a.posonlyargs.isEmpty && a.vararg.isNone && a.kwonlyargs.isEmpty && a.kwarg.isNone && decide (a.args.map (·.arg) = ps)
theorem prB_ok {ps : List Str} {a : Arguments} (h : prB ps a = true) : ∃ args kd df, a = ⟨[], args, none, [], kd, none, df⟩ ∧ args.map (·.arg) = ps := by
  obtain ⟨po, ar, va, ko, kd, kw, df⟩ := a
  simp only [prB, Bool.and_eq_true, decide_eq_true_eq, List.isEmpty_iff, Option.isNone_iff_eq_none] at h
  obtain ⟨⟨⟨⟨h1, h2⟩, h3⟩, h4⟩, h5⟩ := h
  subst h1 h2 h3 h4
  exact ⟨ar, kd, df, rfl, h5⟩
def stDf (v : Sv) (d : Df) : Bool := fscB d.fn.names d.fn.params (defScope d.st) && prB d.fn.params (defArgs d.st) && isSs (v.sc (defScope d.st) d.fn.names) d.fn.body (defBody d.st)
def stXf (x : Xf) : Bool := NdefX.nscB (xN x.fl) (xP x.fl) xR (defScope x.st) && !x.fl.isEmpty && decide (x.fl.length ≤ 100) && prB (xP x.fl) (defArgs x.st) && isX (xN x.fl) (defScope x.st) x.arg (fslots x.fl) (defBody x.st) && decide ((defScope x.st).names.lookup ("super" : Str) = some .globalImplicit) && decide ((defScope x.st).names.lookup ("__class__" : Str) = some .free)
/-! ### checks of the written part -/
mutual
def dvB (K : PySem.W.Frag) : D → Value → Bool
  | .non, .none => true
  | .bl b, .bool c => b == c
  | .int i, .int j _ => decide (i = j)
  | .str x, .str y _ => decide (x = y)
  | .cls c, .ref a => decide (a = He.ga K c)
  | .ty n, .type m => decide (n = m)
  | .tup l, .ref p => match K.lookup p with
    | some ⟨.type c, _, .seq its _, _⟩ => decide (c = "tuple") && (decide (its.size ≤ sizeLine) && dvBs K l its.toList)
    | _ => false
  | .rol l, .ref p => match K.lookup p with
    | some ⟨.type c, none, .seq its _, _⟩ => decide (c = "list") && (decide (its.size ≤ sizeLine) && dvBs K l its.toList)
    | _ => false
  | _, _ => false
def dvBs (K : PySem.W.Frag) : List D → List Value → Bool
  | [], [] => true
  | d :: ds, u :: us => dvB K d u && dvBs K ds us
  | _, _ => false
end
mutual
theorem dvB_ok {K : PySem.W.Frag} : ∀ (d : D) (u : Value), dvB K d u = true → ∃ v, RelV v u ∧ ∀ ρ H, RV K ρ H d v
  | .non, u, h => by
    cases u with
    | none => exact ⟨.non, rfl, fun _ _ => rfl⟩
    | _ => unfold dvB at h; cases h
  | .bl b, u, h => by
    cases u with
    | bool c => unfold dvB at h; rw [eq_of_beq h]; exact ⟨.bl c, rfl, fun _ _ => rfl⟩
    | _ => unfold dvB at h; cases h
  | .int i, u, h => by
    cases u with
    | int j t => unfold dvB at h; rw [of_decide_eq_true h]; exact ⟨.int j, ⟨t, rfl⟩, fun _ _ => rfl⟩
    | _ => unfold dvB at h; cases h
  | .str i, u, h => by
    cases u with
    | str j t => unfold dvB at h; rw [of_decide_eq_true h]; exact ⟨.str j, ⟨t, rfl⟩, fun _ _ => rfl⟩
    | _ => unfold dvB at h; cases h
  | .cls c, u, h => by
    cases u with
    | ref a => unfold dvB at h; rw [of_decide_eq_true h]; exact ⟨.ref _, rfl, fun _ _ => rfl⟩
    | _ => unfold dvB at h; cases h
  | .ty n, u, h => by
    cases u with
    | type m => unfold dvB at h; rw [of_decide_eq_true h]; exact ⟨.ty m, rfl, fun _ _ => rfl⟩
    | _ => unfold dvB at h; cases h
  | .tup l, u, h => by
    cases u with
    | ref p =>
      unfold dvB at h
      split at h
      · rename_i c dd its n sl q
        obtain ⟨h1, h⟩ := ba h
        obtain ⟨h2, h3⟩ := ba h
        obtain ⟨vs, r1, r2⟩ := dvBs_ok l its.toList h3
        exact ⟨.ref p, rfl, fun ρ H => ⟨p, vs, rfl, .inr ⟨_, its, n, q, congrArg Value.type (of_decide_eq_true h1), rfl, of_decide_eq_true h2, r1⟩, r2 ρ H⟩⟩
      · cases h
    | _ => unfold dvB at h; cases h
  | .rol l, u, h => by
    cases u with
    | ref p =>
      unfold dvB at h
      split at h
      · rename_i c its n sl q
        obtain ⟨h1, h⟩ := ba h
        obtain ⟨h2, h3⟩ := ba h
        obtain ⟨vs, r1, r2⟩ := dvBs_ok l its.toList h3
        exact ⟨.ref p, rfl, fun ρ H => ⟨p, vs, rfl, .inr ⟨_, its, n, q, congrArg Value.type (of_decide_eq_true h1), rfl, rfl, of_decide_eq_true h2, r1⟩, r2 ρ H⟩⟩
      · cases h
    | _ => unfold dvB at h; cases h
  | .ref _, u, h => by unfold dvB at h; cases h
  | .exn _ _ _ _ _, u, h => by unfold dvB at h; cases h
theorem dvBs_ok {K : PySem.W.Frag} : ∀ (ds : List D) (us : List Value), dvBs K ds us = true → ∃ vs, Vals vs us ∧ ∀ ρ H, RVs K ρ H ds vs
  | [], [], _ => ⟨[], .nil, fun _ _ => rfl⟩
  | [], _ :: _, h => by unfold dvBs at h; cases h
  | _ :: _, [], h => by unfold dvBs at h; cases h
  | d :: ds, u :: us, h => by
    unfold dvBs at h
    obtain ⟨h1, h2⟩ := ba h
    obtain ⟨v, a, b⟩ := dvB_ok d u h1
    obtain ⟨vs, a2, b2⟩ := dvBs_ok ds us h2
    exact ⟨v :: vs, .cons a a2, fun ρ H => ⟨v, vs, rfl, b ρ H, b2 ρ H⟩⟩
end
def glB (K : PySem.W.Frag) (x : Str) (d : D) : Bool := match PySem.W.nsIn K mainGlobals x with
  | some (some u) => dvB K d u
  | _ => false
theorem glB_ok {K : PySem.W.Frag} {h : Heap} {mg : Str → Option Value} (X : K.In h) (G : h.Ns mainGlobals mg) {x : Str} {d : D} (c : glB K x d = true) : ∃ u v, mg x = some u ∧ RelV v u ∧ ∀ ρ H, RV K ρ H d v := by
  unfold glB at c
  split at c
  · rename_i u e
    obtain ⟨v, a, b⟩ := dvB_ok d u c
    exact ⟨u, v, PySem.W.mg_of X G e, a, b⟩
  · cases c
def noneV : Value → Bool
  | .none => true
  | _ => false
theorem noneV_ok {v : Value} (h : noneV v = true) : v = .none := by
  cases v <;> first | rfl | cases h
def okDf (S : Spc) (K : PySem.W.Frag) (d : Df) : Bool := match K.lookup (S.ad K d.key) with
  | some ⟨_, _, .func fd, _⟩ => PySem.W.codeIn K fd.code d.qual && noneV fd.defaults
  | _ => false
def oexB (K : PySem.W.Frag) (C : Addr) : Bool := (match K.lookup C with
  | some ⟨.type t, _, .cls ⟨_, _, .ref c :: bm, _, _, true, _, _, _, _, false⟩, ⟨[_, _, _, _, some (.builtin n), _]⟩⟩ => decide (t = "type") && decide (c = C) && PySem.HandSPX.refsVE bm && decide (n = "ValueError.__new__")
  | _ => false) && (He.eqO (PySem.W.findIn K (.ref C) "__setattr__") (some (some (.builtin "object.__setattr__"))) && (decide (PySem.W.subIn K (.ref C) (.type "BaseException") = some true) && (decide (PySem.W.typeIn K (.ref C) = some (.type "type")) && PySem.W.keepIn K (.ref C))))
theorem oexB_ok {K : PySem.W.Frag} {C : Addr} (h : oexB K C = true) : OexC K C := by
  unfold oexB at h
  obtain ⟨h1, h⟩ := ba h
  obtain ⟨h2, h⟩ := ba h
  obtain ⟨h3, h⟩ := ba h
  obtain ⟨h4, h5⟩ := ba h
  refine ⟨?_, He.eqO_ok h2, of_decide_eq_true h3, of_decide_eq_true h4, h5⟩
  split at h1
  · rename_i q
    obtain ⟨h1, k4⟩ := ba h1
    obtain ⟨h1, k3⟩ := ba h1
    obtain ⟨k1, k2⟩ := ba h1
    have e1 := of_decide_eq_true k1
    have e2 := of_decide_eq_true k2
    have e4 := of_decide_eq_true k4
    subst e1 e2 e4
    exact ⟨_, _, _, _, _, _, _, _, _, _, _, _, _, _, _, q, k3⟩
  · cases h1
/-- an error's __init__ -/
def okXi (K : PySem.W.Frag) (file : Str) (C f : Addr) (qual : Str) : Bool := match K.lookup f with
  | some ⟨_, _, .func ⟨_, _, _, _, _, _, [(x, cc)], dV, kV, _, _, none, .ref c, _, _⟩, _⟩ => decide (x = ("__class__" : Str)) && noneV dV && noneV kV && PySem.W.codeIn K (.ref c) qual && (match K.lookup cc with
    | some ⟨_, _, .cell (some (.ref C')), _⟩ => decide (C' = C)
    | _ => false) && (match K.lookup c with
    | some ⟨_, _, .fields vs, _⟩ => (match (vs[2]? : Option Value) with
      | some (.str fl _) => (file == fl)
      | _ => false)
    | _ => false)
  | _ => false
def okXf (K : PySem.W.Frag) (file : Str) (x : Xf) : Bool := (He.Fa.glo x.name).ok K && PySem.W.keepIn K (.ref (He.ga K x.name)) && oexB K (He.ga K x.name) && He.eqO (PySem.W.findIn K (.ref (He.ga K x.name)) "__init__") (some (some (.ref (He.ma K (He.ga K x.name) "__init__")))) &&
  decide (PySem.W.typeIn K (.ref (He.ma K (He.ga K x.name) "__init__")) = some (.type "function")) && okXi K file (He.ga K x.name) (He.ma K (He.ga K x.name) "__init__") x.qual && (PySem.W.clsIn K (He.ga K x.name)).isSome &&
  He.eqO (PySem.W.ks_superIn K (He.ga K x.name) (He.ga K x.name) "__init__") (some (some (.builtin "ValueError.__init__"))) && decide (PySem.W.mroIn K (He.ga K x.name) (.ref (He.ga K x.name)) = some true) && decide (PySem.W.subIn K (.ref (He.ga K x.name)) (.type "ValueError") = some true) &&
  He.eqO (PySem.W.nsIn K cStatics "thirdparty.any") (some none) && x.fl.all (fun f => He.eqO (PySem.W.findIn K (.ref (He.ga K x.name)) f) (some none))
def istB (K : PySem.W.Frag) (c : Str) : Bool := (He.Fa.cls c).ok K && He.eqO (PySem.W.findIn K (.ref (He.ga K c)) "__class__") (some (some (.builtin "object.__class__"))) && He.eqO (PySem.W.specialIn K (.builtin "object.__class__") "__get__") (some (some (.builtin "getset_descriptor.__get__"))) &&
  decide (PySem.W.takesIn K (.builtin "object.__class__") = some true) && decide (PySem.W.mroIn K (He.ga K c) (.type "object") = some true)
def xizB (K : PySem.W.Frag) (c : Str) : Bool := He.eqO (PySem.W.findIn K (.ref (He.ga K c)) "__getattribute__") (some (some (.builtin "BaseException.__getattribute__"))) && He.eqO (PySem.W.findIn K (.ref (He.ga K c)) "__getattr__") (some none) && decide (PySem.W.subIn K (.ref (He.ga K c)) (.type "BaseException") = some true) &&
  PySem.W.hasDictIn K (He.ga K c) && He.eqO (PySem.W.findIn K (.ref (He.ga K c)) "__class__") (some (some (.builtin "object.__class__"))) && He.eqO (PySem.W.specialIn K (.builtin "object.__class__") "__get__") (some (some (.builtin "getset_descriptor.__get__"))) &&
  decide (PySem.W.takesIn K (.builtin "object.__class__") = some true) && decide (PySem.W.mroIn K (He.ga K c) (.type "object") = some true)
def prpB (S : Spc) (K : PySem.W.Frag) (c f : Str) : Bool := (He.Fa.cls c).ok K && He.eqO (PySem.W.findIn K (.ref (He.ga K c)) f) (some (some (.ref (He.ma K (He.ga K c) f)))) && He.eqO (PySem.W.specialIn K (.ref (He.ma K (He.ga K c) f)) "__get__") (some (some (.builtin "property.__get__"))) &&
  decide (PySem.W.takesIn K (.ref (He.ma K (He.ga K c) f)) = some true) && (match PySem.W.recIn K (He.ma K (He.ga K c) f) "property" with
  | some (.ref _ :: _) => true
  | _ => false)
def xnV (K : PySem.W.Frag) (o : Option String) (x : Str) : Value := match o with
  | none => .ref (He.ga K x)
  | some n => .type n
def opiB (K : PySem.W.Frag) (c : Str) (o : Operator) : Bool := (He.Fa.cls c).ok K && PySem.W.selfFirst K (He.ga K c) && (match PySem.W.findIn K (.ref (He.ga K c)) (dunderR o.info.2) with
  | some none => true
  | some (some (.ref _)) => true
  | _ => false) && (PySem.W.findIn K (.type "int") (PySem.dunder o.info.2)).isSome && (PySem.W.findIn K (.type "int") (dunderR o.info.2)).isSome && decide (PySem.W.subIn K (.type "int") (.ref (He.ga K c)) = some false)
def eqoB (K : PySem.W.Frag) (c : Str) (t : Tk) : Bool := (He.Fa.cls c).ok K && PySem.W.notFirst K (He.ga K c) (tv K t.d) && He.eqO (PySem.W.findIn K (.ref (He.ga K c)) "__ne__") (some (some (.builtin "object.__ne__"))) && decide (PySem.W.subIn K (.ref (He.ga K c)) (.type "object") = some true)
namespace Spc
def hasT (S : Spc) (key : FKey) : Bool := (S.T key).isSome
/-- an own class's function of this name -/
def ownB (S : Spc) (K : PySem.W.Frag) (c m : Str) : Bool := (He.Fa.meth c m).ok K && S.hasT (c, some m) && !S.prps.contains (c, m)
def chk (S : Spc) (file : Str) (K : PySem.W.Frag) : Bool :=
  S.dfs.all (okDf S K) && S.xfs.all (okXf K file) && S.fns.all (fun f => (He.Fa.glo f).ok K && PySem.W.keepIn K (.ref (He.ga K f)) && S.hasT (f, none)) &&
  S.mks.all (fun f => (He.Fa.glo f).ok K && PySem.W.keepIn K (.ref (He.ga K f)) && (He.Fa.mkr f).ok K && S.hasT (f, some "__init__") && !S.prps.contains (f, "__init__")) &&
  S.gls.all (fun x => glB K x.1 x.2) && S.frees.all (fun x => (He.Fa.free x).ok K) && (He.Fa.free "super").ok K &&
  S.xns.all (fun x => match x.2 with
    | none => (He.Fa.glo x.1).ok K
    | some n => (He.Fa.free x.1).ok K && decide (bootBuiltins x.1 = some (.type n)) && !decide (x.1 = ("__name__" : Str))) &&
  S.flds.all (fun p => (He.Fa.cls p.1).ok K && (He.Fa.noat p.1 p.2).ok K) && S.mths.all (fun p => (He.Fa.cls p.1).ok K && S.ownB K p.1 p.2) && S.prps.all (fun p => prpB S K p.1 p.2 && S.hasT (p.1, some p.2)) &&
  S.opo.all (fun p => (He.Fa.cls p.1).ok K && PySem.W.selfFirst K (He.ga K p.1) && S.ownB K p.1 (PySem.dunder p.2.info.2)) && S.opi.all (fun p => opiB K p.1 p.2 && S.ownB K p.1 (PySem.dunder p.2.info.2)) &&
  S.opu.all (fun c => (He.Fa.cls c).ok K && S.ownB K c "__invert__") && S.eqo.all (fun p => eqoB K p.1 p.2 && S.ownB K p.1 "__eq__") &&
  S.isi.all (fun p => decide (PySem.W.kitOne K (tv K p.1.1.d) (tv K p.1.2.d) = some p.2)) && S.ist.all (istB K) && S.xfd.all (fun p => xfB K (He.ga K p.1) && He.eqO (PySem.W.findIn K (.ref (He.ga K p.1)) p.2) (some none)) && S.xiz.all (xizB K) &&
  S.exm.all (fun p => match S.xns.lookup p.1.2 with
    | some o => decide (PySem.W.exmOne K (.ref (He.ga K p.1.1)) (xnV K o p.1.2) = some p.2)
    | none => false)
abbrev Al : Type := Bool × List He.FnW × List FnX
def obs (S : Spc) (file : Str) (K : PySem.W.Frag) : Al := (S.chk file K, S.dfs.map (fun d => fnI K (S.ad K d.key)), S.xfs.map fun x => fnXo K (He.ma K (He.ga K x.name) "__init__"))
def val (S : Spc) : Al := (true, S.dfs.map Df.val, S.xfs.map Xf.val)
/-! ### the hook -/
def asI (g : Addr → Option Obj) : Nat → List Addr
  | 0 => [mainGlobals, cStatics]
  | n + 1 => He.growD g (asI g n)
def obsG (S : Spc) (file : Str) (n : Nat) (g : Addr → Option Obj) : Al := S.obs file (He.frG g (asI g n))
def hook (S : Spc) (file : Str) (n : Nat) : PySem.W.Hook where
  α := Al
  obs := fun s => S.obsG file n s.heap.get?
  val := fun _ => S.val
  says := fun _ h => ∃ K : PySem.W.Frag, K.In h ∧ S.obs file K = S.val
  of := fun _ _ e => ⟨_, He.frG_in, e⟩
  keeps := fun _ _ _ ⟨K, hK, c⟩ k => ⟨K, PySem.W.Frag.In.keeps hK k, c⟩
theorem obsG_eq {S : Spc} {file : Str} {n : Nat} {g : Addr → Option Obj} {s : Shared} (h : ∀ a, g a = s.heap.get? a) : S.obsG file n g = (S.hook file n).obs s := by
  have e : g = s.heap.get? := funext h
  rw [e] <;> rfl
def stat (S : Spc) : Bool := S.dfs.all (stDf S.sv) && S.xfs.all stXf
end Spc
end Ip
end
section
set_option Elab.async false
set_option linter.all false
set_option maxRecDepth 100000
set_option maxHeartbeats 1000000
/-! from what the head says to the world facts -/
namespace Ip
open PySem PySem.Spec L2
theorem all_get {α : Type} {p : α → Bool} {l : List α} (h : l.all p = true) {a : α} (m : a ∈ l) : p a = true := List.all_eq_true.mp h a m
theorem lookup_mem' {α β : Type} [BEq α] [LawfulBEq α] {a : α} {b : β} : ∀ {l : List (α × β)}, l.lookup a = some b → (a, b) ∈ l
  | [], h => by cases h
  | (x, y) :: l, h => by
    rw [List.lookup_cons] at h
    cases q : a == x with
    | true => rw [q] at h; cases h; rw [eq_of_beq q]; exact List.mem_cons_self ..
    | false => rw [q] at h; exact List.mem_cons_of_mem _ (lookup_mem' h)
theorem isSome_ex {α : Type} {o : Option α} (h : o.isSome = true) : ∃ a, o = some a := Option.isSome_iff_exists.mp h
theorem contains_mem {α : Type} [BEq α] [LawfulBEq α] {l : List α} {a : α} (h : l.contains a = true) : a ∈ l := by simpa using h
section
variable {S : Spc} {file : Str} {P : Program} {w : World} {K : PySem.W.Frag} {mg : Str → Option Value} {base : Heap}
theorem Spc.df_mem {key : FKey} {d : Df} (h : S.df key = some d) : d ∈ S.dfs ∧ d.key = key := ⟨List.mem_of_find?_eq_some h, by
  have := List.find?_some h
  exact of_decide_eq_true this⟩
theorem Spc.T_df {key : FKey} {fn : Fn} (h : S.T key = some fn) : ∃ d, S.df key = some d ∧ d.fn = fn := by
  unfold Spc.T at h
  cases e : S.df key with
  | none => rw [e] at h; cases h
  | some d => rw [e] at h; cases h; exact ⟨d, rfl, rfl⟩
theorem map_at {α β : Type} {f g : α → β} {l : List α} (h : l.map f = l.map g) {a : α} (m : a ∈ l) : f a = g a := by
  induction l with
  | nil => cases m
  | cons b l ih =>
    simp only [List.map_cons, List.cons.injEq] at h
    rcases List.mem_cons.mp m with rfl | m
    · exact h.1
    · exact ih h.2 m
theorem df_bind (c : S.obs file K = S.val) (st : S.stat = true) {key : FKey} {fn : Fn} (h : S.T key = some fn) (hok : S.dfs.all (okDf S K) = true) (us : List Value) (hl : us.length = fn.params.length) : bindArgs (Spc.fdI K (S.ad K key)) ⟨us, []⟩ = pure (fn.params.zip us) := by
  obtain ⟨d, hd, rfl⟩ := S.T_df h
  obtain ⟨hm, rfl⟩ := S.df_mem hd
  have e : fnI K (S.ad K d.key) = d.val := map_at (f := fun d : Df => fnI K (S.ad K d.key)) (g := Df.val) (congrArg (fun z : Spc.Al => z.2.1) c) hm
  have h1 := all_get hok hm
  have h2 := all_get (ba (show (S.dfs.all (stDf S.sv) && S.xfs.all stXf) = true from st)).1 hm
  unfold stDf at h2
  obtain ⟨h2, h4⟩ := ba h2
  obtain ⟨h2, h3⟩ := ba h2
  unfold okDf at h1
  unfold fnI at e
  unfold Spc.fdI
  cases q : K.lookup (S.ad K d.key) with
  | none => rw [q] at h1; cases h1
  | some o =>
    obtain ⟨oc, od, dt, osl⟩ := o
    rw [q] at h1 e
    cases dt with
    | func fd =>
      obtain ⟨n1, n2, n3, n4, n5, n6, n7, n8, n9, n10, n11, n12, n13, n14, n15⟩ := fd
      have e2 : (some (n1, n2, n3, n4, n5, n6, n7, n15) : He.FnW) = some (d.name, d.qual, defArgs d.st, .stmts (defBody d.st), defScope d.st, mainGlobals, [], builtinsNs) := e
      simp only [Option.some.injEq, Prod.mk.injEq] at e2
      obtain ⟨k1, k2, k3, k4, k5, k6, k7, k8⟩ := e2
      subst k1 k2 k3 k4 k5 k6 k7 k8
      obtain ⟨j1, j2⟩ := ba (show (PySem.W.codeIn K n13 d.qual && noneV n8) = true from h1)
      obtain rfl := noneV_ok j2
      obtain ⟨args, kd, df, ea, ep⟩ := prB_ok h3
      have S1 := fscB_ok h2
      have nd : (args.map (·.arg)).Nodup := by
        rw [ep]
        have := S1.nd
        rw [← S1.pre]
        exact this.sublist (List.take_sublist _ _)
      rw [← ep]
      exact bind_all (fd := PySem.W.fnOf d.name d.qual (defArgs d.st) (defBody d.st) (defScope d.st) .none n9 n10 n11 n12 n13 n14) ea rfl nd (by rw [ep]; exact hl)
    | _ => cases h1
theorem df_ok (c : S.obs file K = S.val) (st : S.stat = true) {key : FKey} {fn : Fn} (h : S.T key = some fn) (hok : S.dfs.all (okDf S K) = true) : DfOk K S.sv (S.ad K key) (Spc.fdI K (S.ad K key)) fn := by
  obtain ⟨d, hd, rfl⟩ := S.T_df h
  obtain ⟨hm, rfl⟩ := S.df_mem hd
  have e : fnI K (S.ad K d.key) = d.val := map_at (f := fun d : Df => fnI K (S.ad K d.key)) (g := Df.val) (congrArg (fun z : Spc.Al => z.2.1) c) hm
  have h1 := all_get hok hm
  have h2 := all_get (ba (show (S.dfs.all (stDf S.sv) && S.xfs.all stXf) = true from st)).1 hm
  unfold stDf at h2
  obtain ⟨h2, h4⟩ := ba h2
  obtain ⟨h2, h3⟩ := ba h2
  unfold okDf at h1
  unfold fnI at e
  unfold Spc.fdI
  cases q : K.lookup (S.ad K d.key) with
  | none => rw [q] at h1; cases h1
  | some o =>
    obtain ⟨oc, od, dt, osl⟩ := o
    rw [q] at h1 e
    cases dt with
    | func fd =>
      obtain ⟨n1, n2, n3, n4, n5, n6, n7, n8, n9, n10, n11, n12, n13, n14, n15⟩ := fd
      have e2 : (some (n1, n2, n3, n4, n5, n6, n7, n15) : He.FnW) = some (d.name, d.qual, defArgs d.st, .stmts (defBody d.st), defScope d.st, mainGlobals, [], builtinsNs) := e
      simp only [Option.some.injEq, Prod.mk.injEq] at e2
      obtain ⟨k1, k2, k3, k4, k5, k6, k7, k8⟩ := e2
      subst k1 k2 k3 k4 k5 k6 k7 k8
      obtain ⟨j1, j2⟩ := ba (show (PySem.W.codeIn K n13 d.qual && noneV n8) = true from h1)
      obtain rfl := noneV_ok j2
      obtain ⟨args, kd, df, ea, ep⟩ := prB_ok h3
      have S1 := fscB_ok h2
      have nd : (args.map (·.arg)).Nodup := by
        rw [ep]
        have := S1.nd
        rw [← S1.pre]
        exact this.sublist (List.take_sublist _ _)
      refine ⟨d.name, d.qual, defArgs d.st, defBody d.st, defScope d.st, .none, n9, n10, n11, n13, n14, oc, n12, od, osl, rfl, q, j1, S1, ?_, h4⟩
      exact Binds.all fun us hl => by
        rw [← ep]
        exact bind_all (fd := PySem.W.fnOf d.name d.qual (defArgs d.st) (defBody d.st) (defScope d.st) .none n9 n10 n11 n12 n13 n14) ea rfl nd (by rw [ep]; exact hl)
    | _ => cases h1
theorem xf_ok (X : K.In base) (G : base.Ns mainGlobals mg) (c : S.obs file K = S.val) (st : S.stat = true) (hf : P.main.file = file) (hs : (P.main.scope.names.lookup ("super" : Str)).isSome = false) (hsup : mg "super" = none) (hok : S.xfs.all (okXf K file) = true) {x : Xf} (hm : x ∈ S.xfs) :
    ∃ f fd, OexC K (He.ga K x.name) ∧ PySem.W.findIn K (.ref (He.ga K x.name)) "__init__" = some (some (.ref f)) ∧ PySem.W.typeIn K (.ref f) = some (.type "function") ∧ x.fl.length ≤ 100 ∧ Binds K fd (xP x.fl) [] ∧
    ∀ k, FnOk P w K mg base (L2N.CX P w) (k + 1) f fd (xP x.fl) (spX K (He.ga K x.name) (fslots x.fl) x.arg) := by
  have e : fnXo K (He.ma K (He.ga K x.name) "__init__") = x.val := map_at (f := fun x : Xf => fnXo K (He.ma K (He.ga K x.name) "__init__")) (g := Xf.val) (congrArg (fun z : Spc.Al => z.2.2) c) hm
  have h1 := all_get hok hm
  have h2 := all_get (ba (show (S.dfs.all (stDf S.sv) && S.xfs.all stXf) = true from st)).2 hm
  unfold stXf at h2
  obtain ⟨h2, s7⟩ := ba h2
  obtain ⟨h2, s6⟩ := ba h2
  obtain ⟨h2, s5⟩ := ba h2
  obtain ⟨h2, s4⟩ := ba h2
  obtain ⟨h2, s3⟩ := ba h2
  obtain ⟨s1, s2⟩ := ba h2
  unfold okXf at h1
  obtain ⟨h1, d12⟩ := ba h1
  obtain ⟨h1, d11⟩ := ba h1
  obtain ⟨h1, d10⟩ := ba h1
  obtain ⟨h1, d9⟩ := ba h1
  obtain ⟨h1, d8⟩ := ba h1
  obtain ⟨h1, d7⟩ := ba h1
  obtain ⟨h1, d6⟩ := ba h1
  obtain ⟨h1, d5⟩ := ba h1
  obtain ⟨h1, d4⟩ := ba h1
  obtain ⟨h1, d3⟩ := ba h1
  obtain ⟨d1, d2⟩ := ba h1
  unfold okXi at d6
  split at d6
  · rename_i oc od n1 n2 n3 n4 n5 n6 y cc dV kV doc pm cd ct n15 osl q
    obtain ⟨d6, f6⟩ := ba d6
    obtain ⟨d6, f5⟩ := ba d6
    obtain ⟨d6, f4⟩ := ba d6
    obtain ⟨d6, f3⟩ := ba d6
    obtain ⟨f1, f2⟩ := ba d6
    obtain rfl := of_decide_eq_true f1
    obtain rfl := noneV_ok f2
    obtain rfl := noneV_ok f3
    unfold fnXo at e
    rw [q] at e
    have e2 : (some (n1, n2, n3, n4, n5, n6, n15) : FnX) = some (("__init__" : Str), x.qual, defArgs x.st, FuncBody.stmts (defBody x.st), defScope x.st, mainGlobals, builtinsNs) := e
    simp only [Option.some.injEq, Prod.mk.injEq] at e2
    obtain ⟨k1, k2, k3, k4, k5, k6, k7⟩ := e2
    subst k1 k2 k3 k4 k5 k6 k7
    have S1 := NdefX.nscope_by s1
    obtain ⟨args, kd, df, ea, ep⟩ := prB_ok s4
    have nd : (args.map (·.arg)).Nodup := by
      rw [ep]
      have h0 := S1.pre
      have h1 : xP x.fl = (xN x.fl).take (xP x.fl).length := by
        show ("self" : Str) :: x.fl = (("self" : Str) :: (x.fl ++ [("__class__" : Str)])).take (x.fl.length + 1)
        rw [List.take_succ_cons, List.take_left']
        rfl
      rw [h1]
      exact S1.nd.sublist (List.take_sublist _ _)
    let F : NdefX.NF := ⟨"__init__", x.qual, defArgs x.st, defBody x.st, defScope x.st, [(("__class__" : Str), cc)], cd⟩
    have xo : XcOk P K (He.ga K x.name) (He.ma K (He.ga K x.name) "__init__") F := by
      refine ⟨oexB_ok d3, He.eqO_ok d4, of_decide_eq_true d5, ⟨_, _, _, _, _, _, q⟩, f4, ?_, ?_, isSome_ex d7, He.eqO_ok d8, of_decide_eq_true d9, of_decide_eq_true d10, He.eqO_ok d11, hs, of_decide_eq_true s6, of_decide_eq_true s7⟩
      · split at f6
        · rename_i q2
          split at f6
          · rename_i q3
            exact ⟨_, _, _, _, _, _, q2, q3, by rw [hf]; exact f6⟩
          · cases f6
        · cases f6
      · split at f5
        · rename_i q2
          have := of_decide_eq_true f5
          subst this
          exact ⟨cc, _, _, _, rfl, q2⟩
        · cases f5
    refine ⟨_, F.fd doc pm ct, oexB_ok d3, He.eqO_ok d4, of_decide_eq_true d5, of_decide_eq_true s3, ?_, fun k => ?_⟩
    · exact Binds.all fun us hl => by
        rw [← ep]
        exact bind_all (fd := F.fd doc pm ct) ea rfl nd (by rw [ep]; exact hl)
    · have hh : ∃ ar rest, args = ar :: rest ∧ ar.arg = ("self" : Str) := by
        cases args with
        | nil => cases ep
        | cons ar rest =>
          simp only [List.map_cons, List.cons.injEq] at ep
          exact ⟨ar, rest, rfl, ep.1⟩
      obtain ⟨ar, rest, er, es⟩ := hh
      refine xinit_ok (F := F) (ar := ar) xo S1 (fun z => by rw [z] at s2; cases s2) (of_decide_eq_true s3) hsup ?_ es s5 (fun p hp => ?_) q
      · show ((defArgs x.st).posonlyargs ++ (defArgs x.st).args).head? = some ar
        rw [ea, er]
        rfl
      · have : p.1 ∈ x.fl := by
          unfold fslots at hp
          obtain ⟨i, hi, e3⟩ := List.mem_iff_getElem.mp hp
          rw [List.getElem_zipWith] at e3
          rw [← e3]
          exact List.getElem_mem _
        exact He.eqO_ok (all_get d12 this)
  · cases d6
theorem tp_of (X : K.In base) (G : base.Ns mainGlobals mg) (c : S.obs file K = S.val) (st : S.stat = true) (hf : P.main.file = file) (hs : (P.main.scope.names.lookup ("super" : Str)).isSome = false) : Tp P w K mg base S.T S.gb S.sv (S.ad K) (fun key => Spc.fdI K (S.ad K key)) := by
  have h : S.chk file K = true := congrArg (fun z : Spc.Al => z.1) c
  unfold Spc.chk at h
  obtain ⟨h, c20⟩ := ba h
  obtain ⟨h, c19⟩ := ba h
  obtain ⟨h, c18⟩ := ba h
  obtain ⟨h, c17⟩ := ba h
  obtain ⟨h, c16⟩ := ba h
  obtain ⟨h, c15⟩ := ba h
  obtain ⟨h, c14⟩ := ba h
  obtain ⟨h, c13⟩ := ba h
  obtain ⟨h, c12⟩ := ba h
  obtain ⟨h, c11⟩ := ba h
  obtain ⟨h, c10⟩ := ba h
  obtain ⟨h, c9⟩ := ba h
  obtain ⟨h, c8⟩ := ba h
  obtain ⟨h, c7⟩ := ba h
  obtain ⟨h, c6⟩ := ba h
  obtain ⟨h, c5⟩ := ba h
  obtain ⟨h, c4⟩ := ba h
  obtain ⟨h, c3⟩ := ba h
  obtain ⟨c1, c2⟩ := ba h
  have hsup := He.free_ok X G c7
  have adm : ∀ {cl m : Str}, S.ownB K cl m = true → (∃ fn, S.T (cl, some m) = some fn) ∧ Meth K (He.ga K cl) m (S.ad K (cl, some m)) := fun {cl m} h => by
    unfold Spc.ownB at h
    obtain ⟨h, h3⟩ := ba h
    obtain ⟨h1, h2⟩ := ba h
    have e : S.ad K (cl, some m) = He.ma K (He.ga K cl) m := by
      unfold Spc.ad
      dsimp only
      cases q : S.prps.contains (cl, m) with
      | true => rw [q] at h3; cases h3
      | false => rfl
    rw [e]
    exact ⟨isSome_ex h2, He.meth_ok h1⟩
  refine ⟨⟨?_, ?_⟩, ?_, ?_, ?_, ?_, ?_, ?_, ?_, ⟨?_, ?_⟩, ?_, ?_, ?_, ⟨?_, ?_, ?_, ?_⟩, ?_, ?_⟩
  · intro t cc b e
    have e : (match tkOf t, tkOf cc with
      | some a, some b => S.isi.lookup (a, b)
      | _, _ => none) = some b := e
    split at e
    · rename_i a b' e1 e2
      have m := lookup_mem' e
      have := of_decide_eq_true (all_get c16 m)
      rw [tkOf_d e1, tkOf_d e2]
      refine ⟨this, ?_⟩
      cases b' with
      | ty n => exact .inl ⟨n, rfl⟩
      | cls n => exact .inr ⟨n, rfl⟩
    · cases e
  · intro cl h
    have h := all_get c17 (contains_mem h)
    unfold istB at h
    obtain ⟨h, k5⟩ := ba h
    obtain ⟨h, k4⟩ := ba h
    obtain ⟨h, k3⟩ := ba h
    obtain ⟨k1, k2⟩ := ba h
    exact ⟨He.cls_ok k1, He.eqO_ok k2, He.eqO_ok k3, of_decide_eq_true k4, of_decide_eq_true k5⟩
  · intro cl f h
    obtain ⟨k1, k2⟩ := ba (all_get c9 (contains_mem h))
    exact ⟨He.cls_ok k1, He.noat_ok k2⟩
  · intro x d _ h
    exact glB_ok X G (all_get c5 (lookup_mem' h))
  · intro x h
    exact He.free_ok X G (all_get c6 (contains_mem h))
  · intro f h
    obtain ⟨h, k3⟩ := ba (all_get c3 (contains_mem h))
    obtain ⟨k1, k2⟩ := ba h
    exact ⟨isSome_ex k3, He.glo_ok X G k1, k2⟩
  · intro f h
    obtain ⟨h, k5⟩ := ba (all_get c4 (contains_mem h))
    obtain ⟨h, k4⟩ := ba h
    obtain ⟨h, k3⟩ := ba h
    obtain ⟨k1, k2⟩ := ba h
    have e : S.ad K (f, some "__init__") = He.ma K (He.ga K f) "__init__" := by
      unfold Spc.ad
      dsimp only
      cases q : S.prps.contains (f, "__init__") with
      | true => rw [q] at k5; cases k5
      | false => rfl
    rw [e]
    exact ⟨He.glo_ok X G k1, k2, isSome_ex k4, He.mkr_ok k3⟩
  · intro n h
    obtain ⟨x, hx, rfl⟩ := List.mem_map.mp (contains_mem (l := S.xfs.map (·.name)) h)
    have h1 := all_get c2 hx
    unfold okXf at h1
    obtain ⟨h1, _⟩ := ba h1
    obtain ⟨h1, _⟩ := ba h1
    obtain ⟨h1, _⟩ := ba h1
    obtain ⟨h1, _⟩ := ba h1
    obtain ⟨h1, _⟩ := ba h1
    obtain ⟨h1, _⟩ := ba h1
    obtain ⟨h1, _⟩ := ba h1
    obtain ⟨h1, _⟩ := ba h1
    obtain ⟨h1, _⟩ := ba h1
    obtain ⟨h1, _⟩ := ba h1
    obtain ⟨d1, d2⟩ := ba h1
    exact ⟨He.glo_ok X G d1, d2⟩
  · intro n fl arg h
    have h : (S.xf n).map (fun x => (x.fl, x.arg)) = some (fl, arg) := h
    cases e : S.xf n with
    | none => rw [e] at h; cases h
    | some x =>
      rw [e] at h
      cases h
      have hm := List.mem_of_find?_eq_some e
      have en : x.name = n := of_decide_eq_true (by have := List.find?_some e; exact this)
      subst en
      exact xf_ok X G c st hf hs hsup c2 hm
  · intro cl f h
    obtain ⟨k1, k2⟩ := ba (all_get c18 (contains_mem h))
    exact ⟨xfB_ok k1, He.eqO_ok k2⟩
  · intro cl h
    have h := all_get c19 (contains_mem h)
    unfold xizB at h
    obtain ⟨h, k8⟩ := ba h
    obtain ⟨h, k7⟩ := ba h
    obtain ⟨h, k6⟩ := ba h
    obtain ⟨h, k5⟩ := ba h
    obtain ⟨h, k4⟩ := ba h
    obtain ⟨h, k3⟩ := ba h
    obtain ⟨k1, k2⟩ := ba h
    exact ⟨He.eqO_ok k1, He.eqO_ok k2, of_decide_eq_true k3, k4, He.eqO_ok k5, He.eqO_ok k6, of_decide_eq_true k7, of_decide_eq_true k8⟩
  · intro cl f h
    have hc : S.prps.contains (cl, f) = true := h
    obtain ⟨k, k6⟩ := ba (all_get c11 (contains_mem hc))
    unfold prpB at k
    obtain ⟨k, k5⟩ := ba k
    obtain ⟨k, k4⟩ := ba k
    obtain ⟨k, k3⟩ := ba k
    obtain ⟨k1, k2⟩ := ba k
    refine ⟨He.ma K (He.ga K cl) f, isSome_ex k6, He.cls_ok k1, He.eqO_ok k2, He.eqO_ok k3, of_decide_eq_true k4, ?_⟩
    unfold Spc.ad
    dsimp only
    rw [hc]
    split at k5
    · rename_i g' r q
      exact ⟨r, by rw [q]⟩
    · cases k5
  · intro x h
    obtain ⟨y, hy, rfl⟩ := List.mem_map.mp (contains_mem (l := S.xns.map (·.1)) h)
    obtain ⟨x, _⟩ := y
    obtain ⟨⟨x', o⟩, hy2, ex⟩ := List.mem_map.mp (contains_mem (l := S.xns.map (·.1)) h)
    have ex : x' = x := ex
    subst ex
    cases e : S.xns.lookup x' with
    | none =>
      exact absurd e (by
        intro z
        have : ∀ l : List (Str × Option String), (x', o) ∈ l → l.lookup x' ≠ none := by
          intro l
          induction l with
          | nil => intro m; cases m
          | cons a l ih =>
            intro m
            rw [List.lookup_cons]
            cases q : x' == a.1 with
            | true => simp
            | false =>
              rcases List.mem_cons.mp m with rfl | m
              · simp at q
              · exact ih m
        exact this _ hy2 z)
    | some o2 =>
      have hb := all_get c8 (lookup_mem' e)
      refine ⟨xnV K o2 x', ?_, fun cl b he => ?_⟩
      · cases o2 with
        | none => exact .inl (He.glo_ok X G hb)
        | some n =>
          obtain ⟨hb, b3⟩ := ba hb
          obtain ⟨b1, b2⟩ := ba hb
          refine .inr ⟨He.free_ok X G b1, of_decide_eq_true b2, fun z => ?_⟩
          rw [decide_eq_true z] at b3
          cases b3
      · have := all_get c20 (lookup_mem' (show S.exm.lookup (cl, x') = some b from he))
        dsimp only at this
        rw [e] at this
        exact of_decide_eq_true this
  · intro cl m h
    obtain ⟨k1, k2⟩ := ba (all_get c10 (contains_mem (show S.mths.contains (cl, m) = true from h)))
    obtain ⟨a, b⟩ := adm k2
    exact ⟨a, He.cls_ok k1, b⟩
  · intro cl o h
    obtain ⟨k, _⟩ := ba (all_get c12 (contains_mem (show S.opo.contains (cl, o) = true from h)))
    obtain ⟨k1, k2⟩ := ba k
    exact ⟨He.cls_ok k1, k2⟩
  · intro cl o h
    obtain ⟨k, _⟩ := ba (all_get c13 (contains_mem (show S.opi.contains (cl, o) = true from h)))
    unfold opiB at k
    obtain ⟨k, k6⟩ := ba k
    obtain ⟨k, k5⟩ := ba k
    obtain ⟨k, k4⟩ := ba k
    obtain ⟨k, k3⟩ := ba k
    obtain ⟨k1, k2⟩ := ba k
    obtain ⟨fo, e4⟩ := isSome_ex k4
    obtain ⟨ro, e5⟩ := isSome_ex k5
    refine ⟨He.cls_ok k1, k2, fo, ro, ?_⟩
    dsimp only at k3
    split at k3
    · rename_i q; exact ⟨none, q, .inl rfl, e4, e5, of_decide_eq_true k6⟩
    · rename_i a q; exact ⟨_, q, .inr ⟨a, rfl⟩, e4, e5, of_decide_eq_true k6⟩
    · cases k3
  · intro cl h
    obtain ⟨k1, _⟩ := ba (all_get c14 (contains_mem (show S.opu.contains cl = true from h)))
    exact He.cls_ok k1
  · intro cl t h
    have h : (match tkOf t with
      | some k => S.eqo.contains (cl, k)
      | none => false) = true := h
    split at h
    · rename_i k e
      obtain ⟨q, _⟩ := ba (all_get c15 (contains_mem h))
      unfold eqoB at q
      obtain ⟨q, q4⟩ := ba q
      obtain ⟨q, q3⟩ := ba q
      obtain ⟨q1, q2⟩ := ba q
      rw [tkOf_d e]
      exact ⟨He.cls_ok q1, q2, He.eqO_ok q3, of_decide_eq_true q4⟩
    · cases h
  · intro cl m h
    have fin : S.ownB K cl m = true → (∃ fn, S.T (cl, some m) = some fn) ∧ PySem.W.findIn K (.ref (He.ga K cl)) m = some (some (.ref (S.ad K (cl, some m)))) ∧ PySem.W.isFn K (.ref (S.ad K (cl, some m))) = true := fun q => by
      obtain ⟨a, b⟩ := adm q
      exact ⟨a, b.at_, b.fn⟩
    rcases h with ⟨o, h, rfl⟩ | ⟨o, h, rfl⟩ | ⟨h, rfl⟩ | ⟨t, h, rfl⟩
    · exact fin (ba (all_get c12 (contains_mem (show S.opo.contains (cl, o) = true from h)))).2
    · exact fin (ba (all_get c13 (contains_mem (show S.opi.contains (cl, o) = true from h)))).2
    · exact fin (ba (all_get c14 (contains_mem (show S.opu.contains cl = true from h)))).2
    · have h : (match tkOf t with
        | some k => S.eqo.contains (cl, k)
        | none => false) = true := h
      split at h
      · exact fin (ba (all_get c15 (contains_mem h))).2
      · cases h
  · intro key fn h
    exact df_ok c st h c1
/-- a law's end where what a call may let out depends on the world -/
theorem walk_ofW {l : PySem.W.OpenLaw} {n k : Nat} {q : Program} {loose : List Str} {XP : (Str → Option Value) → Heap → Prop} {YP : World → Heap → Prop} {d : DefRec} {CX : World → CXT} {x : Str}
    (hn : l.most = some n) (hn2 : n ≤ sizeLine) (hdf : d.params.defaults = []) (hr : Room k callerA)
    (F : ∀ (w : World) (mg : Str → Option Value) (fa : Addr) (h : Heap), YP w h → h.Ns mainGlobals mg → mg d.name = some (.ref fa) →
      ∃ (K : PySem.W.Frag) (fd : FuncData) (sp : Sp), K.In h ∧ (∀ (s : Shared) (u : Value), BindsTo s fd ⟨[u], []⟩ [(x, u)]) ∧
        (∀ (H : Hp) (a : Addr) (ns : List Int), ns.length ≤ n → Only H → SqL K H a (ns.map V.int) → sp [.ref a] H (fun v _ => v = .bl true) fun _ _ _ => False) ∧
        ∀ base : Heap, K.In base → base.Ns mainGlobals mg → FnOk l.prog w K mg base (CX w) k fa fd [x] sp)
    (hCX : ∀ (w : World) (H : Hp) (s : Shared) (e : Value) (s' : Shared), CX w [] H s (fun _ _ _ => False) e s' → False) :
    PySem.W.WalkO q loose XP YP l.row.toRowW d [] (fun f vs => PySem.call f vs) := by
  refine Att.attach_call hn hdf fun w s₀ s₁ mg mb fa o pm cd doc a vs ns G Y ho hd hcd hmg hobj hints hlen hg => ?_
  obtain ⟨K, fd, sp, KX, hb, hsp, hF⟩ := F w mg fa _ Y G.T.g hmg
  exact law_call KX G.T.g G.T.b G.T.builtins G.T.nolimit hg hobj hints (Nat.le_trans hlen hn2) hr hF hb (fun H hO hS => hsp H a ns hlen hO hS) fun H e s' => hCX w H s₁ e s'
theorem ints_rv {K : PySem.W.Frag} {ρ : List Addr} {H : Hp} : ∀ ns : List Int, RVs K ρ H (ns.map D.int) (ns.map V.int)
  | [] => rfl
  | n :: ns => ⟨_, _, rfl, rfl, ints_rv ns⟩
/-- the law's end -/
theorem law_walk {l : PySem.W.OpenLaw} {n k m : Nat} {q : Program} {loose : List Str} {XP : (Str → Option Value) → Heap → Prop} {d : DefRec} {x : Str} {fn : Fn} (hn : l.most = some n) (hn2 : n ≤ sizeLine) (hdf : d.params.defaults = []) (hr : Room k callerA) (hd : d.name = ("law" : Str)) (st : S.stat = true)
    (hf : l.prog.main.file = file) (hs : (l.prog.main.scope.names.lookup ("super" : Str)).isSome = false) (hfn : S.fns.contains ("law" : Str) = true) (hT : S.T ("law", none) = some fn) (hx : fn.params = [x])
    (run : ∀ ns : List Int, ns.length ≤ n → ∃ h', (lvs S.T S.gb k).1 none ("law", none) [.rol (ns.map .int)] [] = .ok (.bl true) h') :
    PySem.W.WalkO q loose XP (S.hook file m).says l.row.toRowW d [] (fun f vs => PySem.call f vs) := by
  refine walk_ofW (l := l) (n := n) (k := k) (x := x) (CX := fun w => L2N.CX l.prog w) hn hn2 hdf hr (fun w mg fa h Y G hmg => ?_) fun w H s e s' ⟨_, _, _, _, _, _, _, _, _, _, _, _, z⟩ => z
  obtain ⟨K, KX, c⟩ := Y
  have t := tp_of (P := l.prog) (w := w) KX G c st hf hs
  obtain ⟨_, e1, _⟩ := t.fnk "law" hfn
  rw [hd] at hmg
  rw [hmg] at e1
  obtain rfl : fa = S.ad K ("law", none) := by
    have := Option.some.inj e1
    exact Value.ref.inj this
  have hok : S.dfs.all (okDf S K) = true := by
    have h : S.chk file K = true := congrArg (fun z : Spc.Al => z.1) c
    unfold Spc.chk at h
    simp only [Bool.and_eq_true] at h
    exact h.1.1.1.1.1.1.1.1.1.1.1.1.1.1.1.1.1.1.1
  refine ⟨K, Spc.fdI K (S.ad K ("law", none)), spF K ((lvs S.T S.gb k).1 none ("law", none)), KX, fun s u => ?_, fun H a ns hl hO hS => ?_, fun base KB GB => ?_⟩
  · have := df_bind c st hT hok [u] (by rw [hx]; rfl)
    rw [hx] at this
    exact .of_eq this
  · obtain ⟨h', e⟩ := run ns hl
    refine ⟨[], [], [.rol (ns.map .int)], ⟨by simp, rfl, fun i o p e => by simp at e⟩, ⟨_, _, rfl, ⟨a, ns.map V.int, rfl, ?_, ints_rv ns⟩, rfl⟩, ?_⟩
    · rcases hS with (hS | ⟨o, hS⟩) | hS
      · rcases hO a with z | ⟨o, xs, z⟩
        · rw [hS] at z; cases z
        · rw [hS] at z; cases z
      · exact .inl ⟨o, hS⟩
      · exact .inr hS
    · rw [e]
      exact fun ρ' H' b _ _ r => r
  · have := (levels (tp_of (P := l.prog) (w := w) KB GB c st hf hs) k).1 _ _ hT
    rw [hx] at this
    exact this
end
end Ip
end
section
set_option Elab.async false
set_option linter.all false
set_option maxRecDepth 100000
set_option maxHeartbeats 1000000
/-! plain reasoning over the machine: what holds behind an expression, a statement -/
namespace Ip
open PySem L2
abbrev Xp := Str → Option (List (Str × D)) → Hs → Prop
def R.wp {α : Type} (r : R α) (Q : α → Hs → Prop) (X : Xp) : Prop := match r with
  | .ok a h => Q a h
  | .exc c fs h => X c fs h
  | .bad => False
structure Pk where
  nx : Sl → Hs → Prop
  rt : D → Hs → Prop
  bk : Sl → Hs → Prop
  ct : Sl → Hs → Prop
  ex : Str → Option (List (Str × D)) → Sl → Hs → Prop
def RS.wp (r : RS) (P : Pk) : Prop := match r with
  | .next δ h => P.nx δ h
  | .ret d h => P.rt d h
  | .brk δ h => P.bk δ h
  | .cont δ h => P.ct δ h
  | .exc c fs δ h => P.ex c fs δ h
  | .bad => False
/-- a Bool that may fail, as a branch -/
def Br (o : Option Bool) (A B : Prop) : Prop := match o with
  | some true => A
  | some false => B
  | none => False
theorem br_some {b : Bool} {A B : Prop} : Br (some b) A B = if b = true then A else B := by cases b <;> simp [Br]
def Op {α : Type} (o : Option α) (A : α → Prop) : Prop := match o with
  | some a => A a
  | none => False
theorem op_some {α : Type} {a : α} {A : α → Prop} : Op (some a) A = A a := (rfl)
def OpD (o : Option (Option D)) (A : D → Prop) : Prop := match o with
  | some (some a) => A a
  | _ => False
theorem opD_some {a : D} {A : D → Prop} : OpD (some (some a)) A = A a := (rfl)
section
variable {α β : Type} {r : R α} {Q Q' : α → Hs → Prop} {X X' : Xp}
theorem R.wp.mono (w : r.wp Q X) (k : ∀ a h, Q a h → Q' a h) (kx : ∀ c fs h, X c fs h → X' c fs h) : r.wp Q' X' := by
  cases r with
  | ok a h => exact k a h w
  | exc c fs h => exact kx c fs h w
  | bad => exact w
theorem R.wp.imp (w : r.wp Q (fun _ _ _ => False)) (k : ∀ a h, Q a h → Q' a h) : r.wp Q' X := w.mono k fun _ _ _ z => z.elim
theorem wp_bnd {m : M α} {f : α → M β} {h : Hs} {Q : β → Hs → Prop} : (bnd m f h).wp Q X = (m h).wp (fun a h' => (f a h').wp Q X) X := by
  unfold bnd
  cases m h <;> rfl
theorem wp_ok {a : α} {h : Hs} : (R.ok a h : R α).wp Q X = Q a h := (rfl)
theorem wp_exc {c : Str} {fs : Option (List (Str × D))} {h : Hs} : (R.exc c fs h : R α).wp Q X = X c fs h := (rfl)
theorem wp_bad : (R.bad : R α).wp Q X = False := (rfl)
theorem wp_ret {a : α} {h : Hs} : (ret a h).wp Q X = Q a h := (rfl)
theorem wp_fail {h : Hs} : ((fail : M α) h).wp Q X = False := (rfl)
theorem wp_ite {c : Prop} [Decidable c] {a b : R α} : (if c then a else b).wp Q X = if c then a.wp Q X else b.wp Q X := by split <;> rfl
theorem wp_ok_of (w : r.wp Q X) (nx : ∀ c fs h, ¬ X c fs h) : ∃ a h, r = .ok a h ∧ Q a h := by
  cases r with
  | ok a h => exact ⟨a, h, rfl, w⟩
  | exc c fs h => exact absurd w (nx _ _ _)
  | bad => exact w.elim
end
section
variable {r : RS} {P P' : Pk}
theorem RS.wp.mono (w : r.wp P) (k1 : ∀ δ h, P.nx δ h → P'.nx δ h) (k2 : ∀ d h, P.rt d h → P'.rt d h) (k3 : ∀ δ h, P.bk δ h → P'.bk δ h) (k4 : ∀ δ h, P.ct δ h → P'.ct δ h) (k5 : ∀ c fs δ h, P.ex c fs δ h → P'.ex c fs δ h) : r.wp P' := by
  cases r with
  | next δ h => exact k1 _ _ w
  | ret d h => exact k2 _ _ w
  | brk δ h => exact k3 _ _ w
  | cont δ h => exact k4 _ _ w
  | exc c fs δ h => exact k5 _ _ _ _ w
  | bad => exact w
end
/-! ### expressions -/
def We (g : G) (e : E) (δ : Sl) (h : Hs) (Q : D → Hs → Prop) (X : Xp) : Prop := (evalE g e δ h).wp Q X
def Wes (g : G) (e : List E) (δ : Sl) (h : Hs) (Q : List D → Hs → Prop) (X : Xp) : Prop := (evalEs g e δ h).wp Q X
def Wo' (g : G) (e : Option E) (δ : Sl) (h : Hs) (Q : Option Int → Hs → Prop) (X : Xp) : Prop := (evalO g e δ h).wp Q X
def Wi (g : G) (e : It) (δ : Sl) (h : Hs) (Q : Src → Hs → Prop) (X : Xp) : Prop := (evalI g e δ h).wp Q X
def Wt (g : G) (e : E) (δ : Sl) (h : Hs) (Q : Bool → Hs → Prop) (X : Xp) : Prop := (tstOf (evalE g e δ) h).wp Q X
section
variable {g : G} {δ : Sl} {h : Hs} {Q : D → Hs → Prop} {X : Xp} {a b c : E}
theorem we_non : We g .non δ h Q X = Q .non h := by unfold We; rw [evalE]; rfl
theorem we_bl {x : Bool} : We g (.bl x) δ h Q X = Q (.bl x) h := by unfold We; rw [evalE]; rfl
theorem we_int {x : Int} : We g (.int x) δ h Q X = Q (.int x) h := by unfold We; rw [evalE]; rfl
theorem we_str {x : Str} : We g (.str x) δ h Q X = Q (.str x) h := by unfold We; rw [evalE]; rfl
theorem we_bty {x : String} : We g (.bty x) δ h Q X = Q (.ty x) h := by unfold We; rw [evalE]; rfl
theorem we_var {i : Nat} : We g (.var i) δ h Q X = OpD δ[i]? fun d => Q d h := by
  unfold We
  rw [evalE]
  unfold OpD
  split <;> rename_i e
  · rw [e]; rfl
  · cases q : δ[i]? with
    | none => rfl
    | some o =>
      cases o with
      | none => rfl
      | some d => exact absurd q (e d)
theorem we_glob {x : Str} : We g (.glob x) δ h Q X = Op (g.gl x) fun d => Q d h := by
  unfold We
  rw [evalE]
  cases g.gl x <;> rfl
theorem we_bin {o : Operator} : We g (.bin o a b) δ h Q X = We g a δ h (fun x h1 => We g b δ h1 (fun y h2 => (binG g o x y h2).wp Q X) X) X := by
  unfold We
  rw [evalE, wp_bnd]
  congr
  funext x h1
  rw [wp_bnd]
theorem we_un {o : UnaryOp} : We g (.un o a) δ h Q X = We g a δ h (fun x h1 => (unG g o x h1).wp Q X) X := by
  unfold We
  rw [evalE, wp_bnd]
theorem wt_def {Q : Bool → Hs → Prop} : Wt g a δ h Q X = We g a δ h (fun x h1 => Op (truthD h1 x) fun b => Q b h1) X := by
  unfold Wt We tstOf
  rw [wp_bnd]
  congr
  funext x h1
  cases truthD h1 x <;> rfl
theorem we_not : We g (.not a) δ h Q X = Wt g a δ h (fun b h1 => Q (.bl (!b)) h1) X := by
  unfold We Wt
  rw [evalE, wp_bnd]
  rfl
theorem we_and : We g (.and a b) δ h Q X = We g a δ h (fun x h1 => Br (truthD h1 x) (We g b δ h1 Q X) (Q x h1)) X := by
  unfold We
  rw [evalE, wp_bnd]
  congr
  funext x h1
  cases truthD h1 x with
  | none => rfl
  | some t => cases t <;> rfl
theorem we_or : We g (.or a b) δ h Q X = We g a δ h (fun x h1 => Br (truthD h1 x) (Q x h1) (We g b δ h1 Q X)) X := by
  unfold We
  rw [evalE, wp_bnd]
  congr
  funext x h1
  cases truthD h1 x with
  | none => rfl
  | some t => cases t <;> rfl
theorem we_cmp {o : CmpOp} : We g (.cmp o a b) δ h Q X = We g a δ h (fun x h1 => We g b δ h1 (fun y h2 => (cmpG g o x y h2).wp Q X) X) X := by
  unfold We
  rw [evalE, wp_bnd]
  congr
  funext x h1
  rw [wp_bnd]
theorem we_cmp2 {o p : CmpOp} : We g (.cmp2 o p a b c) δ h Q X = We g a δ h (fun x h1 => We g b δ h1 (fun y h2 => Br (cmpB h2 o x y) (We g c δ h2 (fun z h3 => (cmpop g p y z h3).wp Q X) X) (Q (.bl false) h2)) X) X := by
  unfold We
  rw [evalE, wp_bnd]
  congr
  funext x h1
  rw [wp_bnd]
  congr
  funext y h2
  cases cmpB h2 o x y with
  | none => rfl
  | some t =>
    cases t with
    | true => exact wp_bnd
    | false => rfl
theorem we_ife : We g (.ife a b c) δ h Q X = Wt g a δ h (fun t h1 => if t = true then We g b δ h1 Q X else We g c δ h1 Q X) X := by
  unfold We Wt
  rw [evalE, wp_bnd]
  congr
  funext t h1
  cases t <;> simp
theorem we_tup {es : List E} : We g (.tup es) δ h Q X = Wes g es δ h (fun ds h1 => ds.length ≤ sizeLine ∧ Q (.tup ds) h1) X := by
  unfold We Wes
  rw [evalE, wp_bnd]
  congr
  funext ds h1
  unfold newT
  split <;> simp [wp_ret, wp_fail, *]
theorem we_lst {es : List E} : We g (.lst es) δ h Q X = Wes g es δ h (fun ds h1 => ds.length ≤ sizeLine ∧ Q (.ref h1.length) (h1 ++ [.lst ds])) X := by
  unfold We Wes
  rw [evalE, wp_bnd]
  congr
  funext ds h1
  unfold newL
  split
  · simp only [alloc, wp_ok, *]; simp
  · simp [wp_fail, *]
theorem we_idx : We g (.idx a b) δ h Q X = We g a δ h (fun x h1 => We g b δ h1 (fun y h2 => (getitem x y h2).wp Q X) X) X := by
  unfold We
  rw [evalE, wp_bnd]
  congr
  funext x h1
  rw [wp_bnd]
theorem we_sl {lo hi : Option E} : We g (.sl a lo hi) δ h Q X = We g a δ h (fun x h1 => Wo' g lo δ h1 (fun l h2 => Wo' g hi δ h2 (fun u h3 => (slice x l u h3).wp Q X) X) X) X := by
  unfold We Wo'
  rw [evalE, wp_bnd]
  congr
  funext x h1
  rw [wp_bnd]
  congr
  funext l h2
  rw [wp_bnd]
theorem we_attr {f : Str} : We g (.attr a f) δ h Q X = We g a δ h (fun x h1 => (getattr g x f h1).wp Q X) X := by
  unfold We
  rw [evalE, wp_bnd]
theorem we_call {f : Str} {es : List E} : We g (.call f es) δ h Q X = Wes g es δ h (fun ds h1 => (g.cf (f, none) ds h1).wp Q X) X := by
  unfold We Wes
  rw [evalE, wp_bnd]
theorem we_make {f : Str} {es : List E} : We g (.make f es) δ h Q X = Wes g es δ h (fun ds h1 => (mkI g f ds h1).wp Q X) X := by
  unfold We Wes
  rw [evalE, wp_bnd]
theorem we_meth {m : Str} {es : List E} : We g (.meth a m es) δ h Q X = We g a δ h (fun x h1 => (methC g x m h1).wp (fun c h2 => Wes g es δ h2 (fun ds h3 => (g.cf (c, some m) (x :: ds) h3).wp Q X) X) X) X := by
  unfold We Wes
  rw [evalE, wp_bnd]
  congr
  funext x h1
  rw [wp_bnd]
  congr
  funext l h2
  rw [wp_bnd]
theorem we_bi {f : Bi} {es : List E} : We g (.bi f es) δ h Q X = Wes g es δ h (fun ds h1 => (biF g f ds h1).wp Q X) X := by
  unfold We Wes
  rw [evalE, wp_bnd]
theorem we_bm {m : Bm} {es : List E} : We g (.bm a m es) δ h Q X = We g a δ h (fun x h1 => (isL x h1).wp (fun _ h2 => Wes g es δ h2 (fun ds h3 => (bmf m x ds h3).wp Q X) X) X) X := by
  unfold We Wes
  rw [evalE, wp_bnd]
  congr
  funext x h1
  rw [wp_bnd]
  congr
  funext l h2
  rw [wp_bnd]
theorem wes_nil {Q : List D → Hs → Prop} : Wes g [] δ h Q X = Q [] h := by unfold Wes; rw [evalEs]; rfl
theorem wes_cons {es : List E} {Q : List D → Hs → Prop} : Wes g (a :: es) δ h Q X = We g a δ h (fun x h1 => Wes g es δ h1 (fun xs h2 => Q (x :: xs) h2) X) X := by
  unfold We Wes
  rw [evalEs, wp_bnd]
  congr
  funext x h1
  rw [wp_bnd]
  rfl
theorem wo_none {Q : Option Int → Hs → Prop} : Wo' g none δ h Q X = Q none h := by unfold Wo'; rw [evalO]; rfl
theorem wo_some {Q : Option Int → Hs → Prop} : Wo' g (some a) δ h Q X = We g a δ h (fun x h1 => (partOf x h1).wp Q X) X := by
  unfold We Wo'
  rw [evalO, wp_bnd]
theorem wi_e {Q : Src → Hs → Prop} : Wi g (.e a) δ h Q X = We g a δ h (fun x h1 => Op (srcOf h1 x) fun s => Q s h1) X := by
  unfold We Wi
  rw [evalI, wp_bnd]
  congr
  funext x h1
  cases srcOf h1 x <;> rfl
theorem wi_rng {es : List E} {Q : Src → Hs → Prop} : Wi g (.rng es) δ h Q X = Wes g es δ h (fun ds h1 => Op (rngOf ds) fun s => Q s h1) X := by
  unfold Wes Wi
  rw [evalI, wp_bnd]
  congr
  funext x h1
  cases rngOf x <;> rfl
/-- [e for t in it if ..] -/
theorem we_lc {e : E} {t : Pt} {own : List Nat} {it : It} {ifs : List E} : We g (.lc e t own it ifs) δ h Q X = (g.hot = false ∧ Wi g it δ h (fun src h1 => (compN src (asgP false t) (fun δ1 => evalC g ifs δ1) (fun δ1 => evalE g e δ1) (wipeD δ own) g.fuel 0 [] h1).wp (fun l h2 => Q (.ref h2.length) (h2 ++ [.lst l])) X) X) := by
  unfold We Wi
  rw [evalE]
  cases g.hot with
  | true => simp [wp_fail]
  | false =>
    simp only [Bool.false_eq_true, if_false, true_and, wp_bnd, alloc, wp_ok]
end
/-! ### statements -/
noncomputable def Ws (g : G) (s : S) (δ : Sl) (h : Hs) (P : Pk) : Prop := (execS g s δ h).wp P
noncomputable def Wss (g : G) (s : List S) (δ : Sl) (h : Hs) (P : Pk) : Prop := (execSs g s δ h).wp P
section
variable {g : G} {δ : Sl} {h : Hs} {P : Pk} {e : E}
theorem thenS_wp {α : Type} {r : R α} {k : α → Hs → RS} : (thenS δ r k).wp P = r.wp (fun a h1 => (k a h1).wp P) (fun c fs h1 => P.ex c fs δ h1) := by
  cases r <;> rfl
theorem wss_nil : Wss g [] δ h P = P.nx δ h := by unfold Wss; rw [execSs]; rfl
theorem wss_cons {s : S} {ss : List S} : Wss g (s :: ss) δ h P = Ws g s δ h { P with nx := fun δ1 h1 => Wss g ss δ1 h1 P } := by
  unfold Wss Ws
  rw [execSs]
  cases execS g s δ h <;> rfl
theorem ws_expr : Ws g (.expr e) δ h P = We g e δ h (fun _ h1 => P.nx δ h1) (fun c fs h1 => P.ex c fs δ h1) := by
  unfold Ws We
  rw [execS, thenS_wp]
  rfl
theorem ws_ret : Ws g (.ret e) δ h P = We g e δ h (fun d h1 => P.rt d h1) (fun c fs h1 => P.ex c fs δ h1) := by
  unfold Ws We
  rw [execS, thenS_wp]
  rfl
theorem ws_retN : Ws g .retN δ h P = P.rt .non h := by unfold Ws; rw [execS]; rfl
theorem ws_pass : Ws g .pass δ h P = P.nx δ h := by unfold Ws; rw [execS]; rfl
theorem ws_brk : Ws g .brk δ h P = P.bk δ h := by unfold Ws; rw [execS]; rfl
theorem ws_cont : Ws g .cont δ h P = P.ct δ h := by unfold Ws; rw [execS]; rfl
theorem nextS_wp {o : Option Sl} : (nextS o h).wp P = Op o fun δ1 => P.nx δ1 h := by cases o <;> rfl
theorem ws_asg {t : Pt} : Ws g (.asg t e) δ h P = We g e δ h (fun d h1 => Op (asgP g.hot t d δ) fun δ1 => P.nx δ1 h1) (fun c fs h1 => P.ex c fs δ h1) := by
  unfold Ws We
  rw [execS, thenS_wp]
  simp only [nextS_wp]
theorem liftS_wp {m : M Unit} : (liftS δ m h).wp P = (m h).wp (fun _ h1 => P.nx δ h1) (fun c fs h1 => P.ex c fs δ h1) := by
  unfold liftS
  cases m h <;> rfl
theorem ws_sub {o i : E} : Ws g (.sub o i e) δ h P = We g e δ h (fun d h1 => We g o δ h1 (fun x h2 => We g i δ h2 (fun y h3 => (setitem x y d h3).wp (fun _ h4 => P.nx δ h4) (fun c fs h4 => P.ex c fs δ h4)) (fun c fs h3 => P.ex c fs δ h3)) (fun c fs h2 => P.ex c fs δ h2)) (fun c fs h1 => P.ex c fs δ h1) := by
  unfold Ws We
  rw [execS, liftS_wp]
  simp only [wp_bnd]
theorem ws_fld {o : E} {f : Str} : Ws g (.fld o f e) δ h P = We g e δ h (fun d h1 => We g o δ h1 (fun x h2 => (setattr g x f d h2).wp (fun _ h4 => P.nx δ h4) (fun c fs h4 => P.ex c fs δ h4)) (fun c fs h2 => P.ex c fs δ h2)) (fun c fs h1 => P.ex c fs δ h1) := by
  unfold Ws We
  rw [execS, liftS_wp]
  simp only [wp_bnd]
theorem ws_aug {i : Nat} {o : Operator} : Ws g (.aug i o e) δ h P = OpD δ[i]? fun x => We g e δ h (fun y h1 => (augop o x y h1).wp (fun d h2 => P.nx (δ.set i (some d)) h2) (fun c fs h2 => P.ex c fs δ h2)) (fun c fs h1 => P.ex c fs δ h1) := by
  unfold Ws We
  rw [execS]
  unfold OpD
  split <;> rename_i q
  · try rw [q]
    simp only [thenS_wp, wp_bnd]
    rfl
  · cases q2 : δ[i]? with
    | none => rfl
    | some o =>
      cases o with
      | none => rfl
      | some d => exact absurd q2 (q d)
theorem ws_iff {a b : List S} : Ws g (.iff e a b) δ h P = Wt g e δ h (fun t h1 => if t = true then Wss g a δ h1 P else Wss g b δ h1 P) (fun c fs h1 => P.ex c fs δ h1) := by
  unfold Ws Wt Wss
  rw [execS, thenS_wp]
  congr
  funext t h1
  cases t <;> simp
theorem ws_for {t : Pt} {it : It} {b : List S} : Ws g (.for_ t it b) δ h P = (g.hot = false ∧ Wi g it δ h (fun src h1 => (forN src (asgP false t) (fun δ1 => execSs g b δ1) g.fuel 0 δ h1).wp P) (fun c fs h1 => P.ex c fs δ h1)) := by
  unfold Ws Wi
  rw [execS]
  cases g.hot with
  | true => simp [RS.wp]
  | false => simp only [Bool.false_eq_true, if_false, true_and, thenS_wp]
theorem ws_whl {b : List S} : Ws g (.whl e b) δ h P = (whlN (fun δ1 => tstOf (evalE g e δ1)) (fun δ1 => execSs g b δ1) g.fuel δ h).wp P := by
  unfold Ws
  rw [execS]
theorem ws_raise {c : Str} {es : List E} : Ws g (.raise c es) δ h P = (g.hot = false ∧ Wes g es δ h (fun ds h1 => (mkX g c ds δ h1).wp P) (fun c fs h1 => P.ex c fs δ h1)) := by
  unfold Ws Wes
  rw [execS]
  cases g.hot with
  | true => simp [RS.wp]
  | false => simp only [Bool.false_eq_true, if_false, true_and, thenS_wp]
noncomputable def Wh (g : G) (hs : Hd) (c : Str) (fs : Option (List (Str × D))) (δ : Sl) (h : Hs) (P : Pk) : Prop := (execH g hs c fs δ h).wp P
theorem ws_try {b : List S} {hs : Hd} : Ws g (.try_ b hs) δ h P = (g.hot = false ∧ Wss g b δ h { P with ex := fun c fs δ1 h1 => Wh g hs c fs δ1 h1 P }) := by
  unfold Ws Wss Wh
  rw [execS]
  cases g.hot with
  | true => simp [RS.wp]
  | false =>
    simp only [Bool.false_eq_true, if_false, true_and]
    cases execSs g b δ h <;> rfl
theorem wh_nil {c : Str} {fs : Option (List (Str × D))} : Wh g .nil c fs δ h P = P.ex c fs δ h := by unfold Wh; rw [execH]; rfl
theorem wh_cons {c x : Str} {o : Option Nat} {b : List S} {r : Hd} {fs : Option (List (Str × D))} : Wh g (.cons x o b r) c fs δ h P = Br (g.exm c x) ((suiteN o fs c δ fun hx δ1 => execSs (gH g hx) b δ1 h).wp P) (Wh g r c fs δ h P) := by
  unfold Wh
  rw [execH]
  cases g.exm c x with
  | none => rfl
  | some t => cases t <;> rfl
theorem we_fold {g : G} {e : E} {δ : Sl} {h : Hs} {Q : D → Hs → Prop} {X : Xp} : (evalE g e δ h).wp Q X = We g e δ h Q X := (rfl)
theorem wt_fold {g : G} {e : E} {δ : Sl} {h : Hs} {Q : Bool → Hs → Prop} {X : Xp} : (tstOf (evalE g e δ) h).wp Q X = Wt g e δ h Q X := (rfl)
theorem wss_fold {g : G} {e : List S} {δ : Sl} {h : Hs} {P : Pk} : (execSs g e δ h).wp P = Wss g e δ h P := (rfl)
/-! ### walks -/
theorem for_vals {l : List D} {asg : D → Sl → Option Sl} {body : Sl → Hs → RS} {n : Nat} (Inv : Nat → Sl → Hs → Prop) (hn : l.length < n) (h0 : Inv 0 δ h)
    (step : ∀ i d δ h, l[i]? = some d → Inv i δ h → Op (asg d δ) fun δ1 => (body δ1 h).wp { nx := Inv (i + 1), rt := P.rt, bk := P.nx, ct := Inv (i + 1), ex := P.ex }) (done : ∀ δ h, Inv l.length δ h → P.nx δ h) : (forN (.vals l) asg body n 0 δ h).wp P := by
  have key : ∀ n i δ h, i ≤ l.length → l.length - i < n → Inv i δ h → (forN (.vals l) asg body n i δ h).wp P := by
    intro n
    induction n with
    | zero => intro i δ h _ hl; omega
    | succ n ih =>
      intro i δ h hi hl hI
      unfold forN
      show RS.wp (match some l[i]? with
        | none => _
        | some none => _
        | some (some d) => _) P
      cases e : l[i]? with
      | none =>
        have : i = l.length := by
          have := List.getElem?_eq_none_iff.mp e
          omega
        subst this
        exact done δ h hI
      | some d =>
        have hlt := (List.getElem?_eq_some_iff.mp e).1
        have s := step i d δ h e hI
        dsimp only
        cases q : asg d δ with
        | none => rw [q] at s; exact s.elim
        | some δ1 =>
          rw [q] at s
          have s : (body δ1 h).wp _ := s
          dsimp only
          cases b : body δ1 h with
          | next δ2 h2 => rw [b] at s; exact ih (i + 1) δ2 h2 hlt (by omega) s
          | cont δ2 h2 => rw [b] at s; exact ih (i + 1) δ2 h2 hlt (by omega) s
          | brk δ2 h2 => rw [b] at s; exact s
          | ret d h2 => rw [b] at s; exact s
          | exc c fs δ2 h2 => rw [b] at s; exact s
          | bad => rw [b] at s; exact s
  exact key n 0 δ h (Nat.zero_le _) (by omega) h0
/-- over a list that stays as it is -/
theorem for_live {a : Nat} {l : List D} {asg : D → Sl → Option Sl} {body : Sl → Hs → RS} {n : Nat} (Inv : Nat → Sl → Hs → Prop) (hn : l.length < n) (h0 : Inv 0 δ h) (hl : ∀ i δ h, Inv i δ h → h[a]? = some (.lst l))
    (step : ∀ i d δ h, l[i]? = some d → Inv i δ h → Op (asg d δ) fun δ1 => (body δ1 h).wp { nx := Inv (i + 1), rt := P.rt, bk := P.nx, ct := Inv (i + 1), ex := P.ex }) (done : ∀ δ h, Inv l.length δ h → P.nx δ h) : (forN (.live a) asg body n 0 δ h).wp P := by
  have key : ∀ n i δ h, i ≤ l.length → l.length - i < n → Inv i δ h → (forN (.live a) asg body n i δ h).wp P := by
    intro n
    induction n with
    | zero => intro i δ h _ hl; omega
    | succ n ih =>
      intro i δ h hi hl' hI
      have ea : Src.at (.live a) i h = some l[i]? := by
        show (match h[a]? with
          | some (.lst l) => some l[i]?
          | _ => none) = _
        rw [hl i δ h hI]
      unfold forN
      rw [ea]
      cases e : l[i]? with
      | none =>
        have : i = l.length := by
          have := List.getElem?_eq_none_iff.mp e
          omega
        subst this
        exact done δ h hI
      | some d =>
        have hlt := (List.getElem?_eq_some_iff.mp e).1
        have s := step i d δ h e hI
        dsimp only
        cases q : asg d δ with
        | none => rw [q] at s; exact s.elim
        | some δ1 =>
          rw [q] at s
          have s : (body δ1 h).wp _ := s
          dsimp only
          cases b : body δ1 h with
          | next δ2 h2 => rw [b] at s; exact ih (i + 1) δ2 h2 hlt (by omega) s
          | cont δ2 h2 => rw [b] at s; exact ih (i + 1) δ2 h2 hlt (by omega) s
          | brk δ2 h2 => rw [b] at s; exact s
          | ret d h2 => rw [b] at s; exact s
          | exc c fs δ2 h2 => rw [b] at s; exact s
          | bad => rw [b] at s; exact s
  exact key n 0 δ h (Nat.zero_le _) (by omega) h0
/-- while: a measure falls -/
theorem whl_wp {tst : Sl → M Bool} {body : Sl → Hs → RS} {n : Nat} (Inv : Nat → Sl → Hs → Prop) (m : Nat) (hn : m < n) (h0 : Inv m δ h)
    (step : ∀ m δ h, Inv m δ h → (tst δ h).wp (fun b h1 => if b = true then (body δ h1).wp { nx := fun δ2 h2 => ∃ m', m' < m ∧ Inv m' δ2 h2, rt := P.rt, bk := P.nx, ct := fun δ2 h2 => ∃ m', m' < m ∧ Inv m' δ2 h2, ex := P.ex } else P.nx δ h1) (fun c fs h1 => P.ex c fs δ h1)) : (whlN tst body n δ h).wp P := by
  have key : ∀ n m δ h, m < n → Inv m δ h → (whlN tst body n δ h).wp P := by
    intro n
    induction n with
    | zero => intro m δ h hl; omega
    | succ n ih =>
      intro m δ h hl hI
      have s := step m δ h hI
      unfold whlN
      cases t : tst δ h with
      | ok b h1 =>
        rw [t] at s
        cases b with
        | false => exact (show P.nx δ h1 by simpa [R.wp] using s)
        | true =>
          have s : RS.wp (body δ h1) { nx := fun δ2 h2 => ∃ m', m' < m ∧ Inv m' δ2 h2, rt := P.rt, bk := P.nx, ct := fun δ2 h2 => ∃ m', m' < m ∧ Inv m' δ2 h2, ex := P.ex } := by simpa [R.wp] using s
          dsimp only
          cases b : body δ h1 with
          | next δ2 h2 => rw [b] at s; obtain ⟨m', h3, h4⟩ := s; exact ih m' δ2 h2 (by omega) h4
          | cont δ2 h2 => rw [b] at s; obtain ⟨m', h3, h4⟩ := s; exact ih m' δ2 h2 (by omega) h4
          | brk δ2 h2 => rw [b] at s; exact s
          | ret d h2 => rw [b] at s; exact s
          | exc c fs δ2 h2 => rw [b] at s; exact s
          | bad => rw [b] at s; exact s
      | exc c fs h1 => rw [t] at s; exact s
      | bad => rw [t] at s; exact s
  exact key n m δ h hn h0
end
/-- a comprehension: the list so far, item by item -/
theorem comp_vals {l : List D} {asg : D → Sl → Option Sl} {tst : Sl → M Bool} {elt : Sl → M D} {δ0 : Sl} {n : Nat} {h : Hs} {Q : List D → Hs → Prop} {X : Xp} (Inv : Nat → List D → Hs → Prop) (hn : l.length < n) (h0 : Inv 0 [] h)
    (step : ∀ i d acc h, l[i]? = some d → Inv i acc h → Op (asg d δ0) fun δ1 => (tst δ1 h).wp (fun b h1 => if b = true then (elt δ1 h1).wp (fun y h2 => acc.length < sizeLine ∧ Inv (i + 1) (acc ++ [y]) h2) (fun _ _ _ => False) else Inv (i + 1) acc h1) (fun _ _ _ => False)) (done : ∀ acc h, Inv l.length acc h → Q acc h) : (compN (.vals l) asg tst elt δ0 n 0 [] h).wp Q X := by
  have key : ∀ n i acc h, i ≤ l.length → l.length - i < n → Inv i acc h → (compN (.vals l) asg tst elt δ0 n i acc h).wp Q X := by
    intro n
    induction n with
    | zero => intro i acc h _ hl; omega
    | succ n ih =>
      intro i acc h hi hl hI
      unfold compN
      show R.wp (match some l[i]? with
        | none => _
        | some none => _
        | some (some d) => _) Q X
      cases e : l[i]? with
      | none =>
        have : i = l.length := by
          have := List.getElem?_eq_none_iff.mp e
          omega
        subst this
        exact done acc h hI
      | some d =>
        have hlt := (List.getElem?_eq_some_iff.mp e).1
        have s := step i d acc h e hI
        dsimp only
        cases q : asg d δ0 with
        | none => rw [q] at s; exact s.elim
        | some δ1 =>
          rw [q] at s
          have s : R.wp (tst δ1 h) (fun b h1 => if b = true then (elt δ1 h1).wp (fun y h2 => acc.length < sizeLine ∧ Inv (i + 1) (acc ++ [y]) h2) (fun _ _ _ => False) else Inv (i + 1) acc h1) (fun _ _ _ => False) := s
          dsimp only
          cases t : tst δ1 h with
          | ok b h1 =>
            rw [t] at s
            cases b with
            | false => exact ih (i + 1) acc h1 hlt (by omega) (by simpa [R.wp] using s)
            | true =>
              have s : R.wp (elt δ1 h1) (fun y h2 => acc.length < sizeLine ∧ Inv (i + 1) (acc ++ [y]) h2) (fun _ _ _ => False) := by simpa [R.wp] using s
              dsimp only
              cases b : elt δ1 h1 with
              | ok y h2 =>
                rw [b] at s
                dsimp only
                rw [if_pos s.1]
                exact ih (i + 1) _ h2 hlt (by omega) s.2
              | exc c fs h2 => rw [b] at s; exact s
              | bad => rw [b] at s; exact s
          | exc c fs h1 => rw [t] at s; exact s
          | bad => rw [t] at s; exact s
  exact key n 0 [] h (Nat.zero_le _) (by omega) h0
/-! ### calls -/
noncomputable def gM (T : FKey → Option Fn) (gb : G) (k : Nat) : Option Hx → G
  | none => gC gb k (lvs T gb k).1 (lvs T gb k).2
  | some hx => gY gb (lvs T gb k).1 hx
noncomputable def cal (T : FKey → Option Fn) (gb : G) (m : Option Hx) (k : Nat) (key : FKey) (ds : List D) : M D := (lvs T gb k).1 m key ds
section
variable {T : FKey → Option Fn} {gb : G} {m : Option Hx} {k : Nat}
theorem gM_cf {key : FKey} {ds : List D} {h : Hs} : (gM T gb k m).cf key ds h = cal T gb m k key ds h := by cases m <;> rfl
theorem gM_cm {key : FKey} {ds : List D} {h : Hs} : (gM T gb (k + 1) none).cm key ds h = cal T gb none k key ds h := (rfl)
theorem gM_ch {hx : Hx} {key : FKey} {ds : List D} {h : Hs} : (gM T gb k none).ch hx key ds h = cal T gb (some hx) k key ds h := (rfl)
theorem gM_gl : (gM T gb k m).gl = gb.gl := by cases m <;> rfl
theorem gM_fld : (gM T gb k m).fld = gb.fld := by cases m <;> rfl
theorem gM_mth : (gM T gb k m).mth = gb.mth := by cases m <;> rfl
theorem gM_opo : (gM T gb k m).opo = gb.opo := by cases m <;> rfl
theorem gM_opi : (gM T gb k m).opi = gb.opi := by cases m <;> rfl
theorem gM_opu : (gM T gb k m).opu = gb.opu := by cases m <;> rfl
theorem gM_eqo : (gM T gb k m).eqo = gb.eqo := by cases m <;> rfl
theorem gM_isi : (gM T gb k m).isi = gb.isi := by cases m <;> rfl
theorem gM_ist : (gM T gb k m).ist = gb.ist := by cases m <;> rfl
theorem gM_xfd : (gM T gb k m).xfd = gb.xfd := by cases m <;> rfl
theorem gM_xiz : (gM T gb k m).xiz = gb.xiz := by cases m <;> rfl
theorem gM_exm : (gM T gb k m).exm = gb.exm := by cases m <;> rfl
theorem gM_fuel : (gM T gb k m).fuel = gb.fuel := by cases m <;> rfl
theorem gM_hot0 : (gM T gb k none).hot = false := (rfl)
theorem gM_hot1 {hx : Hx} : (gM T gb k (some hx)).hot = true := (rfl)
theorem gM_hx1 {hx : Hx} : (gM T gb k (some hx)).hx = hx := (rfl)
theorem gM_xc : (gM T gb (k + 2) none).xc = gb.xc := by
  show (if 2 ≤ k + 2 then gb.xc else fun _ => none) = _
  rw [if_pos (by omega)]
theorem gM_prp : (gM T gb (k + 1) none).prp = gb.prp := by
  show (if 1 ≤ k + 1 then gb.prp else fun _ _ => false) = _
  rw [if_pos (by omega)]
/-- within an except suite -/
theorem gH_cf {hx : Hx} {key : FKey} {ds : List D} {h : Hs} : (gH (gM T gb k none) hx).cf key ds h = cal T gb (some hx) k key ds h := (rfl)
theorem endF_wp {r : RS} {Q : D → Hs → Prop} {X : Xp} : (endF r).wp Q X = r.wp { nx := fun _ h => Q .non h, rt := Q, bk := fun _ _ => False, ct := fun _ _ => False, ex := fun c fs _ h => X c fs h } := by
  cases r <;> rfl
/-- a def's call -/
theorem cal_wp {key : FKey} {fn : Fn} {ds : List D} {h : Hs} {Q : D → Hs → Prop} {X : Xp} (hT : T key = some fn) (hl : ds.length = fn.params.length)
    (w : Wss (gM T gb k m) fn.body (ds.map some ++ List.replicate (fn.names.length - ds.length) none) h { nx := fun _ h => Q .non h, rt := Q, bk := fun _ _ => False, ct := fun _ _ => False, ex := fun c fs _ h => X c fs h }) : (cal T gb m (k + 1) key ds h).wp Q X := by
  unfold cal
  show (step T gb k (lvs T gb k).1 (lvs T gb k).2 m key ds h).wp Q X
  unfold step
  rw [hT]
  cases m with
  | none =>
    show (runF _ fn ds h).wp Q X
    unfold runF
    rw [if_pos hl, endF_wp]
    exact w
  | some hx =>
    show (runF _ fn ds h).wp Q X
    unfold runF
    rw [if_pos hl, endF_wp]
    exact w
end
end Ip
end
section
set_option Elab.async false
set_option linter.all false
set_option maxRecDepth 100000
set_option maxHeartbeats 1000000
/-! values: what operators, comparisons, subscripts, built-ins give -/
namespace Ip
open PySem L2
theorem ibeq {i j : Int} : (i == j) = decide (i = j) := by
  by_cases h : i = j <;> simp [h]
theorem op_ite {α : Type} {c : Prop} [Decidable c] {a : α} {A : α → Prop} : Op (if c then some a else none) A = (c ∧ A a) := by
  split <;> simp [Op, *]
theorem op_ite2 {α : Type} {c : Prop} [Decidable c] {x y : Option α} {A : α → Prop} : Op (if c then x else y) A = if c then Op x A else Op y A := by
  split <;> rfl
section
variable {g : G} {h : Hs} {Q : D → Hs → Prop} {X : Xp} {i j : Int}
theorem binG_int {o : Operator} : (binG g o (.int i) (.int j) h).wp Q X = Op (binI o i j) fun k => Q (.int k) h := by
  show ((match binI o i j with
    | some k => ret (.int k)
    | none => fail : M D) h).wp Q X = _
  cases binI o i j <;> rfl
theorem binI_add : binI .Add i j = some (i + j) := (rfl)
theorem binI_sub : binI .Sub i j = some (i - j) := (rfl)
theorem binI_and : binI .BitAnd i j = some (Builtin.bitAnd i j) := (rfl)
theorem binI_or : binI .BitOr i j = some (Builtin.bitOr i j) := (rfl)
theorem binI_xor : binI .BitXor i j = some (Builtin.bitXor i j) := (rfl)
theorem binI_mod : binI .Mod i j = if 0 < j then some (i % j) else none := by simp [binI]
theorem binI_shr : binI .RShift i j = if 0 ≤ j then some (i / 2 ^ j.toNat) else none := by simp [binI]
theorem binI_fdiv (h0 : 0 < j) (h1 : j < 18446744073709551616) : binI .FloorDiv i j = some (i / j) := by
  have h2 : j.natAbs.log2 < 9000 := by
    have e : j.natAbs < 2 ^ 64 := by omega
    have : j.natAbs.log2 < 64 := by
      rw [Nat.log2_lt (by omega)]; exact e
    omega
  simp [binI, h0, h2]
theorem binI_mulR (h0 : -18446744073709551616 < j) (h1 : j < 18446744073709551616) : binI .Mult i j = some (i * j) := by
  simp only [binI]
  split
  · rfl
  · rw [if_pos]
    simp only [Bool.or_eq_true, Bool.and_eq_true, decide_eq_true_eq]
    exact .inr ⟨by omega, by omega⟩
theorem binI_mulL (h0 : -18446744073709551616 < i) (h1 : i < 18446744073709551616) : binI .Mult i j = some (i * j) := by
  simp only [binI]
  split
  · rfl
  · rw [if_pos]
    simp only [Bool.or_eq_true, Bool.and_eq_true, decide_eq_true_eq]
    exact .inl ⟨by omega, by omega⟩
theorem binI_pow (h0 : 0 ≤ j) (h1 : j ≤ 1000000) (h2 : -18446744073709551616 < i) (h3 : i < 18446744073709551616) : binI .Pow i j = some (i ^ j.toNat) := by
  have e : (2 : Nat) ^ 64 = 18446744073709551616 := by decide
  simp only [binI]
  rw [if_pos]
  simp only [Bool.and_eq_true, decide_eq_true_eq]
  exact ⟨⟨h0, h1⟩, by rw [e]; omega⟩
theorem binI_shl {n : Nat} (h0 : 0 ≤ j) (h1 : i.natAbs < 2 ^ n) (h2 : (n : Int) + j ≤ 134217728) : binI .LShift i j = some (i * 2 ^ j.toNat) := by
  have e := PySem.intBits_le_iff.mpr h1
  simp only [binI]
  rw [if_pos]
  simp only [Bool.and_eq_true, decide_eq_true_eq]
  refine ⟨h0, ?_⟩
  have : (2 : Int) ^ 27 = 134217728 := by decide
  rw [this]
  omega
theorem binI_shl1 (h0 : 0 ≤ j) (h1 : j ≤ 100000000) : binI .LShift 1 j = some (2 ^ j.toNat) := by
  rw [binI_shl (n := 1) h0 (by decide) (by omega), Int.one_mul]
/-! ### comparisons -/
theorem pyOf_non : pyOf h .non = some .none := (rfl)
theorem pyOf_bl {b : Bool} : pyOf h (.bl b) = some (.bool b) := (rfl)
theorem pyOf_int : pyOf h (.int i) = some (.int i) := (rfl)
theorem pyOf_str {s : Str} (hs : SeqAt.shaped (.str s) = true) : pyOf h (.str s) = some (.str s) := by
  unfold pyOf toPy
  simp [hs]
theorem cmpG_int {o : CmpOp} : (cmpG g o (.int i) (.int j) h).wp Q X = Op (cmpB h o (.int i) (.int j)) fun b => Q (.bl b) h := by
  show (cmpop g o (.int i) (.int j) h).wp Q X = _
  unfold cmpop
  cases cmpB h o (.int i) (.int j) <;> rfl
theorem cmpop_wp {o : CmpOp} {x y : D} : (cmpop g o x y h).wp Q X = Op (cmpB h o x y) fun b => Q (.bl b) h := by
  unfold cmpop
  cases cmpB h o x y <;> rfl
theorem cmpB_lt : cmpB h .Lt (.int i) (.int j) = some (decide (i < j)) := (rfl)
theorem cmpB_le : cmpB h .LtE (.int i) (.int j) = some (decide (i ≤ j)) := (rfl)
theorem cmpB_gt : cmpB h .Gt (.int i) (.int j) = some (decide (j < i)) := (rfl)
theorem cmpB_ge : cmpB h .GtE (.int i) (.int j) = some (decide (j ≤ i)) := (rfl)
theorem cmpB_eq : cmpB h .Eq (.int i) (.int j) = some (decide (i = j)) := by
  show some (i == j) = _
  rw [ibeq]
theorem cmpB_ne : cmpB h .NotEq (.int i) (.int j) = some (decide (i ≠ j)) := by
  show some (!(i == j)) = _
  rw [ibeq]
  simp
theorem cmpB_eqB {a b : Bool} : cmpB h .Eq (.bl a) (.bl b) = some (a == b) := (rfl)
/-- x is None -/
theorem cmpB_isN {x : D} : cmpB h .Is x .non = some (isNon x) := (rfl)
theorem cmpB_notN {x : D} : cmpB h .IsNot x .non = some (!isNon x) := (rfl)
theorem cmpB_isB {x : D} {b : Bool} : cmpB h .Is x (.bl b) = some (isBl b x) := (rfl)
theorem cmpB_notB {x : D} {b : Bool} : cmpB h .IsNot x (.bl b) = some (!isBl b x) := (rfl)
theorem cmpG_is {x y : D} (o : CmpOp) (ho : o ≠ .Eq) (ho2 : o ≠ .NotEq) : (cmpG g o x y h).wp Q X = Op (cmpB h o x y) fun b => Q (.bl b) h := by
  have e : cmpG g o x y h = cmpop g o x y h := by
    unfold cmpG
    cases insOf h x with
    | none => rfl
    | some c => cases o <;> first | rfl | exact absurd rfl ho | exact absurd rfl ho2
  rw [e, cmpop_wp]
theorem cmpG_plain {x y : D} {o : CmpOp} (hx : insOf h x = none) : (cmpG g o x y h).wp Q X = Op (cmpB h o x y) fun b => Q (.bl b) h := by
  have e : cmpG g o x y h = cmpop g o x y h := by
    unfold cmpG
    rw [hx]
  rw [e, cmpop_wp]
/-! ### truth -/
theorem truthD_bl {b : Bool} : truthD h (.bl b) = some b := (rfl)
theorem truthD_int : truthD h (.int i) = some (decide (i ≠ 0)) := by
  show some (i != 0) = _
  simp [bne, ibeq]
theorem truthD_non : truthD h .non = some false := (rfl)
theorem truthD_tup {l : List D} : truthD h (.tup l) = some (!l.isEmpty) := (rfl)
def trO : Option O → Option Bool
  | some (.lst l) => some !l.isEmpty
  | some (.dK l) => some !l.isEmpty
  | _ => none
theorem truthD_ref {a : Nat} : truthD h (.ref a) = trO h[a]? := by
  show (match h[a]? with
    | some (.lst l) => some !l.isEmpty
    | some (.dK l) => some !l.isEmpty
    | _ => none) = _
  cases h[a]? with
  | none => rfl
  | some o => cases o <;> rfl
theorem trO_lst {l : List D} : trO (some (.lst l)) = some !l.isEmpty := (rfl)
/-! ### subscripts -/
theorem atI_pos {α : Type} {xs : List α} {k : Int} (h0 : 0 ≤ k) : atI xs k = xs[k.toNat]? := by
  unfold atI ixN
  rw [if_pos h0]
  by_cases h1 : k < xs.length
  · rw [if_pos h1]; rfl
  · rw [if_neg h1]
    symm
    rw [Option.bind_none, List.getElem?_eq_none_iff]
    omega
theorem ixN_pos {n : Nat} {k : Int} (h0 : 0 ≤ k) (h1 : k.toNat < n) : ixN n k = some k.toNat := by
  unfold ixN
  rw [if_pos h0, if_pos (by omega)]
def OpL (o : Option O) (A : List D → Prop) : Prop := match o with
  | some (.lst l) => A l
  | _ => False
theorem opL_some {l : List D} {A : List D → Prop} : OpL (some (.lst l)) A = A l := (rfl)
theorem get_ref {a : Nat} : (getitem (.ref a) (.int i) h).wp Q X = OpL h[a]? fun l => Op (atI l i) fun d => Q d h := by
  have : getitem (.ref a) (.int i) h = (match seqOf h (.ref a) with
    | some l => (match atI l i with
      | some d => .ok d h
      | none => .bad)
    | none => .bad) := (rfl)
  rw [this]
  have e2 : seqOf h (.ref a) = (match h[a]? with
      | some (.lst l) => some l
      | _ => none) := (rfl)
  rw [e2]
  cases h[a]? with
  | none => rfl
  | some o =>
    cases o with
    | lst l =>
      dsimp only [OpL]
      cases atI l i <;> rfl
    | _ => rfl
theorem get_tup {l : List D} : (getitem (.tup l) (.int i) h).wp Q X = Op (atI l i) fun d => Q d h := by
  show (match atI l i with
      | some d => .ok d h
      | none => .bad : R D).wp Q X = _
  cases atI l i <;> rfl
theorem get_rol {l : List D} : (getitem (.rol l) (.int i) h).wp Q X = Op (atI l i) fun d => Q d h := by
  show (match atI l i with
      | some d => .ok d h
      | none => .bad : R D).wp Q X = _
  cases atI l i <;> rfl
theorem set_ref {a : Nat} {v : D} {Q : Unit → Hs → Prop} : (setitem (.ref a) (.int i) v h).wp Q X = OpL h[a]? fun l => Op (ixN l.length i) fun j => Q () (h.set a (.lst (l.set j v))) := by
  show (match h[a]? with
    | some (.lst l) => (match ixN l.length i with
      | some j => .ok () (h.set a (.lst (l.set j v)))
      | none => .bad)
    | _ => .bad : R Unit).wp Q X = _
  cases h[a]? with
  | none => rfl
  | some o =>
    cases o with
    | lst l =>
      dsimp only [OpL]
      cases ixN l.length i <;> rfl
    | _ => rfl
theorem seqOf_ref {a : Nat} : seqOf h (.ref a) = (match h[a]? with
  | some (.lst l) => some l
  | _ => none) := (rfl)
theorem lstOf_ref {a : Nat} : lstOf h (.ref a) = (match h[a]? with
  | some (.lst l) => some l
  | _ => none) := (rfl)
/-! ### built-ins -/
theorem bi_len_ref {a : Nat} : (biF g .len [.ref a] h).wp Q X = OpL h[a]? fun l => Q (.int l.length) h := by
  have : lenOf h (.ref a) = (match h[a]? with
    | some (.lst l) => some l.length
    | _ => none) := by
    show (seqOf h (.ref a)).map (·.length) = _
    rw [seqOf_ref]
    cases h[a]? with
    | none => rfl
    | some o => cases o <;> rfl
  show (match lenOf h (.ref a) with
    | some n => .ok (.int n) h
    | none => .bad : R D).wp Q X = _
  rw [this]
  cases h[a]? with
  | none => rfl
  | some o => cases o <;> rfl
theorem bi_len_tup {l : List D} : (biF g .len [.tup l] h).wp Q X = Q (.int l.length) h := (rfl)
theorem bi_len_rol {l : List D} : (biF g .len [.rol l] h).wp Q X = Q (.int l.length) h := (rfl)
theorem bi_int_int : (biF g .int [.int i] h).wp Q X = Q (.int i) h := (rfl)
theorem bi_int_bl {b : Bool} : (biF g .int [.bl b] h).wp Q X = Q (.int (if b then 1 else 0)) h := (rfl)
theorem bi_abs : (biF g .abs [.int i] h).wp Q X = Q (.int (if i < 0 then -i else i)) h := (rfl)
theorem bi_tuple_ref {a : Nat} : (biF g .tuple [.ref a] h).wp Q X = OpL h[a]? fun l => Q (.tup l) h := by
  show (match seqOf h (.ref a) with
    | some l => .ok (.tup l) h
    | none => .bad : R D).wp Q X = _
  rw [seqOf_ref]
  cases h[a]? with
  | none => rfl
  | some o => cases o <;> rfl
theorem bi_tuple_tup {l : List D} : (biF g .tuple [.tup l] h).wp Q X = Q (.tup l) h := (rfl)
theorem bi_list_ref {a : Nat} : (biF g .list [.ref a] h).wp Q X = OpL h[a]? fun l => Q (.ref h.length) (h ++ [.lst l]) := by
  show (match seqOf h (.ref a) with
    | some l => alloc (.lst l) h
    | none => .bad : R D).wp Q X = _
  rw [seqOf_ref]
  cases h[a]? with
  | none => rfl
  | some o => cases o <;> rfl
theorem bi_list_tup {l : List D} : (biF g .list [.tup l] h).wp Q X = Q (.ref h.length) (h ++ [.lst l]) := (rfl)
theorem bi_sum_ref {a : Nat} : (biF g .sum [.ref a] h).wp Q X = (g.hot = false ∧ OpL h[a]? fun l => Op (intsD l) fun ns => Q (.int ns.sum) h) := by
  show (if g.hot then .bad else (match (seqOf h (.ref a)).bind intsD with
    | some l => .ok (.int l.sum) h
    | none => .bad) : R D).wp Q X = _
  cases g.hot with
  | true => simp [wp_bad]
  | false =>
    rw [seqOf_ref]
    cases h[a]? with
    | none => simp [wp_bad, OpL]
    | some o =>
      cases o with
      | lst l =>
        simp only [Bool.false_eq_true, if_false, Option.bind_some, true_and, OpL]
        cases intsD l <;> rfl
      | _ => simp [wp_bad, OpL]
theorem bi_sum_tup {l : List D} : (biF g .sum [.tup l] h).wp Q X = (g.hot = false ∧ Op (intsD l) fun ns => Q (.int ns.sum) h) := by
  show (if g.hot then .bad else (match intsD l with
    | some l => .ok (.int l.sum) h
    | none => .bad) : R D).wp Q X = _
  cases g.hot with
  | true => simp [wp_bad]
  | false =>
    simp only [Bool.false_eq_true, if_false, true_and]
    cases intsD l <;> rfl
theorem bi_all_ref {a : Nat} : (biF g .all [.ref a] h).wp Q X = (g.hot = false ∧ OpL h[a]? fun l => Op (boolsD l) fun ns => Q (.bl (ns.all id)) h) := by
  show (if g.hot then .bad else (match (lstOf h (.ref a)).bind boolsD with
    | some l => .ok (.bl (l.all id)) h
    | none => .bad) : R D).wp Q X = _
  cases g.hot with
  | true => simp [wp_bad]
  | false =>
    rw [lstOf_ref]
    cases h[a]? with
    | none => simp [wp_bad, OpL]
    | some o =>
      cases o with
      | lst l =>
        simp only [Bool.false_eq_true, if_false, Option.bind_some, true_and, OpL]
        cases boolsD l <;> rfl
      | _ => simp [wp_bad, OpL]
theorem bi_any_ref {a : Nat} : (biF g .any [.ref a] h).wp Q X = (g.hot = false ∧ OpL h[a]? fun l => Op (boolsD l) fun ns => Q (.bl (ns.any id)) h) := by
  show (if g.hot then .bad else (match (lstOf h (.ref a)).bind boolsD with
    | some l => .ok (.bl (l.any id)) h
    | none => .bad) : R D).wp Q X = _
  cases g.hot with
  | true => simp [wp_bad]
  | false =>
    rw [lstOf_ref]
    cases h[a]? with
    | none => simp [wp_bad, OpL]
    | some o =>
      cases o with
      | lst l =>
        simp only [Bool.false_eq_true, if_false, Option.bind_some, true_and, OpL]
        cases boolsD l <;> rfl
      | _ => simp [wp_bad, OpL]
theorem bi_max : (biF g .max [.int i, .int j] h).wp Q X = (g.hot = false ∧ Q (.int (if j > i then j else i)) h) := by
  show (if g.hot then .bad else .ok (.int (if j > i then j else i)) h : R D).wp Q X = _
  cases g.hot <;> simp [wp_bad, wp_ok]
theorem bi_min : (biF g .min [.int i, .int j] h).wp Q X = (g.hot = false ∧ Q (.int (if j < i then j else i)) h) := by
  show (if g.hot then .bad else .ok (.int (if j < i then j else i)) h : R D).wp Q X = _
  cases g.hot <;> simp [wp_bad, wp_ok]
theorem bi_isi {x c : D} : (biF g .isi [x, c] h).wp Q X = Op ((tyOf g h x).bind fun t => isiD g t c) fun b => Q (.bl b) h := by
  show (match (tyOf g h x).bind fun t => isiD g t c with
    | some b => .ok (.bl b) h
    | none => .bad : R D).wp Q X = _
  cases (tyOf g h x).bind fun t => isiD g t c <;> rfl
theorem asgP_name {hot : Bool} {n : Nat} {d : D} {δ : Sl} : asgP hot (.name n) d δ = some (δ.set n (some d)) := by rw [asgP]
theorem rngOf1 (h0 : j < 4611686018427387904) (h1 : -4611686018427387904 ≤ j) : rngOf [.int j] = some (.vals ((List.range j.toNat).map fun (k : Nat) => .int (k : Int))) := by
  have e : (2 : Int) ^ 62 = 4611686018427387904 := by decide
  simp only [rngOf]
  rw [if_pos]
  simp only [Bool.and_eq_true, decide_eq_true_eq]
  exact ⟨by rw [e]; exact h1, by rw [e]; exact h0⟩
theorem evalC_nil {δ : Sl} : evalC g [] δ = ret true := by rw [evalC]
theorem evalC_one {δ : Sl} {e : E} : (evalC g [e] δ h).wp (fun b h1 => Q (.bl b) h1) X = Wt g e δ h (fun b h1 => Q (.bl b) h1) X := by
  unfold Wt
  rw [evalC, wp_bnd]
  congr
  funext b h1
  cases b with
  | true => rw [evalC]; rfl
  | false => rfl
end
end Ip
end
section
set_option Elab.async false
set_option linter.all false
/-! machine texts of defs -/
open PySem L2 Ip
def Tx.f_full_value : Fn := ⟨["width"], ["width"], [.ret (.bin .Sub (.bin .LShift (.int 1) (.var 0)) (.int 1))]⟩
def Tx.f_check_widths : Fn := ⟨["left", "right"], ["left", "right"], [.iff (.cmp .NotEq (.attr (.var 0) "width") (.attr (.var 1) "width")) [.raise "BadWidth" [(.attr (.var 0) "width"), (.attr (.var 1) "width")]] []]⟩
def Tx.m_Word_init : Fn := ⟨["self", "width", "value"], ["self", "width", "value", "place"], [.iff (.or (.cmp .Lt (.var 1) (.int 0)) (.or (.cmp .Gt (.var 1) (.glob "MOST_BITS")) (.cmp .Lt (.var 2) (.int 0)))) [.raise "BadWord" [(.var 1), (.var 2)]] [], .iff (.cmp .NotEq (.bin .RShift (.var 2) (.var 1)) (.int 0)) [.raise "BadWord" [(.var 1), (.var 2)]] [], .fld (.var 0) "width" (.var 1), .fld (.var 0) "value" (.var 2), .fld (.var 0) "bits" (.bi .tuple [(.lc (.bin .BitAnd (.bin .RShift (.var 2) (.var 3)) (.int 1)) (.name 3) [3] (.rng [(.var 1)]) [])])]⟩
def Tx.m_Word_ones : Fn := ⟨["self"], ["self"], [.ret (.bi .sum [(.attr (.var 0) "bits")])]⟩
def Tx.m_Word_eq : Fn := ⟨["self", "other"], ["self", "other"], [.ret (.and (.bi .isi [(.var 1), (.glob "Word")]) (.and (.cmp .Eq (.attr (.var 0) "width") (.attr (.var 1) "width")) (.cmp .Eq (.attr (.var 0) "value") (.attr (.var 1) "value"))))]⟩
def Tx.m_Word_and : Fn := ⟨["self", "other"], ["self", "other"], [.expr (.call "check_widths" [(.var 0), (.var 1)]), .ret (.make "Word" [(.attr (.var 0) "width"), (.bin .BitAnd (.attr (.var 0) "value") (.attr (.var 1) "value"))])]⟩
def Tx.m_Word_or : Fn := ⟨["self", "other"], ["self", "other"], [.expr (.call "check_widths" [(.var 0), (.var 1)]), .ret (.make "Word" [(.attr (.var 0) "width"), (.bin .BitOr (.attr (.var 0) "value") (.attr (.var 1) "value"))])]⟩
def Tx.m_Word_xor : Fn := ⟨["self", "other"], ["self", "other"], [.expr (.call "check_widths" [(.var 0), (.var 1)]), .ret (.make "Word" [(.attr (.var 0) "width"), (.bin .BitXor (.attr (.var 0) "value") (.attr (.var 1) "value"))])]⟩
def Tx.m_Word_add : Fn := ⟨["self", "other"], ["self", "other"], [.expr (.call "check_widths" [(.var 0), (.var 1)]), .ret (.make "Word" [(.attr (.var 0) "width"), (.bin .BitAnd (.bin .Add (.attr (.var 0) "value") (.attr (.var 1) "value")) (.call "full_value" [(.attr (.var 0) "width")]))])]⟩
def Tx.m_Word_sub : Fn := ⟨["self", "other"], ["self", "other"], [.expr (.call "check_widths" [(.var 0), (.var 1)]), .ret (.make "Word" [(.attr (.var 0) "width"), (.bin .BitAnd (.bin .Sub (.attr (.var 0) "value") (.attr (.var 1) "value")) (.call "full_value" [(.attr (.var 0) "width")]))])]⟩
def Tx.m_Word_invert : Fn := ⟨["self"], ["self"], [.ret (.make "Word" [(.attr (.var 0) "width"), (.bin .BitXor (.attr (.var 0) "value") (.call "full_value" [(.attr (.var 0) "width")]))])]⟩
def Tx.m_Word_lshift : Fn := ⟨["self", "distance"], ["self", "distance"], [.iff (.cmp .Lt (.var 1) (.int 0)) [.raise "BadIndex" [(.var 1)]] [], .ret (.make "Word" [(.attr (.var 0) "width"), (.bin .BitAnd (.bin .LShift (.attr (.var 0) "value") (.var 1)) (.call "full_value" [(.attr (.var 0) "width")]))])]⟩
def Tx.m_Word_rshift : Fn := ⟨["self", "distance"], ["self", "distance"], [.iff (.cmp .Lt (.var 1) (.int 0)) [.raise "BadIndex" [(.var 1)]] [], .ret (.make "Word" [(.attr (.var 0) "width"), (.bin .RShift (.attr (.var 0) "value") (.var 1))])]⟩
def Tx.m_Word_len : Fn := ⟨["self"], ["self"], [.ret (.bi .len [(.attr (.var 0) "bits")])]⟩
def Tx.m_Word_getitem : Fn := ⟨["self", "index"], ["self", "index"], [.iff (.or (.cmp .Lt (.var 1) (.int 0)) (.cmp .GtE (.var 1) (.attr (.var 0) "width"))) [.raise "BadIndex" [(.var 1)]] [], .ret (.idx (.attr (.var 0) "bits") (.var 1))]⟩
def Tx.f__law_mix : Fn := ⟨["_law_cell", "_law_beat"], ["_law_cell", "_law_beat", "_law_first", "_law_second"], [.asg (.name 2) (.bin .Mod (.bi .int [(.bin .Add (.bin .Add (.bin .Mult (.bi .int [(.var 0)]) (.int 48271)) (.bin .Mult (.bi .int [(.var 1)]) (.int 69621))) (.int 907))]) (.int 2147483647)), .asg (.name 3) (.bin .Mod (.bi .int [(.bin .Add (.bin .Add (.bin .Mult (.var 2) (.var 2)) (.bin .FloorDiv (.var 2) (.int 3))) (.bin .Mult (.bi .int [(.var 1)]) (.int 40692)))]) (.int 2147483399)), .ret (.bin .FloorDiv (.var 3) (.int 5))]⟩
def Tx.f__law_store : Fn := ⟨["_law_script"], ["_law_script", "_law_cells", "_law_seed", "_law_cell"], [.asg (.name 1) (.lc (.bi .int [(.var 3)]) (.name 3) [3] (.e (.var 0)) []), .asg (.name 2) (.bin .Add (.int 7) (.bi .len [(.var 1)])), .for_ (.name 3) (.e (.var 1)) [.asg (.name 2) (.call "_law_mix" [(.var 3), (.var 2)])], .ret (.lst [(.var 1), (.int 0), (.int 0), (.int 0), (.var 2)])]⟩
def Tx.f__law_take : Fn := ⟨["_law_store_here", "_law_many"], ["_law_store_here", "_law_many", "_law_cell", "_law_left"], [.iff (.cmp .Lt (.var 1) (.int 2)) [.ret (.int 0)] [], .sub (.var 0) (.int 3) (.bin .Add (.idx (.var 0) (.int 3)) (.int 1)), .iff (.and (.cmp .Eq (.idx (.var 0) (.int 2)) (.int 0)) (.cmp .Lt (.idx (.var 0) (.int 1)) (.bi .len [(.idx (.var 0) (.int 0))]))) [.asg (.name 2) (.bi .int [(.idx (.idx (.var 0) (.int 0)) (.idx (.var 0) (.int 1)))]), .sub (.var 0) (.int 1) (.bin .Add (.idx (.var 0) (.int 1)) (.int 1)), .iff (.cmp .Lt (.bi .abs [(.var 2)]) (.bin .Pow (.int 10) (.int 18))) [.ret (.bin .Mod (.bi .int [(.call "_law_mix" [(.var 2), (.idx (.var 0) (.int 3))])]) (.var 1))] [], .sub (.var 0) (.int 2) (.bi .abs [(.var 2)])] [], .iff (.cmp .Gt (.idx (.var 0) (.int 2)) (.int 0)) [.asg (.name 3) (.bi .int [(.idx (.var 0) (.int 2))]), .sub (.var 0) (.int 2) (.bin .FloorDiv (.var 3) (.var 1)), .ret (.bin .Mod (.bi .int [(.var 3)]) (.var 1))] [], .sub (.var 0) (.int 4) (.call "_law_mix" [(.idx (.var 0) (.int 4)), (.idx (.var 0) (.int 3))]), .ret (.bin .Mod (.bi .int [(.idx (.var 0) (.int 4))]) (.var 1))]⟩
def Tx.f__law_pick : Fn := ⟨["_law_store_here", "_law_row_here"], ["_law_store_here", "_law_row_here"], [.ret (.idx (.var 1) (.call "_law_take" [(.var 0), (.bi .len [(.var 1)])]))]⟩
def Tx.f__law_chance : Fn := ⟨["_law_store_here", "_law_many"], ["_law_store_here", "_law_many"], [.ret (.cmp .Eq (.call "_law_take" [(.var 0), (.var 1)]) (.int 0))]⟩
def Tx.f__law_great : Fn := ⟨["_law_store_here"], ["_law_store_here", "_law_bases"], [.asg (.name 1) (.lst [(.bin .Pow (.int 10) (.int 18)), (.bin .Pow (.int 2) (.int 64)), (.bin .Add (.bin .Pow (.int 10) (.int 40)) (.int 1)), (.bin .Mult (.bin .Pow (.int 10) (.int 64)) (.bin .Pow (.int 10) (.int 34))), (.bi .int [(.bin .Mult (.str "9") (.int 99))])]), .ret (.bin .Add (.call "_law_pick" [(.var 0), (.var 1)]) (.call "_law_take" [(.var 0), (.int 1000)]))]⟩
def Tx.f__law_row_of : Fn := ⟨["_law_number", "_law_count"], ["_law_number", "_law_count", "_law_k"], [.ret (.bi .tuple [(.lc (.bin .BitAnd (.bin .RShift (.var 0) (.var 2)) (.int 1)) (.name 2) [2] (.rng [(.var 1)]) [])])]⟩
def Tx.f__law_number_of : Fn := ⟨["_law_row_here"], ["_law_row_here", "_law_k"], [.ret (.bi .sum [(.lc (.bin .LShift (.idx (.var 0) (.var 1)) (.var 1)) (.name 1) [1] (.rng [(.bi .len [(.var 0)])]) [])])]⟩
def Tx.f__law_row : Fn := ⟨["_law_store_here", "_law_count"], ["_law_store_here", "_law_count", "_law_kind", "_law_k"], [.asg (.name 2) (.call "_law_take" [(.var 0), (.int 6)]), .iff (.cmp .Lt (.var 2) (.int 2)) [.ret (.bi .tuple [(.lc (.var 2) (.name 3) [3] (.rng [(.var 1)]) [])])] [], .ret (.call "_law_row_of" [(.call "_law_take" [(.var 0), (.bin .LShift (.int 1) (.var 1))]), (.var 1)])]⟩
def Tx.f__law_long_row : Fn := ⟨["_law_store_here", "_law_count"], ["_law_store_here", "_law_count", "_law_part", "_law_row_here", "_law_place", "_law_k"], [.asg (.name 2) (.call "_law_row" [(.var 0), (.bin .Add (.int 1) (.call "_law_take" [(.var 0), (.int 9)]))]), .asg (.name 3) (.lc (.idx (.var 2) (.bin .Mod (.bi .int [(.var 5)]) (.bi .len [(.var 2)]))) (.name 5) [5] (.rng [(.var 1)]) []), .iff (.and (.cmp .Gt (.var 1) (.int 0)) (.call "_law_chance" [(.var 0), (.int 2)])) [.asg (.name 4) (.call "_law_take" [(.var 0), (.var 1)]), .sub (.var 3) (.var 4) (.bin .Sub (.int 1) (.idx (.var 3) (.var 4)))] [], .ret (.bi .tuple [(.var 3)])]⟩
def Tx.f__law_is_whole : Fn := ⟨["_law_actual"], ["_law_actual"], [.ret (.and (.bi .isi [(.var 0), (.bty "int")]) (.not (.bi .isi [(.var 0), (.bty "bool")])))]⟩
def Tx.f__law_same : Fn := ⟨["_law_actual", "_law_expected"], ["_law_actual", "_law_expected", "_law_k", "_law_key"], [.iff (.bi .isi [(.var 1), (.tup [(.bty "list"), (.bty "tuple")])]) [.iff (.and (.bi .isi [(.var 1), (.bty "tuple")]) (.not (.bi .isi [(.var 0), (.bty "tuple")]))) [.ret (.bl false)] [], .iff (.and (.bi .isi [(.var 1), (.bty "list")]) (.not (.bi .isi [(.var 0), (.bty "list")]))) [.ret (.bl false)] [], .iff (.cmp .NotEq (.bi .len [(.var 0)]) (.bi .len [(.var 1)])) [.ret (.bl false)] [], .ret (.bi .all [(.lc (.call "_law_same" [(.idx (.var 0) (.var 2)), (.idx (.var 1) (.var 2))]) (.name 2) [2] (.rng [(.bi .len [(.var 1)])]) [])])] [], .iff (.bi .isi [(.var 1), (.bty "dict")]) [.iff (.or (.not (.bi .isi [(.var 0), (.bty "dict")])) (.cmp .NotEq (.bi .len [(.var 0)]) (.bi .len [(.var 1)]))) [.ret (.bl false)] [], .ret (.bi .all [(.lc (.and (.bi .isi [(.var 3), (.bty "str")]) (.and (.cmp .In (.var 3) (.var 1)) (.call "_law_same" [(.idx (.var 0) (.var 3)), (.idx (.var 1) (.var 3))]))) (.name 3) [3] (.e (.var 0)) [])])] [], .iff (.cmp .Is (.var 1) .non) [.ret (.cmp .Is (.var 0) .non)] [], .iff (.or (.cmp .Is (.var 1) (.bl true)) (.cmp .Is (.var 1) (.bl false))) [.ret (.and (.bi .isi [(.var 0), (.bty "bool")]) (.cmp .Eq (.var 0) (.var 1)))] [], .iff (.bi .isi [(.var 1), (.bty "int")]) [.ret (.and (.call "_law_is_whole" [(.var 0)]) (.cmp .Eq (.var 0) (.var 1)))] [], .ret (.and (.bi .isi [(.var 1), (.bty "str")]) (.and (.bi .isi [(.var 0), (.bty "str")]) (.cmp .Eq (.var 0) (.var 1))))]⟩
def Tx.f__law_width : Fn := ⟨["_law_store_here"], ["_law_store_here", "_law_kind"], [.asg (.name 1) (.call "_law_take" [(.var 0), (.int 12)]), .iff (.cmp .Lt (.var 1) (.int 4)) [.ret (.call "_law_pick" [(.var 0), (.lst [(.int 0), (.int 1), (.int 2), (.int 63), (.int 64), (.int 65), (.int 255), (.int 256)])])] [], .iff (.cmp .Eq (.var 1) (.int 4)) [.ret (.call "_law_take" [(.var 0), (.int 257)])] [], .ret (.call "_law_take" [(.var 0), (.int 21)])]⟩
def Tx.f__law_value : Fn := ⟨["_law_store_here", "_law_width_here"], ["_law_store_here", "_law_width_here", "_law_kind", "_law_number", "_law_k"], [.asg (.name 2) (.call "_law_take" [(.var 0), (.int 6)]), .iff (.or (.cmp .Eq (.var 2) (.int 0)) (.cmp .Eq (.var 1) (.int 0))) [.ret (.int 0)] [], .iff (.cmp .Eq (.var 2) (.int 1)) [.ret (.bin .Sub (.bin .LShift (.int 1) (.var 1)) (.int 1))] [], .iff (.cmp .Eq (.var 2) (.int 2)) [.ret (.bin .LShift (.int 1) (.call "_law_take" [(.var 0), (.var 1)]))] [], .iff (.cmp .Eq (.var 2) (.int 3)) [.ret (.call "_law_number_of" [(.call "_law_long_row" [(.var 0), (.var 1)])])] [], .asg (.name 3) (.int 0), .for_ (.name 4) (.rng [(.int 0), (.var 1), (.int 8)]) [.asg (.name 3) (.bin .Add (.var 3) (.bin .LShift (.call "_law_take" [(.var 0), (.int 256)]) (.var 4)))], .ret (.bin .BitAnd (.var 3) (.bin .Sub (.bin .LShift (.int 1) (.var 1)) (.int 1)))]⟩
def Tx.f__law_wrong_word : Fn := ⟨["_law_store_here"], ["_law_store_here", "_law_kind", "_law_width_here", "_law_value_here"], [.asg (.name 1) (.call "_law_take" [(.var 0), (.int 8)]), .asg (.name 2) (.call "_law_width" [(.var 0)]), .asg (.name 3) (.call "_law_value" [(.var 0), (.var 2)]), .iff (.cmp .Lt (.var 1) (.int 4)) [.ret (.tup [(.idx (.lst [(.bin .Sub (.int 0) (.int 1)), (.int 257), (.bin .Sub (.int 0) (.call "_law_great" [(.var 0)])), (.call "_law_great" [(.var 0)])]) (.var 1)), (.var 3)])] [], .iff (.cmp .Eq (.var 1) (.int 4)) [.ret (.tup [(.var 2), (.bin .Sub (.int 0) (.int 1))])] [], .iff (.cmp .Eq (.var 1) (.int 5)) [.ret (.tup [(.var 2), (.bin .Sub (.int 0) (.call "_law_great" [(.var 0)]))])] [], .ret (.tup [(.var 2), (.bin .Add (.bin .LShift (.int 1) (.var 2)) (.bin .Mult (.call "_law_take" [(.var 0), (.int 1000)]) (.bi .int [(.cmp .Eq (.var 1) (.int 7))])))])]⟩
def Tx.f__law_told : Fn := ⟨["_law_kind", "_law_first", "_law_second"], ["_law_kind", "_law_first", "_law_second"], [.iff (.cmp .Eq (.var 0) (.int 0)) [.ret (.bin .Add (.var 1) (.var 2))] [], .iff (.cmp .Eq (.var 0) (.int 1)) [.ret (.bin .Sub (.var 1) (.var 2))] [], .iff (.cmp .Eq (.var 0) (.int 2)) [.ret (.bin .BitAnd (.var 1) (.var 2))] [], .iff (.cmp .Eq (.var 0) (.int 3)) [.ret (.bin .BitOr (.var 1) (.var 2))] [], .ret (.bin .BitXor (.var 1) (.var 2))]⟩
def Tx.f__law_bit : Fn := ⟨["_law_kind", "_law_one", "_law_two"], ["_law_kind", "_law_one", "_law_two"], [.iff (.cmp .Eq (.var 0) (.int 2)) [.ret (.bi .int [(.cmp .Eq (.bin .Add (.var 1) (.var 2)) (.int 2))])] [], .iff (.cmp .Eq (.var 0) (.int 3)) [.ret (.bi .int [(.cmp .Gt (.bin .Add (.var 1) (.var 2)) (.int 0))])] [], .ret (.bi .int [(.cmp .NotEq (.var 1) (.var 2))])]⟩
def Tx.f__law_is_right : Fn := ⟨["_law_kind", "_law_actual", "_law_width_here", "_law_left", "_law_right"], ["_law_kind", "_law_actual", "_law_width_here", "_law_left", "_law_right", "_law_number", "_law_k"], [.iff (.or (.not (.bi .isi [(.var 1), (.glob "Word")])) (.or (.not (.call "_law_same" [(.attr (.var 1) "width"), (.var 2)])) (.not (.call "_law_is_whole" [(.attr (.var 1) "value")])))) [.ret (.bl false)] [], .asg (.name 5) (.attr (.var 1) "value"), .iff (.not (.cmp2 .LtE .Lt (.int 0) (.var 5) (.bin .LShift (.int 1) (.var 2)))) [.ret (.bl false)] [], .iff (.cmp .Eq (.var 0) (.int 0)) [.ret (.cmp .Eq (.bin .BitAnd (.bin .Sub (.bin .Add (.var 3) (.var 4)) (.var 5)) (.bin .Sub (.bin .LShift (.int 1) (.var 2)) (.int 1))) (.int 0))] [], .iff (.cmp .Eq (.var 0) (.int 1)) [.ret (.cmp .Eq (.bin .BitAnd (.bin .Sub (.bin .Add (.var 5) (.var 4)) (.var 3)) (.bin .Sub (.bin .LShift (.int 1) (.var 2)) (.int 1))) (.int 0))] [], .ret (.bi .all [(.lc (.cmp .Eq (.bin .BitAnd (.bin .RShift (.var 5) (.var 6)) (.int 1)) (.call "_law_bit" [(.var 0), (.bin .BitAnd (.bin .RShift (.var 3) (.var 6)) (.int 1)), (.bin .BitAnd (.bin .RShift (.var 4) (.var 6)) (.int 1))])) (.name 6) [6] (.rng [(.var 2)]) [])])]⟩
def Tx.f__law_refuses : Fn := ⟨["_law_kind", "_law_first", "_law_second", "_law_left", "_law_right"], ["_law_kind", "_law_first", "_law_second", "_law_left", "_law_right", "e"], [.try_ [.expr (.call "_law_told" [(.var 0), (.var 1), (.var 2)])] (.cons "BadWidth" (some 5) [.iff (.bi .isi [(.var 5), (.tup [(.glob "BadIndex"), (.glob "BadRow"), (.glob "BadTable"), (.glob "BadText"), (.glob "BadWord"), (.glob "Mismatch"), (.glob "TooLarge")])]) [.ret (.bl false)] [], .ret (.and (.bi .isi [(.var 5), (.glob "WireError")]) (.and (.call "_law_same" [(.attr (.var 5) "left"), (.var 3)]) (.call "_law_same" [(.attr (.var 5) "right"), (.var 4)])))] .nil), .ret (.bl false)]⟩
def Tx.f__law_refuses_word : Fn := ⟨["_law_width_here", "_law_value_here"], ["_law_width_here", "_law_value_here", "e"], [.try_ [.expr (.make "Word" [(.var 0), (.var 1)])] (.cons "BadWord" (some 2) [.iff (.bi .isi [(.var 2), (.tup [(.glob "BadIndex"), (.glob "BadRow"), (.glob "BadTable"), (.glob "BadText"), (.glob "BadWidth"), (.glob "Mismatch"), (.glob "TooLarge")])]) [.ret (.bl false)] [], .ret (.and (.bi .isi [(.var 2), (.glob "WireError")]) (.and (.call "_law_same" [(.attr (.var 2) "size"), (.var 0)]) (.call "_law_same" [(.attr (.var 2) "number"), (.var 1)])))] .nil), .ret (.bl false)]⟩
def Tx.f__law_operators : Fn := ⟨["_law_first", "_law_second", "_law_third", "_law_left", "_law_right", "_law_width_here", "_law_wide"], ["_law_first", "_law_second", "_law_third", "_law_left", "_law_right", "_law_width_here", "_law_wide", "_law_kind"], [.for_ (.name 7) (.rng [(.int 5)]) [.iff (.or (.not (.call "_law_refuses" [(.var 7), (.var 0), (.var 2), (.var 5), (.var 6)])) (.not (.call "_law_refuses" [(.var 7), (.var 2), (.var 0), (.var 6), (.var 5)]))) [.ret (.bl false)] [], .iff (.not (.call "_law_is_right" [(.var 7), (.call "_law_told" [(.var 7), (.var 0), (.var 1)]), (.var 5), (.var 3), (.var 4)])) [.ret (.bl false)] [], .iff (.not (.call "_law_is_right" [(.var 7), (.call "_law_told" [(.var 7), (.var 1), (.var 0)]), (.var 5), (.var 4), (.var 3)])) [.ret (.bl false)] [], .iff (.not (.call "_law_is_right" [(.var 7), (.call "_law_told" [(.var 7), (.var 0), (.var 0)]), (.var 5), (.var 3), (.var 3)])) [.ret (.bl false)] []], .ret (.bl true)]⟩
def Tx.f__law_alone : Fn := ⟨["_law_word", "_law_width_here", "_law_value_here"], ["_law_word", "_law_width_here", "_law_value_here", "_law_other", "_law_k"], [.iff (.or (.not (.bi .isi [(.var 0), (.glob "Word")])) (.or (.not (.call "_law_same" [(.attr (.var 0) "width"), (.var 1)])) (.not (.call "_law_same" [(.attr (.var 0) "value"), (.var 2)])))) [.ret (.bl false)] [], .asg (.name 3) (.un .Invert (.var 0)), .iff (.or (.not (.bi .isi [(.var 3), (.glob "Word")])) (.or (.not (.call "_law_same" [(.attr (.var 3) "width"), (.var 1)])) (.not (.call "_law_is_whole" [(.attr (.var 3) "value")])))) [.ret (.bl false)] [], .iff (.cmp .NotEq (.bin .Add (.attr (.var 3) "value") (.var 2)) (.bin .Sub (.bin .LShift (.int 1) (.var 1)) (.int 1))) [.ret (.bl false)] [], .ret (.call "_law_same" [(.attr (.var 0) "ones"), (.bi .len [(.lc (.var 4) (.name 4) [4] (.rng [(.var 1)]) [(.cmp .Eq (.bin .BitAnd (.bin .RShift (.var 2) (.var 4)) (.int 1)) (.int 1))])])])]⟩
def Tx.f__law_equality : Fn := ⟨["_law_first", "_law_second", "_law_due"], ["_law_first", "_law_second", "_law_due"], [.iff (.or (.not (.call "_law_same" [(.cmp .Eq (.var 0) (.var 1)), (.var 2)])) (.not (.call "_law_same" [(.cmp .NotEq (.var 0) (.var 1)), (.not (.var 2))]))) [.ret (.bl false)] [], .ret (.and (.call "_law_same" [(.cmp .Eq (.var 1) (.var 0)), (.var 2)]) (.call "_law_same" [(.cmp .NotEq (.var 1) (.var 0)), (.not (.var 2))]))]⟩
def Tx.f__law_is_no_other : Fn := ⟨["_law_word", "_law_number", "_law_text", "_law_row_here"], ["_law_word", "_law_number", "_law_text", "_law_row_here"], [.iff (.or (.not (.call "_law_same" [(.cmp .Eq (.var 0) (.var 1)), (.bl false)])) (.not (.call "_law_same" [(.cmp .NotEq (.var 0) (.var 1)), (.bl true)]))) [.ret (.bl false)] [], .iff (.or (.not (.call "_law_same" [(.cmp .Eq (.var 0) (.var 2)), (.bl false)])) (.not (.call "_law_same" [(.cmp .NotEq (.var 0) (.var 2)), (.bl true)]))) [.ret (.bl false)] [], .ret (.and (.call "_law_same" [(.cmp .Eq (.var 0) (.var 3)), (.bl false)]) (.call "_law_same" [(.cmp .NotEq (.var 0) (.var 3)), (.bl true)]))]⟩
end
section
set_option Elab.async false
set_option linter.all false
set_option maxRecDepth 100000
set_option maxHeartbeats 1000000
/-! the draws -/
namespace Ip
open PySem L2
/-- what was there stays, but for what N tells -/
structure Keep (N : Nat → Prop) (h h' : Hs) : Prop where
  len : h.length ≤ h'.length
  at_ : ∀ i o, h[i]? = some o → ¬ N i → h'[i]? = some o
abbrev Kp0 : Hs → Hs → Prop := Keep fun _ => False
theorem Keep.refl {N : Nat → Prop} (h : Hs) : Keep N h h := ⟨Nat.le_refl _, fun _ _ e _ => e⟩
theorem Keep.trans {N : Nat → Prop} {h h1 h2 : Hs} (a : Keep N h h1) (b : Keep N h1 h2) : Keep N h h2 := ⟨Nat.le_trans a.len b.len, fun i o e n => b.at_ i o (a.at_ i o e n) n⟩
theorem Keep.wide {N N' : Nat → Prop} {h h1 : Hs} (a : Keep N h h1) (k : ∀ i, N i → N' i) : Keep N' h h1 := ⟨a.len, fun i o e n => a.at_ i o e fun z => n (k i z)⟩
theorem Keep.app {N : Nat → Prop} (h t : Hs) : Keep N h (h ++ t) := ⟨by simp, fun i o e _ => by rw [List.getElem?_append_left (List.getElem?_eq_some_iff.mp e).1]; exact e⟩
theorem Keep.set {N : Nat → Prop} (h : Hs) {a : Nat} (o : O) (n : N a) : Keep N h (h.set a o) := ⟨by simp, fun i o' e m => by
  rw [List.getElem?_set_ne (show a ≠ i from fun z => m (z ▸ n))]; exact e⟩
theorem getLt {α : Type} {h : List α} {i : Nat} {o : α} (e : h[i]? = some o) : i < h.length := (List.getElem?_eq_some_iff.mp e).1
theorem app_at (h : Hs) (o : O) : (h ++ [o])[h.length]? = some o := by simp
/-- a store of draws -/
def Sto (h : Hs) (s : Nat × Nat) : Prop := ∃ (p l d e : Int) (cells : List Int), h[s.1]? = some (.lst [.ref s.2, .int p, .int l, .int d, .int e]) ∧ h[s.2]? = some (.lst (cells.map .int)) ∧ s.2 ≠ s.1 ∧ 0 ≤ p ∧ 0 ≤ l
theorem Sto.lt {h : Hs} {s : Nat × Nat} (st : Sto h s) : s.1 < h.length ∧ s.2 < h.length := by
  obtain ⟨_, _, _, _, _, h1, h2, _⟩ := st
  exact ⟨getLt h1, getLt h2⟩
structure Fr (s : Nat × Nat) (h h' : Hs) : Prop where
  st : Sto h' s
  kp : Keep (· = s.1) h h'
theorem Fr.trans {s : Nat × Nat} {h h1 h2 : Hs} (a : Fr s h h1) (b : Fr s h1 h2) : Fr s h h2 := ⟨b.st, a.kp.trans b.kp⟩
theorem Sto.kp {s : Nat × Nat} {h h1 : Hs} (a : Sto h s) (b : Kp0 h h1) : Sto h1 s := by
  obtain ⟨p, l, d, e, cells, h1, h2, h3, h4⟩ := a
  exact ⟨p, l, d, e, cells, b.at_ _ _ h1 id, b.at_ _ _ h2 id, h3, h4⟩
theorem Sto.fr {s : Nat × Nat} {h h1 : Hs} (a : Sto h s) (b : Kp0 h h1) : Fr s h h1 := ⟨a.kp b, b.wide fun _ z => z.elim⟩
/-- another object stays -/
theorem Fr.ins {s : Nat × Nat} {h h1 : Hs} (a : Fr s h h1) (st : Sto h s) {x : Nat} {c : Str} {fs : List (Str × D)} (e : h[x]? = some (.ins c fs)) : h1[x]? = some (.ins c fs) := a.kp.at_ x _ e fun z => by
  obtain ⟨_, _, _, _, _, h1, _⟩ := st
  subst z
  rw [h1] at e
  cases e
/-- a further object is written -/
theorem Sto.set {s : Nat × Nat} {h : Hs} (a : Sto h s) {x : Nat} (o : O) (h1 : x ≠ s.1) (h2 : x ≠ s.2) : Sto (h.set x o) s := by
  obtain ⟨p, l, d, e, cells, k1, k2, k3⟩ := a
  exact ⟨p, l, d, e, cells, by rw [List.getElem?_set_ne h1]; exact k1, by rw [List.getElem?_set_ne h2]; exact k2, k3⟩
/-- .. one that was not there before -/
theorem Fr.set {s : Nat × Nat} {h h1 : Hs} (a : Fr s h h1) (st : Sto h s) {x : Nat} (o : O) (hx : h.length ≤ x) : Fr s h (h1.set x o) := by
  obtain ⟨l1, l2⟩ := st.lt
  refine ⟨a.st.set o (by omega) (by omega), ⟨by simpa using a.kp.len, fun i o' e n => ?_⟩⟩
  have := getLt e
  rw [List.getElem?_set_ne (by omega)]
  exact a.kp.at_ i o' e n
section
variable {T : FKey → Option Fn} {gb : G} {m : Option Hx} {k : Nat} {h : Hs} {X : Xp} {s : Nat × Nat}
structure Draws (T : FKey → Option Fn) (gb : G) : Prop where
  fuel : 33554432 < gb.fuel
  mix : T ("_law_mix", none) = some Tx.f__law_mix
  take : T ("_law_take", none) = some Tx.f__law_take
  store : T ("_law_store", none) = some Tx.f__law_store
  chance : T ("_law_chance", none) = some Tx.f__law_chance
theorem mix_ok (hT : T ("_law_mix", none) = some Tx.f__law_mix) (c b : Int) : (cal T gb m (k + 1) ("_law_mix", none) [.int c, .int b] h).wp (fun v h' => h' = h ∧ ∃ i : Int, v = .int i ∧ 0 ≤ i ∧ i < 2147483399) X := by
  refine cal_wp hT rfl ?_
  simp only [Tx.f__law_mix, List.map_cons, List.map_nil, List.length_cons, List.length_nil, Nat.reduceAdd, Nat.reduceSub, List.replicate, List.cons_append, List.nil_append]
  simp only [we_fold, wss_fold, wt_fold, we_non, we_bl, we_int, we_str, we_bty, we_var, we_glob, we_bin, we_un, wt_def, we_not, we_and, we_or, we_cmp, we_cmp2, we_ife, we_tup, we_lst, we_idx, we_sl, we_attr, we_call, we_make, we_meth, we_bi, we_bm, wes_nil, wes_cons, wo_none, wo_some, wi_e, wi_rng, we_lc, ws_expr, ws_ret, ws_retN, ws_pass, ws_brk, ws_cont, ws_asg, ws_sub, ws_fld, ws_aug, ws_iff, ws_for, ws_whl, ws_raise, ws_try, op_some, opD_some, br_some, binG_int, binI_add, binI_sub, binI_and, binI_or, binI_xor, binI_mod, binI_shr, cmpG_int, cmpB_lt, cmpB_le, cmpB_gt, cmpB_ge, cmpB_eq, cmpB_ne, cmpB_eqB, truthD_bl, truthD_int, truthD_non, truthD_tup, get_tup, get_rol, bi_len_tup, bi_len_rol, bi_int_int, bi_int_bl, bi_abs, asgP_name, op_ite, opL_some, get_ref, set_ref, bi_len_ref, bi_tuple_ref, bi_tuple_tup, bi_list_ref, bi_list_tup, bi_sum_ref, bi_sum_tup, bi_all_ref, bi_any_ref, bi_max, bi_min, truthD_ref, trO_lst, atI_pos, ixN_pos, bi_isi, gM_cf, gM_gl, gM_fld, gM_mth, gM_opo, gM_opi, gM_opu, gM_eqo, gM_isi, gM_ist, gM_xfd, gM_xiz, gM_exm, gM_fuel, gM_hot0, gM_hot1, List.getElem?_cons_zero, List.getElem?_cons_succ, List.set_cons_zero, List.set_cons_succ, decide_eq_true_eq, Bool.true_eq_false, Bool.false_eq_true, if_true, if_false, ite_true, ite_false, reduceIte, Int.reduceLE, Int.reduceLT, Int.reduceNeg, Int.reduceToNat, Int.reduceEq, Int.reduceNe, List.length_cons, List.length_nil, Nat.reduceAdd, Nat.reduceSub, Nat.reduceLT, List.length_map, true_and, and_true, decide_true, decide_false, Bool.not_true, Bool.not_false, wss_cons, wss_nil, binI_mulR, binI_fdiv, Int.reduceLT, Int.reduceNeg]
  rw [binI_mulR (by omega) (by omega)]
  exact ⟨_, rfl, by omega, by omega⟩
theorem sto_set {p l d e p' l' d' e' : Int} {cells : List Int} (h1 : h[s.1]? = some (.lst [.ref s.2, .int p, .int l, .int d, .int e])) (h2 : h[s.2]? = some (.lst (cells.map .int))) (h3 : s.2 ≠ s.1) (h4 : 0 ≤ p') (h5 : 0 ≤ l') : Fr s h (h.set s.1 (.lst [.ref s.2, .int p', .int l', .int d', .int e'])) := by
  refine ⟨⟨p', l', d', e', cells, List.getElem?_set_self (getLt h1), ?_, h3, h4, h5⟩, Keep.set _ _ rfl⟩
  rw [List.getElem?_set_ne (Ne.symm h3)]
  exact h2
theorem take_ok (D : Draws T gb) (st : Sto h s) (n : Int) (hn : n < 18446744073709551616) : (cal T gb m (k + 2) ("_law_take", none) [.ref s.1, .int n] h).wp (fun v h' => Fr s h h' ∧ ∃ i : Int, v = .int i ∧ 0 ≤ i ∧ (i < n ∨ i = 0)) X := by
  have st' := st
  obtain ⟨p, l, d, e, cells, h1, h2, h3, h4, h5⟩ := st
  have hlt := getLt h1
  have g1 : ∀ (o : O), (h.set s.1 o)[s.1]? = some o := fun o => List.getElem?_set_self hlt
  have g2 : ∀ (o : O), (h.set s.1 o)[s.2]? = some (.lst (cells.map .int)) := fun o => by rw [List.getElem?_set_ne (Ne.symm h3)]; exact h2
  have fr : ∀ p' l' d' e' : Int, 0 ≤ p' → 0 ≤ l' → Fr s h (h.set s.1 (.lst [.ref s.2, .int p', .int l', .int d', .int e'])) := fun p' l' d' e' a b => sto_set h1 h2 h3 a b
  refine cal_wp D.take rfl ?_
  simp only [Tx.f__law_take, List.map_cons, List.map_nil, List.length_cons, List.length_nil, Nat.reduceAdd, Nat.reduceSub, List.replicate, List.cons_append, List.nil_append]
  by_cases a1 : n < 2
  · simp only [we_fold, wss_fold, wt_fold, we_non, we_bl, we_int, we_str, we_bty, we_var, we_glob, we_bin, we_un, wt_def, we_not, we_and, we_or, we_cmp, we_cmp2, we_ife, we_tup, we_lst, we_idx, we_sl, we_attr, we_call, we_make, we_meth, we_bi, we_bm, wes_nil, wes_cons, wo_none, wo_some, wi_e, wi_rng, we_lc, ws_expr, ws_ret, ws_retN, ws_pass, ws_brk, ws_cont, ws_asg, ws_sub, ws_fld, ws_aug, ws_iff, ws_for, ws_whl, ws_raise, ws_try, op_some, opD_some, br_some, binG_int, binI_add, binI_sub, binI_and, binI_or, binI_xor, binI_mod, binI_shr, cmpG_int, cmpB_lt, cmpB_le, cmpB_gt, cmpB_ge, cmpB_eq, cmpB_ne, cmpB_eqB, truthD_bl, truthD_int, truthD_non, truthD_tup, get_tup, get_rol, bi_len_tup, bi_len_rol, bi_int_int, bi_int_bl, bi_abs, asgP_name, op_ite, opL_some, get_ref, set_ref, bi_len_ref, bi_tuple_ref, bi_tuple_tup, bi_list_ref, bi_list_tup, bi_sum_ref, bi_sum_tup, bi_all_ref, bi_any_ref, bi_max, bi_min, truthD_ref, trO_lst, atI_pos, ixN_pos, bi_isi, gM_cf, gM_gl, gM_fld, gM_mth, gM_opo, gM_opi, gM_opu, gM_eqo, gM_isi, gM_ist, gM_xfd, gM_xiz, gM_exm, gM_fuel, gM_hot0, gM_hot1, List.getElem?_cons_zero, List.getElem?_cons_succ, List.set_cons_zero, List.set_cons_succ, decide_eq_true_eq, Bool.true_eq_false, Bool.false_eq_true, if_true, if_false, ite_true, ite_false, reduceIte, Int.reduceLE, Int.reduceLT, Int.reduceNeg, Int.reduceToNat, Int.reduceEq, Int.reduceNe, List.length_cons, List.length_nil, Nat.reduceAdd, Nat.reduceSub, Nat.reduceLT, List.length_map, true_and, and_true, decide_true, decide_false, Bool.not_true, Bool.not_false, wss_cons, wss_nil, a1]
    exact ⟨⟨st', .refl _⟩, 0, rfl, by omega, by omega⟩
  · have md : ∀ x : Int, 0 ≤ x % n ∧ x % n < n := fun x => ⟨Int.emod_nonneg _ (by omega), Int.emod_lt_of_pos _ (by omega)⟩
    have n0 : 0 < n := by omega
    by_cases a2 : l = 0
    · subst a2
      by_cases a3 : p < (cells.length : Int)
      · obtain ⟨x, hx⟩ : ∃ x, cells[p.toNat]? = some x := ⟨cells[p.toNat]'(by omega), by rw [List.getElem?_eq_getElem]⟩
        have ex : atI (cells.map Ip.D.int) p = some (.int x) := by rw [atI_pos h4, List.getElem?_map, hx]; rfl
        by_cases a4 : (if x < 0 then -x else x) < 1000000000000000000
        · simp only [we_fold, wss_fold, wt_fold, we_non, we_bl, we_int, we_str, we_bty, we_var, we_glob, we_bin, we_un, wt_def, we_not, we_and, we_or, we_cmp, we_cmp2, we_ife, we_tup, we_lst, we_idx, we_sl, we_attr, we_call, we_make, we_meth, we_bi, we_bm, wes_nil, wes_cons, wo_none, wo_some, wi_e, wi_rng, we_lc, ws_expr, ws_ret, ws_retN, ws_pass, ws_brk, ws_cont, ws_asg, ws_sub, ws_fld, ws_aug, ws_iff, ws_for, ws_whl, ws_raise, ws_try, op_some, opD_some, br_some, binG_int, binI_add, binI_sub, binI_and, binI_or, binI_xor, binI_mod, binI_shr, cmpG_int, cmpB_lt, cmpB_le, cmpB_gt, cmpB_ge, cmpB_eq, cmpB_ne, cmpB_eqB, truthD_bl, truthD_int, truthD_non, truthD_tup, get_tup, get_rol, bi_len_tup, bi_len_rol, bi_int_int, bi_int_bl, bi_abs, asgP_name, op_ite, opL_some, get_ref, set_ref, bi_len_ref, bi_tuple_ref, bi_tuple_tup, bi_list_ref, bi_list_tup, bi_sum_ref, bi_sum_tup, bi_all_ref, bi_any_ref, bi_max, bi_min, truthD_ref, trO_lst, atI_pos, ixN_pos, bi_isi, gM_cf, gM_gl, gM_fld, gM_mth, gM_opo, gM_opi, gM_opu, gM_eqo, gM_isi, gM_ist, gM_xfd, gM_xiz, gM_exm, gM_fuel, gM_hot0, gM_hot1, List.getElem?_cons_zero, List.getElem?_cons_succ, List.set_cons_zero, List.set_cons_succ, decide_eq_true_eq, Bool.true_eq_false, Bool.false_eq_true, if_true, if_false, ite_true, ite_false, reduceIte, Int.reduceLE, Int.reduceLT, Int.reduceNeg, Int.reduceToNat, Int.reduceEq, Int.reduceNe, List.length_cons, List.length_nil, Nat.reduceAdd, Nat.reduceSub, Nat.reduceLT, List.length_map, true_and, and_true, decide_true, decide_false, Bool.not_true, Bool.not_false, wss_cons, wss_nil, a1, a3, a4, ex, h1, g1, g2, binI_pow, List.set_set, Int.reducePow]
          refine (mix_ok D.mix _ _).mono (fun v h' ⟨e1, i, e2, i0, i1⟩ => ?_) fun _ _ _ z => z
          subst e1 e2
          simp only [we_fold, wss_fold, wt_fold, we_non, we_bl, we_int, we_str, we_bty, we_var, we_glob, we_bin, we_un, wt_def, we_not, we_and, we_or, we_cmp, we_cmp2, we_ife, we_tup, we_lst, we_idx, we_sl, we_attr, we_call, we_make, we_meth, we_bi, we_bm, wes_nil, wes_cons, wo_none, wo_some, wi_e, wi_rng, we_lc, ws_expr, ws_ret, ws_retN, ws_pass, ws_brk, ws_cont, ws_asg, ws_sub, ws_fld, ws_aug, ws_iff, ws_for, ws_whl, ws_raise, ws_try, op_some, opD_some, br_some, binG_int, binI_add, binI_sub, binI_and, binI_or, binI_xor, binI_mod, binI_shr, cmpG_int, cmpB_lt, cmpB_le, cmpB_gt, cmpB_ge, cmpB_eq, cmpB_ne, cmpB_eqB, truthD_bl, truthD_int, truthD_non, truthD_tup, get_tup, get_rol, bi_len_tup, bi_len_rol, bi_int_int, bi_int_bl, bi_abs, asgP_name, op_ite, opL_some, get_ref, set_ref, bi_len_ref, bi_tuple_ref, bi_tuple_tup, bi_list_ref, bi_list_tup, bi_sum_ref, bi_sum_tup, bi_all_ref, bi_any_ref, bi_max, bi_min, truthD_ref, trO_lst, atI_pos, ixN_pos, bi_isi, gM_cf, gM_gl, gM_fld, gM_mth, gM_opo, gM_opi, gM_opu, gM_eqo, gM_isi, gM_ist, gM_xfd, gM_xiz, gM_exm, gM_fuel, gM_hot0, gM_hot1, List.getElem?_cons_zero, List.getElem?_cons_succ, List.set_cons_zero, List.set_cons_succ, decide_eq_true_eq, Bool.true_eq_false, Bool.false_eq_true, if_true, if_false, ite_true, ite_false, reduceIte, Int.reduceLE, Int.reduceLT, Int.reduceNeg, Int.reduceToNat, Int.reduceEq, Int.reduceNe, List.length_cons, List.length_nil, Nat.reduceAdd, Nat.reduceSub, Nat.reduceLT, List.length_map, true_and, and_true, decide_true, decide_false, Bool.not_true, Bool.not_false, wss_cons, wss_nil]
          exact ⟨n0, fr _ _ _ _ (by omega) (by omega), _, rfl, (md _).1, .inl (md _).2⟩
        · have a5 : 0 < (if x < 0 then -x else x) := by split at a4 <;> split <;> omega
          simp only [we_fold, wss_fold, wt_fold, we_non, we_bl, we_int, we_str, we_bty, we_var, we_glob, we_bin, we_un, wt_def, we_not, we_and, we_or, we_cmp, we_cmp2, we_ife, we_tup, we_lst, we_idx, we_sl, we_attr, we_call, we_make, we_meth, we_bi, we_bm, wes_nil, wes_cons, wo_none, wo_some, wi_e, wi_rng, we_lc, ws_expr, ws_ret, ws_retN, ws_pass, ws_brk, ws_cont, ws_asg, ws_sub, ws_fld, ws_aug, ws_iff, ws_for, ws_whl, ws_raise, ws_try, op_some, opD_some, br_some, binG_int, binI_add, binI_sub, binI_and, binI_or, binI_xor, binI_mod, binI_shr, cmpG_int, cmpB_lt, cmpB_le, cmpB_gt, cmpB_ge, cmpB_eq, cmpB_ne, cmpB_eqB, truthD_bl, truthD_int, truthD_non, truthD_tup, get_tup, get_rol, bi_len_tup, bi_len_rol, bi_int_int, bi_int_bl, bi_abs, asgP_name, op_ite, opL_some, get_ref, set_ref, bi_len_ref, bi_tuple_ref, bi_tuple_tup, bi_list_ref, bi_list_tup, bi_sum_ref, bi_sum_tup, bi_all_ref, bi_any_ref, bi_max, bi_min, truthD_ref, trO_lst, atI_pos, ixN_pos, bi_isi, gM_cf, gM_gl, gM_fld, gM_mth, gM_opo, gM_opi, gM_opu, gM_eqo, gM_isi, gM_ist, gM_xfd, gM_xiz, gM_exm, gM_fuel, gM_hot0, gM_hot1, List.getElem?_cons_zero, List.getElem?_cons_succ, List.set_cons_zero, List.set_cons_succ, decide_eq_true_eq, Bool.true_eq_false, Bool.false_eq_true, if_true, if_false, ite_true, ite_false, reduceIte, Int.reduceLE, Int.reduceLT, Int.reduceNeg, Int.reduceToNat, Int.reduceEq, Int.reduceNe, List.length_cons, List.length_nil, Nat.reduceAdd, Nat.reduceSub, Nat.reduceLT, List.length_map, true_and, and_true, decide_true, decide_false, Bool.not_true, Bool.not_false, wss_cons, wss_nil, a1, a3, a4, a5, ex, h1, g1, g2, binI_pow, List.set_set, Int.reducePow, binI_fdiv n0 hn, n0]
          exact ⟨fr _ _ _ _ (by omega) (Int.ediv_nonneg (by omega) (by omega)), _, rfl, (md _).1, .inl (md _).2⟩
      · simp only [we_fold, wss_fold, wt_fold, we_non, we_bl, we_int, we_str, we_bty, we_var, we_glob, we_bin, we_un, wt_def, we_not, we_and, we_or, we_cmp, we_cmp2, we_ife, we_tup, we_lst, we_idx, we_sl, we_attr, we_call, we_make, we_meth, we_bi, we_bm, wes_nil, wes_cons, wo_none, wo_some, wi_e, wi_rng, we_lc, ws_expr, ws_ret, ws_retN, ws_pass, ws_brk, ws_cont, ws_asg, ws_sub, ws_fld, ws_aug, ws_iff, ws_for, ws_whl, ws_raise, ws_try, op_some, opD_some, br_some, binG_int, binI_add, binI_sub, binI_and, binI_or, binI_xor, binI_mod, binI_shr, cmpG_int, cmpB_lt, cmpB_le, cmpB_gt, cmpB_ge, cmpB_eq, cmpB_ne, cmpB_eqB, truthD_bl, truthD_int, truthD_non, truthD_tup, get_tup, get_rol, bi_len_tup, bi_len_rol, bi_int_int, bi_int_bl, bi_abs, asgP_name, op_ite, opL_some, get_ref, set_ref, bi_len_ref, bi_tuple_ref, bi_tuple_tup, bi_list_ref, bi_list_tup, bi_sum_ref, bi_sum_tup, bi_all_ref, bi_any_ref, bi_max, bi_min, truthD_ref, trO_lst, atI_pos, ixN_pos, bi_isi, gM_cf, gM_gl, gM_fld, gM_mth, gM_opo, gM_opi, gM_opu, gM_eqo, gM_isi, gM_ist, gM_xfd, gM_xiz, gM_exm, gM_fuel, gM_hot0, gM_hot1, List.getElem?_cons_zero, List.getElem?_cons_succ, List.set_cons_zero, List.set_cons_succ, decide_eq_true_eq, Bool.true_eq_false, Bool.false_eq_true, if_true, if_false, ite_true, ite_false, reduceIte, Int.reduceLE, Int.reduceLT, Int.reduceNeg, Int.reduceToNat, Int.reduceEq, Int.reduceNe, List.length_cons, List.length_nil, Nat.reduceAdd, Nat.reduceSub, Nat.reduceLT, List.length_map, true_and, and_true, decide_true, decide_false, Bool.not_true, Bool.not_false, wss_cons, wss_nil, a1, a3, h1, g1, g2, List.set_set]
        refine (mix_ok D.mix _ _).mono (fun v h' ⟨e1, i, e2, i0, i1⟩ => ?_) fun _ _ _ z => z
        subst e1 e2
        simp only [we_fold, wss_fold, wt_fold, we_non, we_bl, we_int, we_str, we_bty, we_var, we_glob, we_bin, we_un, wt_def, we_not, we_and, we_or, we_cmp, we_cmp2, we_ife, we_tup, we_lst, we_idx, we_sl, we_attr, we_call, we_make, we_meth, we_bi, we_bm, wes_nil, wes_cons, wo_none, wo_some, wi_e, wi_rng, we_lc, ws_expr, ws_ret, ws_retN, ws_pass, ws_brk, ws_cont, ws_asg, ws_sub, ws_fld, ws_aug, ws_iff, ws_for, ws_whl, ws_raise, ws_try, op_some, opD_some, br_some, binG_int, binI_add, binI_sub, binI_and, binI_or, binI_xor, binI_mod, binI_shr, cmpG_int, cmpB_lt, cmpB_le, cmpB_gt, cmpB_ge, cmpB_eq, cmpB_ne, cmpB_eqB, truthD_bl, truthD_int, truthD_non, truthD_tup, get_tup, get_rol, bi_len_tup, bi_len_rol, bi_int_int, bi_int_bl, bi_abs, asgP_name, op_ite, opL_some, get_ref, set_ref, bi_len_ref, bi_tuple_ref, bi_tuple_tup, bi_list_ref, bi_list_tup, bi_sum_ref, bi_sum_tup, bi_all_ref, bi_any_ref, bi_max, bi_min, truthD_ref, trO_lst, atI_pos, ixN_pos, bi_isi, gM_cf, gM_gl, gM_fld, gM_mth, gM_opo, gM_opi, gM_opu, gM_eqo, gM_isi, gM_ist, gM_xfd, gM_xiz, gM_exm, gM_fuel, gM_hot0, gM_hot1, List.getElem?_cons_zero, List.getElem?_cons_succ, List.set_cons_zero, List.set_cons_succ, decide_eq_true_eq, Bool.true_eq_false, Bool.false_eq_true, if_true, if_false, ite_true, ite_false, reduceIte, Int.reduceLE, Int.reduceLT, Int.reduceNeg, Int.reduceToNat, Int.reduceEq, Int.reduceNe, List.length_cons, List.length_nil, Nat.reduceAdd, Nat.reduceSub, Nat.reduceLT, List.length_map, true_and, and_true, decide_true, decide_false, Bool.not_true, Bool.not_false, wss_cons, wss_nil, g1, List.set_set]
        exact ⟨n0, fr _ _ _ _ h4 (by omega), _, rfl, (md _).1, .inl (md _).2⟩
    · have a5 : 0 < l := by omega
      simp only [we_fold, wss_fold, wt_fold, we_non, we_bl, we_int, we_str, we_bty, we_var, we_glob, we_bin, we_un, wt_def, we_not, we_and, we_or, we_cmp, we_cmp2, we_ife, we_tup, we_lst, we_idx, we_sl, we_attr, we_call, we_make, we_meth, we_bi, we_bm, wes_nil, wes_cons, wo_none, wo_some, wi_e, wi_rng, we_lc, ws_expr, ws_ret, ws_retN, ws_pass, ws_brk, ws_cont, ws_asg, ws_sub, ws_fld, ws_aug, ws_iff, ws_for, ws_whl, ws_raise, ws_try, op_some, opD_some, br_some, binG_int, binI_add, binI_sub, binI_and, binI_or, binI_xor, binI_mod, binI_shr, cmpG_int, cmpB_lt, cmpB_le, cmpB_gt, cmpB_ge, cmpB_eq, cmpB_ne, cmpB_eqB, truthD_bl, truthD_int, truthD_non, truthD_tup, get_tup, get_rol, bi_len_tup, bi_len_rol, bi_int_int, bi_int_bl, bi_abs, asgP_name, op_ite, opL_some, get_ref, set_ref, bi_len_ref, bi_tuple_ref, bi_tuple_tup, bi_list_ref, bi_list_tup, bi_sum_ref, bi_sum_tup, bi_all_ref, bi_any_ref, bi_max, bi_min, truthD_ref, trO_lst, atI_pos, ixN_pos, bi_isi, gM_cf, gM_gl, gM_fld, gM_mth, gM_opo, gM_opi, gM_opu, gM_eqo, gM_isi, gM_ist, gM_xfd, gM_xiz, gM_exm, gM_fuel, gM_hot0, gM_hot1, List.getElem?_cons_zero, List.getElem?_cons_succ, List.set_cons_zero, List.set_cons_succ, decide_eq_true_eq, Bool.true_eq_false, Bool.false_eq_true, if_true, if_false, ite_true, ite_false, reduceIte, Int.reduceLE, Int.reduceLT, Int.reduceNeg, Int.reduceToNat, Int.reduceEq, Int.reduceNe, List.length_cons, List.length_nil, Nat.reduceAdd, Nat.reduceSub, Nat.reduceLT, List.length_map, true_and, and_true, decide_true, decide_false, Bool.not_true, Bool.not_false, wss_cons, wss_nil, a1, a2, a5, h1, g1, g2, List.set_set, binI_fdiv n0 hn, n0]
      exact ⟨fr _ _ _ _ h4 (Int.ediv_nonneg (by omega) (by omega)), _, rfl, (md _).1, .inl (md _).2⟩
theorem chance_ok (D : Draws T gb) (st : Sto h s) (n : Int) (hn : n < 18446744073709551616) : (cal T gb m (k + 3) ("_law_chance", none) [.ref s.1, .int n] h).wp (fun v h' => Fr s h h' ∧ ∃ b : Bool, v = .bl b) X := by
  refine cal_wp D.chance rfl ?_
  simp only [Tx.f__law_chance, we_fold, wss_fold, wt_fold, we_non, we_bl, we_int, we_str, we_bty, we_var, we_glob, we_bin, we_un, wt_def, we_not, we_and, we_or, we_cmp, we_cmp2, we_ife, we_tup, we_lst, we_idx, we_sl, we_attr, we_call, we_make, we_meth, we_bi, we_bm, wes_nil, wes_cons, wo_none, wo_some, wi_e, wi_rng, we_lc, ws_expr, ws_ret, ws_retN, ws_pass, ws_brk, ws_cont, ws_asg, ws_sub, ws_fld, ws_aug, ws_iff, ws_for, ws_whl, ws_raise, ws_try, op_some, opD_some, br_some, binG_int, binI_add, binI_sub, binI_and, binI_or, binI_xor, binI_mod, binI_shr, cmpG_int, cmpB_lt, cmpB_le, cmpB_gt, cmpB_ge, cmpB_eq, cmpB_ne, cmpB_eqB, truthD_bl, truthD_int, truthD_non, truthD_tup, get_tup, get_rol, bi_len_tup, bi_len_rol, bi_int_int, bi_int_bl, bi_abs, asgP_name, op_ite, opL_some, get_ref, set_ref, bi_len_ref, bi_tuple_ref, bi_tuple_tup, bi_list_ref, bi_list_tup, bi_sum_ref, bi_sum_tup, bi_all_ref, bi_any_ref, bi_max, bi_min, truthD_ref, trO_lst, atI_pos, ixN_pos, bi_isi, gM_cf, gM_gl, gM_fld, gM_mth, gM_opo, gM_opi, gM_opu, gM_eqo, gM_isi, gM_ist, gM_xfd, gM_xiz, gM_exm, gM_fuel, gM_hot0, gM_hot1, List.getElem?_cons_zero, List.getElem?_cons_succ, List.set_cons_zero, List.set_cons_succ, decide_eq_true_eq, Bool.true_eq_false, Bool.false_eq_true, if_true, if_false, ite_true, ite_false, reduceIte, Int.reduceLE, Int.reduceLT, Int.reduceNeg, Int.reduceToNat, Int.reduceEq, Int.reduceNe, List.length_cons, List.length_nil, Nat.reduceAdd, Nat.reduceSub, Nat.reduceLT, List.length_map, true_and, and_true, decide_true, decide_false, Bool.not_true, Bool.not_false, wss_cons, wss_nil, List.map_cons, List.map_nil, List.replicate, List.cons_append, List.nil_append]
  refine (take_ok D st n hn).imp fun v h' ⟨fr, i, e, _⟩ => ?_
  subst e
  simp only [we_fold, wss_fold, wt_fold, we_non, we_bl, we_int, we_str, we_bty, we_var, we_glob, we_bin, we_un, wt_def, we_not, we_and, we_or, we_cmp, we_cmp2, we_ife, we_tup, we_lst, we_idx, we_sl, we_attr, we_call, we_make, we_meth, we_bi, we_bm, wes_nil, wes_cons, wo_none, wo_some, wi_e, wi_rng, we_lc, ws_expr, ws_ret, ws_retN, ws_pass, ws_brk, ws_cont, ws_asg, ws_sub, ws_fld, ws_aug, ws_iff, ws_for, ws_whl, ws_raise, ws_try, op_some, opD_some, br_some, binG_int, binI_add, binI_sub, binI_and, binI_or, binI_xor, binI_mod, binI_shr, cmpG_int, cmpB_lt, cmpB_le, cmpB_gt, cmpB_ge, cmpB_eq, cmpB_ne, cmpB_eqB, truthD_bl, truthD_int, truthD_non, truthD_tup, get_tup, get_rol, bi_len_tup, bi_len_rol, bi_int_int, bi_int_bl, bi_abs, asgP_name, op_ite, opL_some, get_ref, set_ref, bi_len_ref, bi_tuple_ref, bi_tuple_tup, bi_list_ref, bi_list_tup, bi_sum_ref, bi_sum_tup, bi_all_ref, bi_any_ref, bi_max, bi_min, truthD_ref, trO_lst, atI_pos, ixN_pos, bi_isi, gM_cf, gM_gl, gM_fld, gM_mth, gM_opo, gM_opi, gM_opu, gM_eqo, gM_isi, gM_ist, gM_xfd, gM_xiz, gM_exm, gM_fuel, gM_hot0, gM_hot1, List.getElem?_cons_zero, List.getElem?_cons_succ, List.set_cons_zero, List.set_cons_succ, decide_eq_true_eq, Bool.true_eq_false, Bool.false_eq_true, if_true, if_false, ite_true, ite_false, reduceIte, Int.reduceLE, Int.reduceLT, Int.reduceNeg, Int.reduceToNat, Int.reduceEq, Int.reduceNe, List.length_cons, List.length_nil, Nat.reduceAdd, Nat.reduceSub, Nat.reduceLT, List.length_map, true_and, and_true, decide_true, decide_false, Bool.not_true, Bool.not_false, wss_cons, wss_nil]
  exact ⟨fr, _, rfl⟩
theorem ints_get {ns : List Int} {i : Nat} {d : Ip.D} (e : (ns.map Ip.D.int)[i]? = some d) : ∃ n, ns[i]? = some n ∧ d = .int n := by
  rw [List.getElem?_map] at e
  cases q : ns[i]? with
  | none => rw [q] at e; cases e
  | some n => rw [q] at e; cases e; exact ⟨n, rfl, rfl⟩
theorem store_ok (D : Draws T gb) (ns : List Int) (hl : ns.length ≤ 63) : (cal T gb none (k + 2) ("_law_store", none) [.rol (ns.map .int)] h).wp (fun v h' => Kp0 h h' ∧ ∃ s, v = .ref s.1 ∧ Sto h' s ∧ h.length ≤ s.1) X := by
  have hf := D.fuel
  have hz : sizeLine = 16777216 := by decide
  refine cal_wp D.store rfl ?_
  simp only [Tx.f__law_store, we_fold, wss_fold, wt_fold, we_non, we_bl, we_int, we_str, we_bty, we_var, we_glob, we_bin, we_un, wt_def, we_not, we_and, we_or, we_cmp, we_cmp2, we_ife, we_tup, we_lst, we_idx, we_sl, we_attr, we_call, we_make, we_meth, we_bi, we_bm, wes_nil, wes_cons, wo_none, wo_some, wi_e, wi_rng, we_lc, ws_expr, ws_ret, ws_retN, ws_pass, ws_brk, ws_cont, ws_asg, ws_sub, ws_fld, ws_aug, ws_iff, ws_for, ws_whl, ws_raise, ws_try, op_some, opD_some, br_some, binG_int, binI_add, binI_sub, binI_and, binI_or, binI_xor, binI_mod, binI_shr, cmpG_int, cmpB_lt, cmpB_le, cmpB_gt, cmpB_ge, cmpB_eq, cmpB_ne, cmpB_eqB, truthD_bl, truthD_int, truthD_non, truthD_tup, get_tup, get_rol, bi_len_tup, bi_len_rol, bi_int_int, bi_int_bl, bi_abs, asgP_name, op_ite, opL_some, get_ref, set_ref, bi_len_ref, bi_tuple_ref, bi_tuple_tup, bi_list_ref, bi_list_tup, bi_sum_ref, bi_sum_tup, bi_all_ref, bi_any_ref, bi_max, bi_min, truthD_ref, trO_lst, atI_pos, ixN_pos, bi_isi, gM_cf, gM_gl, gM_fld, gM_mth, gM_opo, gM_opi, gM_opu, gM_eqo, gM_isi, gM_ist, gM_xfd, gM_xiz, gM_exm, gM_fuel, gM_hot0, gM_hot1, List.getElem?_cons_zero, List.getElem?_cons_succ, List.set_cons_zero, List.set_cons_succ, decide_eq_true_eq, Bool.true_eq_false, Bool.false_eq_true, if_true, if_false, ite_true, ite_false, reduceIte, Int.reduceLE, Int.reduceLT, Int.reduceNeg, Int.reduceToNat, Int.reduceEq, Int.reduceNe, List.length_cons, List.length_nil, Nat.reduceAdd, Nat.reduceSub, Nat.reduceLT, List.length_map, true_and, and_true, decide_true, decide_false, Bool.not_true, Bool.not_false, wss_cons, wss_nil, List.map_cons, List.map_nil, List.replicate, List.cons_append, List.nil_append, srcOf, wipeD]
  refine comp_vals (fun i acc h' => h' = h ∧ acc = (ns.take i).map .int) (by simp; omega) ⟨rfl, by simp⟩ (fun i d acc h' e ⟨e1, e2⟩ => ?_) fun acc h' ⟨e1, e2⟩ => ?_
  · obtain ⟨n, en, rfl⟩ := ints_get e
    subst e1 e2
    have hi := getLt en
    simp only [we_fold, wss_fold, wt_fold, we_non, we_bl, we_int, we_str, we_bty, we_var, we_glob, we_bin, we_un, wt_def, we_not, we_and, we_or, we_cmp, we_cmp2, we_ife, we_tup, we_lst, we_idx, we_sl, we_attr, we_call, we_make, we_meth, we_bi, we_bm, wes_nil, wes_cons, wo_none, wo_some, wi_e, wi_rng, we_lc, ws_expr, ws_ret, ws_retN, ws_pass, ws_brk, ws_cont, ws_asg, ws_sub, ws_fld, ws_aug, ws_iff, ws_for, ws_whl, ws_raise, ws_try, op_some, opD_some, br_some, binG_int, binI_add, binI_sub, binI_and, binI_or, binI_xor, binI_mod, binI_shr, cmpG_int, cmpB_lt, cmpB_le, cmpB_gt, cmpB_ge, cmpB_eq, cmpB_ne, cmpB_eqB, truthD_bl, truthD_int, truthD_non, truthD_tup, get_tup, get_rol, bi_len_tup, bi_len_rol, bi_int_int, bi_int_bl, bi_abs, asgP_name, op_ite, opL_some, get_ref, set_ref, bi_len_ref, bi_tuple_ref, bi_tuple_tup, bi_list_ref, bi_list_tup, bi_sum_ref, bi_sum_tup, bi_all_ref, bi_any_ref, bi_max, bi_min, truthD_ref, trO_lst, atI_pos, ixN_pos, bi_isi, gM_cf, gM_gl, gM_fld, gM_mth, gM_opo, gM_opi, gM_opu, gM_eqo, gM_isi, gM_ist, gM_xfd, gM_xiz, gM_exm, gM_fuel, gM_hot0, gM_hot1, List.getElem?_cons_zero, List.getElem?_cons_succ, List.set_cons_zero, List.set_cons_succ, decide_eq_true_eq, Bool.true_eq_false, Bool.false_eq_true, if_true, if_false, ite_true, ite_false, reduceIte, Int.reduceLE, Int.reduceLT, Int.reduceNeg, Int.reduceToNat, Int.reduceEq, Int.reduceNe, List.length_cons, List.length_nil, Nat.reduceAdd, Nat.reduceSub, Nat.reduceLT, List.length_map, true_and, and_true, decide_true, decide_false, Bool.not_true, Bool.not_false, wss_cons, wss_nil, evalC_nil, wp_ret]
    refine ⟨by simp; omega, ?_⟩
    rw [List.take_add_one, en]
    simp
  · subst e1
    have e3 : acc = ns.map .int := by rw [e2]; simp
    subst e3
    clear e2
    have g1 : (h' ++ [O.lst (ns.map Ip.D.int)])[h'.length]? = some (.lst (ns.map .int)) := by simp
    simp only [we_fold, wss_fold, wt_fold, we_non, we_bl, we_int, we_str, we_bty, we_var, we_glob, we_bin, we_un, wt_def, we_not, we_and, we_or, we_cmp, we_cmp2, we_ife, we_tup, we_lst, we_idx, we_sl, we_attr, we_call, we_make, we_meth, we_bi, we_bm, wes_nil, wes_cons, wo_none, wo_some, wi_e, wi_rng, we_lc, ws_expr, ws_ret, ws_retN, ws_pass, ws_brk, ws_cont, ws_asg, ws_sub, ws_fld, ws_aug, ws_iff, ws_for, ws_whl, ws_raise, ws_try, op_some, opD_some, br_some, binG_int, binI_add, binI_sub, binI_and, binI_or, binI_xor, binI_mod, binI_shr, cmpG_int, cmpB_lt, cmpB_le, cmpB_gt, cmpB_ge, cmpB_eq, cmpB_ne, cmpB_eqB, truthD_bl, truthD_int, truthD_non, truthD_tup, get_tup, get_rol, bi_len_tup, bi_len_rol, bi_int_int, bi_int_bl, bi_abs, asgP_name, op_ite, opL_some, get_ref, set_ref, bi_len_ref, bi_tuple_ref, bi_tuple_tup, bi_list_ref, bi_list_tup, bi_sum_ref, bi_sum_tup, bi_all_ref, bi_any_ref, bi_max, bi_min, truthD_ref, trO_lst, atI_pos, ixN_pos, bi_isi, gM_cf, gM_gl, gM_fld, gM_mth, gM_opo, gM_opi, gM_opu, gM_eqo, gM_isi, gM_ist, gM_xfd, gM_xiz, gM_exm, gM_fuel, gM_hot0, gM_hot1, List.getElem?_cons_zero, List.getElem?_cons_succ, List.set_cons_zero, List.set_cons_succ, decide_eq_true_eq, Bool.true_eq_false, Bool.false_eq_true, if_true, if_false, ite_true, ite_false, reduceIte, Int.reduceLE, Int.reduceLT, Int.reduceNeg, Int.reduceToNat, Int.reduceEq, Int.reduceNe, List.length_cons, List.length_nil, Nat.reduceAdd, Nat.reduceSub, Nat.reduceLT, List.length_map, true_and, and_true, decide_true, decide_false, Bool.not_true, Bool.not_false, wss_cons, wss_nil, g1, srcOf]
    refine for_live (a := h'.length) (l := ns.map .int) (fun i δ h1 => h1 = h' ++ [O.lst (ns.map Ip.D.int)] ∧ ∃ (x : Int) (o : Option Ip.D), δ = [some (.rol (ns.map .int)), some (.ref h'.length), some (.int x), o]) (by simp; omega) ⟨rfl, _, _, rfl⟩ (fun i δ h1 ⟨e, _⟩ => by rw [e]; exact g1) (fun i d δ h1 e ⟨e1, x, o, e2⟩ => ?_) fun δ h1 ⟨e1, x, o, e2⟩ => ?_
    · obtain ⟨n, en, rfl⟩ := ints_get e
      subst e1 e2
      simp only [we_fold, wss_fold, wt_fold, we_non, we_bl, we_int, we_str, we_bty, we_var, we_glob, we_bin, we_un, wt_def, we_not, we_and, we_or, we_cmp, we_cmp2, we_ife, we_tup, we_lst, we_idx, we_sl, we_attr, we_call, we_make, we_meth, we_bi, we_bm, wes_nil, wes_cons, wo_none, wo_some, wi_e, wi_rng, we_lc, ws_expr, ws_ret, ws_retN, ws_pass, ws_brk, ws_cont, ws_asg, ws_sub, ws_fld, ws_aug, ws_iff, ws_for, ws_whl, ws_raise, ws_try, op_some, opD_some, br_some, binG_int, binI_add, binI_sub, binI_and, binI_or, binI_xor, binI_mod, binI_shr, cmpG_int, cmpB_lt, cmpB_le, cmpB_gt, cmpB_ge, cmpB_eq, cmpB_ne, cmpB_eqB, truthD_bl, truthD_int, truthD_non, truthD_tup, get_tup, get_rol, bi_len_tup, bi_len_rol, bi_int_int, bi_int_bl, bi_abs, asgP_name, op_ite, opL_some, get_ref, set_ref, bi_len_ref, bi_tuple_ref, bi_tuple_tup, bi_list_ref, bi_list_tup, bi_sum_ref, bi_sum_tup, bi_all_ref, bi_any_ref, bi_max, bi_min, truthD_ref, trO_lst, atI_pos, ixN_pos, bi_isi, gM_cf, gM_gl, gM_fld, gM_mth, gM_opo, gM_opi, gM_opu, gM_eqo, gM_isi, gM_ist, gM_xfd, gM_xiz, gM_exm, gM_fuel, gM_hot0, gM_hot1, List.getElem?_cons_zero, List.getElem?_cons_succ, List.set_cons_zero, List.set_cons_succ, decide_eq_true_eq, Bool.true_eq_false, Bool.false_eq_true, if_true, if_false, ite_true, ite_false, reduceIte, Int.reduceLE, Int.reduceLT, Int.reduceNeg, Int.reduceToNat, Int.reduceEq, Int.reduceNe, List.length_cons, List.length_nil, Nat.reduceAdd, Nat.reduceSub, Nat.reduceLT, List.length_map, true_and, and_true, decide_true, decide_false, Bool.not_true, Bool.not_false, wss_cons, wss_nil]
      refine (mix_ok D.mix _ _).imp fun v h2 ⟨e1, i', e2, _⟩ => ?_
      subst e1 e2
      simp only [we_fold, wss_fold, wt_fold, we_non, we_bl, we_int, we_str, we_bty, we_var, we_glob, we_bin, we_un, wt_def, we_not, we_and, we_or, we_cmp, we_cmp2, we_ife, we_tup, we_lst, we_idx, we_sl, we_attr, we_call, we_make, we_meth, we_bi, we_bm, wes_nil, wes_cons, wo_none, wo_some, wi_e, wi_rng, we_lc, ws_expr, ws_ret, ws_retN, ws_pass, ws_brk, ws_cont, ws_asg, ws_sub, ws_fld, ws_aug, ws_iff, ws_for, ws_whl, ws_raise, ws_try, op_some, opD_some, br_some, binG_int, binI_add, binI_sub, binI_and, binI_or, binI_xor, binI_mod, binI_shr, cmpG_int, cmpB_lt, cmpB_le, cmpB_gt, cmpB_ge, cmpB_eq, cmpB_ne, cmpB_eqB, truthD_bl, truthD_int, truthD_non, truthD_tup, get_tup, get_rol, bi_len_tup, bi_len_rol, bi_int_int, bi_int_bl, bi_abs, asgP_name, op_ite, opL_some, get_ref, set_ref, bi_len_ref, bi_tuple_ref, bi_tuple_tup, bi_list_ref, bi_list_tup, bi_sum_ref, bi_sum_tup, bi_all_ref, bi_any_ref, bi_max, bi_min, truthD_ref, trO_lst, atI_pos, ixN_pos, bi_isi, gM_cf, gM_gl, gM_fld, gM_mth, gM_opo, gM_opi, gM_opu, gM_eqo, gM_isi, gM_ist, gM_xfd, gM_xiz, gM_exm, gM_fuel, gM_hot0, gM_hot1, List.getElem?_cons_zero, List.getElem?_cons_succ, List.set_cons_zero, List.set_cons_succ, decide_eq_true_eq, Bool.true_eq_false, Bool.false_eq_true, if_true, if_false, ite_true, ite_false, reduceIte, Int.reduceLE, Int.reduceLT, Int.reduceNeg, Int.reduceToNat, Int.reduceEq, Int.reduceNe, List.length_cons, List.length_nil, Nat.reduceAdd, Nat.reduceSub, Nat.reduceLT, List.length_map, true_and, and_true, decide_true, decide_false, Bool.not_true, Bool.not_false, wss_cons, wss_nil]
      exact ⟨_, _, rfl⟩
    · subst e1 e2
      simp only [we_fold, wss_fold, wt_fold, we_non, we_bl, we_int, we_str, we_bty, we_var, we_glob, we_bin, we_un, wt_def, we_not, we_and, we_or, we_cmp, we_cmp2, we_ife, we_tup, we_lst, we_idx, we_sl, we_attr, we_call, we_make, we_meth, we_bi, we_bm, wes_nil, wes_cons, wo_none, wo_some, wi_e, wi_rng, we_lc, ws_expr, ws_ret, ws_retN, ws_pass, ws_brk, ws_cont, ws_asg, ws_sub, ws_fld, ws_aug, ws_iff, ws_for, ws_whl, ws_raise, ws_try, op_some, opD_some, br_some, binG_int, binI_add, binI_sub, binI_and, binI_or, binI_xor, binI_mod, binI_shr, cmpG_int, cmpB_lt, cmpB_le, cmpB_gt, cmpB_ge, cmpB_eq, cmpB_ne, cmpB_eqB, truthD_bl, truthD_int, truthD_non, truthD_tup, get_tup, get_rol, bi_len_tup, bi_len_rol, bi_int_int, bi_int_bl, bi_abs, asgP_name, op_ite, opL_some, get_ref, set_ref, bi_len_ref, bi_tuple_ref, bi_tuple_tup, bi_list_ref, bi_list_tup, bi_sum_ref, bi_sum_tup, bi_all_ref, bi_any_ref, bi_max, bi_min, truthD_ref, trO_lst, atI_pos, ixN_pos, bi_isi, gM_cf, gM_gl, gM_fld, gM_mth, gM_opo, gM_opi, gM_opu, gM_eqo, gM_isi, gM_ist, gM_xfd, gM_xiz, gM_exm, gM_fuel, gM_hot0, gM_hot1, List.getElem?_cons_zero, List.getElem?_cons_succ, List.set_cons_zero, List.set_cons_succ, decide_eq_true_eq, Bool.true_eq_false, Bool.false_eq_true, if_true, if_false, ite_true, ite_false, reduceIte, Int.reduceLE, Int.reduceLT, Int.reduceNeg, Int.reduceToNat, Int.reduceEq, Int.reduceNe, List.length_cons, List.length_nil, Nat.reduceAdd, Nat.reduceSub, Nat.reduceLT, List.length_map, true_and, and_true, decide_true, decide_false, Bool.not_true, Bool.not_false, wss_cons, wss_nil, hz, Nat.reduceLeDiff]
      refine ⟨?_, (_, h'.length), rfl, ⟨0, 0, 0, x, ns, ?_, ?_, ?_, by omega, by omega⟩, by simp⟩
      · rw [List.append_assoc]; exact Keep.app _ _
      · simp
      · rw [List.getElem?_append_left (by simp)]; exact g1
      · simp
end
end Ip
end
section
set_option Elab.async false
set_option linter.all false
set_option maxRecDepth 100000
set_option maxHeartbeats 1000000
/-! draws of widths, values, rows -/
namespace Ip
open PySem L2
/-- [f(k) for k in range(j)], nothing changes -/
theorem comp_range {g : G} {j n : Nat} {f : Nat → D} {asg : D → Sl → Option Sl} {elt : Sl → M D} {δ0 : Sl} {h : Hs} {Q : List D → Hs → Prop} {X : Xp} (hn : j < n) (hz : j ≤ 16777216)
    (step : ∀ i, i < j → Op (asg (.int i) δ0) fun δ1 => (elt δ1 h).wp (fun y h' => h' = h ∧ y = f i) fun _ _ _ => False) (hQ : Q ((List.range j).map f) h) :
    (compN (.vals ((List.range j).map fun (k : Nat) => D.int (k : Int))) asg (fun δ1 => evalC g [] δ1) elt δ0 n 0 [] h).wp Q X := by
  have hs : sizeLine = 16777216 := by decide
  refine comp_vals (fun i acc h' => i ≤ j ∧ h' = h ∧ acc = (List.range i).map f) (by simpa using hn) ⟨by omega, rfl, by simp⟩ (fun i d acc h' e ⟨_, e1, e2⟩ => ?_) fun acc h' ⟨_, e1, e2⟩ => ?_
  · have hi : i < j := by simpa using getLt e
    have ed : d = .int i := by
      rw [List.getElem?_map, List.getElem?_range hi] at e
      cases e; rfl
    subst ed e1 e2
    have := step i hi
    cases q : asg (.int i) δ0 with
    | none => rw [q] at this; exact this
    | some δ1 =>
      rw [q] at this
      simp only [op_some, evalC_nil, wp_ret, if_true] at this ⊢
      refine this.mono (fun y h2 ⟨e1, e2⟩ => ⟨by simp; omega, hi, e1, ?_⟩) fun _ _ _ z => z
      rw [List.range_succ, List.map_append, e2]
      rfl
  · subst e1 e2
    simp only [List.length_map, List.length_range]
    exact hQ
theorem pow_le2 {a b : Nat} (h : a ≤ b) : (2 : Int) ^ a ≤ 2 ^ b := by
  have := Nat.pow_le_pow_right (n := 2) (by decide) h
  exact_mod_cast this
def Bits (l : List Int) : Prop := ∀ b ∈ l, b = 0 ∨ b = 1
/-- the number of a row -/
def numOf : List Int → Int
  | [] => 0
  | b :: l => b + 2 * numOf l
theorem numOf_range {l : List Int} (hb : Bits l) : 0 ≤ numOf l ∧ numOf l < 2 ^ l.length := by
  induction l with
  | nil => simp [numOf]
  | cons b l ih =>
    have h1 := ih fun x hx => hb x (List.mem_cons_of_mem _ hx)
    have h2 := hb b (List.mem_cons_self ..)
    simp only [numOf, List.length_cons, Int.pow_succ]
    omega
theorem sum_mul2 {α : Type} (f : α → Int) : ∀ l : List α, (l.map fun i => 2 * f i).sum = 2 * (l.map f).sum
  | [] => rfl
  | a :: l => by simp only [List.map_cons, List.sum_cons, sum_mul2 f l]; omega
theorem numOf_sum {l : List Int} : ∀ (f : Nat → Int), (∀ i, i < l.length → f i = l.getD i 0 * 2 ^ i) → ((List.range l.length).map f).sum = numOf l := by
  induction l with
  | nil => intro f _; rfl
  | cons b l ih =>
    intro f hf
    have h0 := hf 0 (by simp)
    have e := ih (fun i => l.getD i 0 * 2 ^ i) fun i hi => rfl
    have e2 : ((List.range l.length).map fun i => f (i + 1)).sum = 2 * numOf l := by
      rw [← e, ← sum_mul2]
      congr 1
      apply List.map_congr_left
      intro i hi
      have := hf (i + 1) (by simpa using hi)
      rw [this]
      simp only [List.getD_cons_succ, Int.pow_succ]
      rw [Int.mul_comm 2, Int.mul_assoc]
    rw [List.length_cons, List.range_succ_eq_map, List.map_cons, List.map_map, List.sum_cons, h0]
    show _ + ((List.range l.length).map fun i => f (i + 1)).sum = _
    rw [e2]
    simp [numOf]
theorem intsD_map {ns : List Int} : intsD (ns.map D.int) = some ns := by
  induction ns with
  | nil => rfl
  | cons n ns ih => simp [intsD, ih]
section
variable {T : FKey → Option Fn} {gb : G} {m : Option Hx} {k : Nat} {h : Hs} {X : Xp} {s : Nat × Nat}
structure DrawsW (T : FKey → Option Fn) (gb : G) : Prop extends Draws T gb where
  pick : T ("_law_pick", none) = some Tx.f__law_pick
  great : T ("_law_great", none) = some Tx.f__law_great
  rowof : T ("_law_row_of", none) = some Tx.f__law_row_of
  numof : T ("_law_number_of", none) = some Tx.f__law_number_of
  row : T ("_law_row", none) = some Tx.f__law_row
  lrow : T ("_law_long_row", none) = some Tx.f__law_long_row
  width : T ("_law_width", none) = some Tx.f__law_width
  value : T ("_law_value", none) = some Tx.f__law_value
theorem pick_ok (D : DrawsW T gb) (st : Sto h s) {a : Nat} {l : List Ip.D} (ha : h[a]? = some (.lst l)) (hl : l ≠ []) (hz : l.length < 16777216) (has : a ≠ s.1) : (cal T gb m (k + 3) ("_law_pick", none) [.ref s.1, .ref a] h).wp (fun v h' => Fr s h h' ∧ v ∈ l) X := by
  refine cal_wp D.pick rfl ?_
  simp only [Tx.f__law_pick, we_fold, wss_fold, wt_fold, we_non, we_bl, we_int, we_str, we_bty, we_var, we_glob, we_bin, we_un, wt_def, we_not, we_and, we_or, we_cmp, we_cmp2, we_ife, we_tup, we_lst, we_idx, we_sl, we_attr, we_call, we_make, we_meth, we_bi, we_bm, wes_nil, wes_cons, wo_none, wo_some, wi_e, wi_rng, we_lc, ws_expr, ws_ret, ws_retN, ws_pass, ws_brk, ws_cont, ws_asg, ws_sub, ws_fld, ws_aug, ws_iff, ws_for, ws_whl, ws_raise, ws_try, op_some, opD_some, br_some, binG_int, binI_add, binI_sub, binI_and, binI_or, binI_xor, binI_mod, binI_shr, cmpG_int, cmpB_lt, cmpB_le, cmpB_gt, cmpB_ge, cmpB_eq, cmpB_ne, cmpB_eqB, truthD_bl, truthD_int, truthD_non, truthD_tup, get_tup, get_rol, bi_len_tup, bi_len_rol, bi_int_int, bi_int_bl, bi_abs, asgP_name, op_ite, opL_some, get_ref, set_ref, bi_len_ref, bi_tuple_ref, bi_tuple_tup, bi_list_ref, bi_list_tup, bi_sum_ref, bi_sum_tup, bi_all_ref, bi_any_ref, bi_max, bi_min, truthD_ref, trO_lst, atI_pos, ixN_pos, bi_isi, gM_cf, gM_gl, gM_fld, gM_mth, gM_opo, gM_opi, gM_opu, gM_eqo, gM_isi, gM_ist, gM_xfd, gM_xiz, gM_exm, gM_fuel, gM_hot0, gM_hot1, List.getElem?_cons_zero, List.getElem?_cons_succ, List.set_cons_zero, List.set_cons_succ, decide_eq_true_eq, Bool.true_eq_false, Bool.false_eq_true, if_true, if_false, ite_true, ite_false, reduceIte, Int.reduceLE, Int.reduceLT, Int.reduceNeg, Int.reduceToNat, Int.reduceEq, Int.reduceNe, List.length_cons, List.length_nil, Nat.reduceAdd, Nat.reduceSub, Nat.reduceLT, List.length_map, true_and, and_true, decide_true, decide_false, Bool.not_true, Bool.not_false, wss_cons, wss_nil, List.map_cons, List.map_nil, List.replicate, List.cons_append, List.nil_append, ha]
  refine (take_ok D.toDraws st _ (by omega)).imp fun v h' ⟨fr, i, e, i0, i1⟩ => ?_
  subst e
  have hl0 : 0 < l.length := by cases l with | nil => exact absurd rfl hl | cons a l => simp
  have ha' := fr.kp.at_ a _ ha has
  have hi : i.toNat < l.length := by omega
  simp only [we_fold, wss_fold, wt_fold, we_non, we_bl, we_int, we_str, we_bty, we_var, we_glob, we_bin, we_un, wt_def, we_not, we_and, we_or, we_cmp, we_cmp2, we_ife, we_tup, we_lst, we_idx, we_sl, we_attr, we_call, we_make, we_meth, we_bi, we_bm, wes_nil, wes_cons, wo_none, wo_some, wi_e, wi_rng, we_lc, ws_expr, ws_ret, ws_retN, ws_pass, ws_brk, ws_cont, ws_asg, ws_sub, ws_fld, ws_aug, ws_iff, ws_for, ws_whl, ws_raise, ws_try, op_some, opD_some, br_some, binG_int, binI_add, binI_sub, binI_and, binI_or, binI_xor, binI_mod, binI_shr, cmpG_int, cmpB_lt, cmpB_le, cmpB_gt, cmpB_ge, cmpB_eq, cmpB_ne, cmpB_eqB, truthD_bl, truthD_int, truthD_non, truthD_tup, get_tup, get_rol, bi_len_tup, bi_len_rol, bi_int_int, bi_int_bl, bi_abs, asgP_name, op_ite, opL_some, get_ref, set_ref, bi_len_ref, bi_tuple_ref, bi_tuple_tup, bi_list_ref, bi_list_tup, bi_sum_ref, bi_sum_tup, bi_all_ref, bi_any_ref, bi_max, bi_min, truthD_ref, trO_lst, atI_pos, ixN_pos, bi_isi, gM_cf, gM_gl, gM_fld, gM_mth, gM_opo, gM_opi, gM_opu, gM_eqo, gM_isi, gM_ist, gM_xfd, gM_xiz, gM_exm, gM_fuel, gM_hot0, gM_hot1, List.getElem?_cons_zero, List.getElem?_cons_succ, List.set_cons_zero, List.set_cons_succ, decide_eq_true_eq, Bool.true_eq_false, Bool.false_eq_true, if_true, if_false, ite_true, ite_false, reduceIte, Int.reduceLE, Int.reduceLT, Int.reduceNeg, Int.reduceToNat, Int.reduceEq, Int.reduceNe, List.length_cons, List.length_nil, Nat.reduceAdd, Nat.reduceSub, Nat.reduceLT, List.length_map, true_and, and_true, decide_true, decide_false, Bool.not_true, Bool.not_false, wss_cons, wss_nil, ha', atI_pos i0, List.getElem?_eq_getElem hi]
  exact ⟨fr, List.getElem_mem hi⟩
theorem txt9 : PySem.intText? (Txt.mul "9" 99) = some 999999999999999999999999999999999999999999999999999999999999999999999999999999999999999999999999999 := by decide +kernel
theorem txt9l : (Txt.mul "9" 99).length ≤ 640 := by decide +kernel
theorem binG_str9 {g : G} {Q : Ip.D → Hs → Prop} : (binG g .Mult (.str "9") (.int 99) h).wp Q X = Q (.str (Txt.mul "9" 99)) h := by
  have e : (decide (0 < (99 : Int)) && decide ((99 : Int) ≤ 1000000) && decide (Str.length "9" * (99 : Int).toNat ≤ sizeLine)) = true := by decide +kernel
  show ((if decide (0 < (99 : Int)) && decide ((99 : Int) ≤ 1000000) && decide (Str.length "9" * (99 : Int).toNat ≤ sizeLine) then ret (.str (Txt.mul "9" 99)) else fail : M Ip.D) h).wp Q X = _
  rw [if_pos e]
  rfl
theorem bi_int_str {g : G} {z : Str} {n : Int} {Q : Ip.D → Hs → Prop} (h1 : z.length ≤ 640) (h2 : PySem.intText? z = some n) : (biF g .int [.str z] h).wp Q X = Q (.int n) h := by
  show (if z.length ≤ 640 then (match PySem.intText? z with
    | some n => .ok (.int n) h
    | none => .bad) else .bad : R Ip.D).wp Q X = _
  rw [if_pos h1, h2]
  rfl
theorem great_ok (D : DrawsW T gb) (st : Sto h s) : (cal T gb m (k + 4) ("_law_great", none) [.ref s.1] h).wp (fun v h' => Fr s h h' ∧ ∃ i : Int, v = .int i ∧ 1000000000000000000 ≤ i ∧ i < 2 ^ 400) X := by
  have hz : sizeLine = 16777216 := by decide
  refine cal_wp D.great rfl ?_
  simp only [Tx.f__law_great, we_fold, wss_fold, wt_fold, we_non, we_bl, we_int, we_str, we_bty, we_var, we_glob, we_bin, we_un, wt_def, we_not, we_and, we_or, we_cmp, we_cmp2, we_ife, we_tup, we_lst, we_idx, we_sl, we_attr, we_call, we_make, we_meth, we_bi, we_bm, wes_nil, wes_cons, wo_none, wo_some, wi_e, wi_rng, we_lc, ws_expr, ws_ret, ws_retN, ws_pass, ws_brk, ws_cont, ws_asg, ws_sub, ws_fld, ws_aug, ws_iff, ws_for, ws_whl, ws_raise, ws_try, op_some, opD_some, br_some, binG_int, binI_add, binI_sub, binI_and, binI_or, binI_xor, binI_mod, binI_shr, cmpG_int, cmpB_lt, cmpB_le, cmpB_gt, cmpB_ge, cmpB_eq, cmpB_ne, cmpB_eqB, truthD_bl, truthD_int, truthD_non, truthD_tup, get_tup, get_rol, bi_len_tup, bi_len_rol, bi_int_int, bi_int_bl, bi_abs, asgP_name, op_ite, opL_some, get_ref, set_ref, bi_len_ref, bi_tuple_ref, bi_tuple_tup, bi_list_ref, bi_list_tup, bi_sum_ref, bi_sum_tup, bi_all_ref, bi_any_ref, bi_max, bi_min, truthD_ref, trO_lst, atI_pos, ixN_pos, bi_isi, gM_cf, gM_gl, gM_fld, gM_mth, gM_opo, gM_opi, gM_opu, gM_eqo, gM_isi, gM_ist, gM_xfd, gM_xiz, gM_exm, gM_fuel, gM_hot0, gM_hot1, List.getElem?_cons_zero, List.getElem?_cons_succ, List.set_cons_zero, List.set_cons_succ, decide_eq_true_eq, Bool.true_eq_false, Bool.false_eq_true, if_true, if_false, ite_true, ite_false, reduceIte, Int.reduceLE, Int.reduceLT, Int.reduceNeg, Int.reduceToNat, Int.reduceEq, Int.reduceNe, List.length_cons, List.length_nil, Nat.reduceAdd, Nat.reduceSub, Nat.reduceLT, List.length_map, true_and, and_true, decide_true, decide_false, Bool.not_true, Bool.not_false, wss_cons, wss_nil, List.map_cons, List.map_nil, List.replicate, List.cons_append, List.nil_append, binI_pow, binG_str9, bi_int_str txt9l txt9, hz, Nat.reduceLeDiff, Int.reduceAdd]
  rw [show binI .Mult (10 ^ 64) (10 ^ 34) = some (10 ^ 98) by decide +kernel]
  simp only [we_fold, wss_fold, wt_fold, we_non, we_bl, we_int, we_str, we_bty, we_var, we_glob, we_bin, we_un, wt_def, we_not, we_and, we_or, we_cmp, we_cmp2, we_ife, we_tup, we_lst, we_idx, we_sl, we_attr, we_call, we_make, we_meth, we_bi, we_bm, wes_nil, wes_cons, wo_none, wo_some, wi_e, wi_rng, we_lc, ws_expr, ws_ret, ws_retN, ws_pass, ws_brk, ws_cont, ws_asg, ws_sub, ws_fld, ws_aug, ws_iff, ws_for, ws_whl, ws_raise, ws_try, op_some, opD_some, br_some, binG_int, binI_add, binI_sub, binI_and, binI_or, binI_xor, binI_mod, binI_shr, cmpG_int, cmpB_lt, cmpB_le, cmpB_gt, cmpB_ge, cmpB_eq, cmpB_ne, cmpB_eqB, truthD_bl, truthD_int, truthD_non, truthD_tup, get_tup, get_rol, bi_len_tup, bi_len_rol, bi_int_int, bi_int_bl, bi_abs, asgP_name, op_ite, opL_some, get_ref, set_ref, bi_len_ref, bi_tuple_ref, bi_tuple_tup, bi_list_ref, bi_list_tup, bi_sum_ref, bi_sum_tup, bi_all_ref, bi_any_ref, bi_max, bi_min, truthD_ref, trO_lst, atI_pos, ixN_pos, bi_isi, gM_cf, gM_gl, gM_fld, gM_mth, gM_opo, gM_opi, gM_opu, gM_eqo, gM_isi, gM_ist, gM_xfd, gM_xiz, gM_exm, gM_fuel, gM_hot0, gM_hot1, List.getElem?_cons_zero, List.getElem?_cons_succ, List.set_cons_zero, List.set_cons_succ, decide_eq_true_eq, Bool.true_eq_false, Bool.false_eq_true, if_true, if_false, ite_true, ite_false, reduceIte, Int.reduceLE, Int.reduceLT, Int.reduceNeg, Int.reduceToNat, Int.reduceEq, Int.reduceNe, List.length_cons, List.length_nil, Nat.reduceAdd, Nat.reduceSub, Nat.reduceLT, List.length_map, true_and, and_true, decide_true, decide_false, Bool.not_true, Bool.not_false, wss_cons, wss_nil]
  have f0 : Fr s h (h ++ [O.lst [.int (10 ^ 18), .int (2 ^ 64), .int (10 ^ 40 + 1), .int (10 ^ 98), .int 999999999999999999999999999999999999999999999999999999999999999999999999999999999999999999999999999]]) := st.fr (Keep.app _ _)
  have hs := st.lt
  refine (pick_ok D f0.st (a := h.length) (app_at _ _) (List.cons_ne_nil _ _) (by simp only [List.length_cons, List.length_nil]; omega) (by omega)).imp fun v h1 ⟨f1, hv⟩ => ?_
  have hv : ∃ i : Int, v = .int i ∧ 1000000000000000000 ≤ i ∧ i < 2 ^ 399 := by
    simp only [List.mem_cons, List.not_mem_nil, or_false] at hv
    rcases hv with rfl | rfl | rfl | rfl | rfl
    · exact ⟨_, rfl, by decide +kernel, by decide +kernel⟩
    · exact ⟨_, rfl, by decide +kernel, by decide +kernel⟩
    · exact ⟨_, rfl, by decide +kernel, by decide +kernel⟩
    · exact ⟨_, rfl, by decide +kernel, by decide +kernel⟩
    · exact ⟨_, rfl, by decide +kernel, by decide +kernel⟩
  obtain ⟨i, rfl, i1, i2⟩ := hv
  refine (take_ok D.toDraws f1.st _ (by omega)).imp fun v h2 ⟨f2, j, e, j0, j1⟩ => ?_
  subst e
  simp only [we_fold, wss_fold, wt_fold, we_non, we_bl, we_int, we_str, we_bty, we_var, we_glob, we_bin, we_un, wt_def, we_not, we_and, we_or, we_cmp, we_cmp2, we_ife, we_tup, we_lst, we_idx, we_sl, we_attr, we_call, we_make, we_meth, we_bi, we_bm, wes_nil, wes_cons, wo_none, wo_some, wi_e, wi_rng, we_lc, ws_expr, ws_ret, ws_retN, ws_pass, ws_brk, ws_cont, ws_asg, ws_sub, ws_fld, ws_aug, ws_iff, ws_for, ws_whl, ws_raise, ws_try, op_some, opD_some, br_some, binG_int, binI_add, binI_sub, binI_and, binI_or, binI_xor, binI_mod, binI_shr, cmpG_int, cmpB_lt, cmpB_le, cmpB_gt, cmpB_ge, cmpB_eq, cmpB_ne, cmpB_eqB, truthD_bl, truthD_int, truthD_non, truthD_tup, get_tup, get_rol, bi_len_tup, bi_len_rol, bi_int_int, bi_int_bl, bi_abs, asgP_name, op_ite, opL_some, get_ref, set_ref, bi_len_ref, bi_tuple_ref, bi_tuple_tup, bi_list_ref, bi_list_tup, bi_sum_ref, bi_sum_tup, bi_all_ref, bi_any_ref, bi_max, bi_min, truthD_ref, trO_lst, atI_pos, ixN_pos, bi_isi, gM_cf, gM_gl, gM_fld, gM_mth, gM_opo, gM_opi, gM_opu, gM_eqo, gM_isi, gM_ist, gM_xfd, gM_xiz, gM_exm, gM_fuel, gM_hot0, gM_hot1, List.getElem?_cons_zero, List.getElem?_cons_succ, List.set_cons_zero, List.set_cons_succ, decide_eq_true_eq, Bool.true_eq_false, Bool.false_eq_true, if_true, if_false, ite_true, ite_false, reduceIte, Int.reduceLE, Int.reduceLT, Int.reduceNeg, Int.reduceToNat, Int.reduceEq, Int.reduceNe, List.length_cons, List.length_nil, Nat.reduceAdd, Nat.reduceSub, Nat.reduceLT, List.length_map, true_and, and_true, decide_true, decide_false, Bool.not_true, Bool.not_false, wss_cons, wss_nil]
  refine ⟨(f0.trans f1).trans f2, _, rfl, by omega, ?_⟩
  have e1 : (2 : Int) ^ 400 = 2 * 2 ^ 399 := by decide +kernel
  have e2 : (1000 : Int) < 2 ^ 399 := by decide +kernel
  omega
theorem row_of_ok (D : DrawsW T gb) (n c : Int) (h0 : 0 ≤ c) (hc : c ≤ 100000) : (cal T gb none (k + 1) ("_law_row_of", none) [.int n, .int c] h).wp (fun v h' => Kp0 h h' ∧ v = .tup (((List.range c.toNat).map fun (i : Nat) => n / 2 ^ i % 2).map .int)) X := by
  have hf := D.fuel
  refine cal_wp D.rowof rfl ?_
  simp only [Tx.f__law_row_of, we_fold, wss_fold, wt_fold, we_non, we_bl, we_int, we_str, we_bty, we_var, we_glob, we_bin, we_un, wt_def, we_not, we_and, we_or, we_cmp, we_cmp2, we_ife, we_tup, we_lst, we_idx, we_sl, we_attr, we_call, we_make, we_meth, we_bi, we_bm, wes_nil, wes_cons, wo_none, wo_some, wi_e, wi_rng, we_lc, ws_expr, ws_ret, ws_retN, ws_pass, ws_brk, ws_cont, ws_asg, ws_sub, ws_fld, ws_aug, ws_iff, ws_for, ws_whl, ws_raise, ws_try, op_some, opD_some, br_some, binG_int, binI_add, binI_sub, binI_and, binI_or, binI_xor, binI_mod, binI_shr, cmpG_int, cmpB_lt, cmpB_le, cmpB_gt, cmpB_ge, cmpB_eq, cmpB_ne, cmpB_eqB, truthD_bl, truthD_int, truthD_non, truthD_tup, get_tup, get_rol, bi_len_tup, bi_len_rol, bi_int_int, bi_int_bl, bi_abs, asgP_name, op_ite, opL_some, get_ref, set_ref, bi_len_ref, bi_tuple_ref, bi_tuple_tup, bi_list_ref, bi_list_tup, bi_sum_ref, bi_sum_tup, bi_all_ref, bi_any_ref, bi_max, bi_min, truthD_ref, trO_lst, atI_pos, ixN_pos, bi_isi, gM_cf, gM_gl, gM_fld, gM_mth, gM_opo, gM_opi, gM_opu, gM_eqo, gM_isi, gM_ist, gM_xfd, gM_xiz, gM_exm, gM_fuel, gM_hot0, gM_hot1, List.getElem?_cons_zero, List.getElem?_cons_succ, List.set_cons_zero, List.set_cons_succ, decide_eq_true_eq, Bool.true_eq_false, Bool.false_eq_true, if_true, if_false, ite_true, ite_false, reduceIte, Int.reduceLE, Int.reduceLT, Int.reduceNeg, Int.reduceToNat, Int.reduceEq, Int.reduceNe, List.length_cons, List.length_nil, Nat.reduceAdd, Nat.reduceSub, Nat.reduceLT, List.length_map, true_and, and_true, decide_true, decide_false, Bool.not_true, Bool.not_false, wss_cons, wss_nil, List.map_cons, List.map_nil, List.replicate, List.cons_append, List.nil_append, wipeD, rngOf1 (show c < 4611686018427387904 by omega) (show -4611686018427387904 ≤ c by omega)]
  refine comp_range (f := fun i => .int (n / 2 ^ i % 2)) (by omega) (by omega) (fun i hi => ?_) ?_
  · simp only [we_fold, wss_fold, wt_fold, we_non, we_bl, we_int, we_str, we_bty, we_var, we_glob, we_bin, we_un, wt_def, we_not, we_and, we_or, we_cmp, we_cmp2, we_ife, we_tup, we_lst, we_idx, we_sl, we_attr, we_call, we_make, we_meth, we_bi, we_bm, wes_nil, wes_cons, wo_none, wo_some, wi_e, wi_rng, we_lc, ws_expr, ws_ret, ws_retN, ws_pass, ws_brk, ws_cont, ws_asg, ws_sub, ws_fld, ws_aug, ws_iff, ws_for, ws_whl, ws_raise, ws_try, op_some, opD_some, br_some, binG_int, binI_add, binI_sub, binI_and, binI_or, binI_xor, binI_mod, binI_shr, cmpG_int, cmpB_lt, cmpB_le, cmpB_gt, cmpB_ge, cmpB_eq, cmpB_ne, cmpB_eqB, truthD_bl, truthD_int, truthD_non, truthD_tup, get_tup, get_rol, bi_len_tup, bi_len_rol, bi_int_int, bi_int_bl, bi_abs, asgP_name, op_ite, opL_some, get_ref, set_ref, bi_len_ref, bi_tuple_ref, bi_tuple_tup, bi_list_ref, bi_list_tup, bi_sum_ref, bi_sum_tup, bi_all_ref, bi_any_ref, bi_max, bi_min, truthD_ref, trO_lst, atI_pos, ixN_pos, bi_isi, gM_cf, gM_gl, gM_fld, gM_mth, gM_opo, gM_opi, gM_opu, gM_eqo, gM_isi, gM_ist, gM_xfd, gM_xiz, gM_exm, gM_fuel, gM_hot0, gM_hot1, List.getElem?_cons_zero, List.getElem?_cons_succ, List.set_cons_zero, List.set_cons_succ, decide_eq_true_eq, Bool.true_eq_false, Bool.false_eq_true, if_true, if_false, ite_true, ite_false, reduceIte, Int.reduceLE, Int.reduceLT, Int.reduceNeg, Int.reduceToNat, Int.reduceEq, Int.reduceNe, List.length_cons, List.length_nil, Nat.reduceAdd, Nat.reduceSub, Nat.reduceLT, List.length_map, true_and, and_true, decide_true, decide_false, Bool.not_true, Bool.not_false, wss_cons, wss_nil, Int.natCast_nonneg, Int.toNat_natCast, PyProof.Rows.bitAnd_m1]
  · have g1 : ∀ o, (h ++ [o])[h.length]? = some o := fun o => by simp
    simp only [we_fold, wss_fold, wt_fold, we_non, we_bl, we_int, we_str, we_bty, we_var, we_glob, we_bin, we_un, wt_def, we_not, we_and, we_or, we_cmp, we_cmp2, we_ife, we_tup, we_lst, we_idx, we_sl, we_attr, we_call, we_make, we_meth, we_bi, we_bm, wes_nil, wes_cons, wo_none, wo_some, wi_e, wi_rng, we_lc, ws_expr, ws_ret, ws_retN, ws_pass, ws_brk, ws_cont, ws_asg, ws_sub, ws_fld, ws_aug, ws_iff, ws_for, ws_whl, ws_raise, ws_try, op_some, opD_some, br_some, binG_int, binI_add, binI_sub, binI_and, binI_or, binI_xor, binI_mod, binI_shr, cmpG_int, cmpB_lt, cmpB_le, cmpB_gt, cmpB_ge, cmpB_eq, cmpB_ne, cmpB_eqB, truthD_bl, truthD_int, truthD_non, truthD_tup, get_tup, get_rol, bi_len_tup, bi_len_rol, bi_int_int, bi_int_bl, bi_abs, asgP_name, op_ite, opL_some, get_ref, set_ref, bi_len_ref, bi_tuple_ref, bi_tuple_tup, bi_list_ref, bi_list_tup, bi_sum_ref, bi_sum_tup, bi_all_ref, bi_any_ref, bi_max, bi_min, truthD_ref, trO_lst, atI_pos, ixN_pos, bi_isi, gM_cf, gM_gl, gM_fld, gM_mth, gM_opo, gM_opi, gM_opu, gM_eqo, gM_isi, gM_ist, gM_xfd, gM_xiz, gM_exm, gM_fuel, gM_hot0, gM_hot1, List.getElem?_cons_zero, List.getElem?_cons_succ, List.set_cons_zero, List.set_cons_succ, decide_eq_true_eq, Bool.true_eq_false, Bool.false_eq_true, if_true, if_false, ite_true, ite_false, reduceIte, Int.reduceLE, Int.reduceLT, Int.reduceNeg, Int.reduceToNat, Int.reduceEq, Int.reduceNe, List.length_cons, List.length_nil, Nat.reduceAdd, Nat.reduceSub, Nat.reduceLT, List.length_map, true_and, and_true, decide_true, decide_false, Bool.not_true, Bool.not_false, wss_cons, wss_nil, g1]
    refine ⟨Keep.app _ _, ?_⟩
    simp
theorem number_of_ok (D : DrawsW T gb) (l : List Int) (hb : Bits l) (hl : l.length ≤ 100000) : (cal T gb none (k + 1) ("_law_number_of", none) [.tup (l.map .int)] h).wp (fun v h' => Kp0 h h' ∧ v = .int (numOf l)) X := by
  have hf := D.fuel
  refine cal_wp D.numof rfl ?_
  simp only [Tx.f__law_number_of, we_fold, wss_fold, wt_fold, we_non, we_bl, we_int, we_str, we_bty, we_var, we_glob, we_bin, we_un, wt_def, we_not, we_and, we_or, we_cmp, we_cmp2, we_ife, we_tup, we_lst, we_idx, we_sl, we_attr, we_call, we_make, we_meth, we_bi, we_bm, wes_nil, wes_cons, wo_none, wo_some, wi_e, wi_rng, we_lc, ws_expr, ws_ret, ws_retN, ws_pass, ws_brk, ws_cont, ws_asg, ws_sub, ws_fld, ws_aug, ws_iff, ws_for, ws_whl, ws_raise, ws_try, op_some, opD_some, br_some, binG_int, binI_add, binI_sub, binI_and, binI_or, binI_xor, binI_mod, binI_shr, cmpG_int, cmpB_lt, cmpB_le, cmpB_gt, cmpB_ge, cmpB_eq, cmpB_ne, cmpB_eqB, truthD_bl, truthD_int, truthD_non, truthD_tup, get_tup, get_rol, bi_len_tup, bi_len_rol, bi_int_int, bi_int_bl, bi_abs, asgP_name, op_ite, opL_some, get_ref, set_ref, bi_len_ref, bi_tuple_ref, bi_tuple_tup, bi_list_ref, bi_list_tup, bi_sum_ref, bi_sum_tup, bi_all_ref, bi_any_ref, bi_max, bi_min, truthD_ref, trO_lst, atI_pos, ixN_pos, bi_isi, gM_cf, gM_gl, gM_fld, gM_mth, gM_opo, gM_opi, gM_opu, gM_eqo, gM_isi, gM_ist, gM_xfd, gM_xiz, gM_exm, gM_fuel, gM_hot0, gM_hot1, List.getElem?_cons_zero, List.getElem?_cons_succ, List.set_cons_zero, List.set_cons_succ, decide_eq_true_eq, Bool.true_eq_false, Bool.false_eq_true, if_true, if_false, ite_true, ite_false, reduceIte, Int.reduceLE, Int.reduceLT, Int.reduceNeg, Int.reduceToNat, Int.reduceEq, Int.reduceNe, List.length_cons, List.length_nil, Nat.reduceAdd, Nat.reduceSub, Nat.reduceLT, List.length_map, true_and, and_true, decide_true, decide_false, Bool.not_true, Bool.not_false, wss_cons, wss_nil, List.map_cons, List.map_nil, List.replicate, List.cons_append, List.nil_append, wipeD, rngOf1 (show ((l.length : Nat) : Int) < 4611686018427387904 by omega) (show -4611686018427387904 ≤ ((l.length : Nat) : Int) by omega), Int.toNat_natCast]
  refine comp_range (f := fun i => .int (l.getD i 0 * 2 ^ i)) (by omega) (by omega) (fun i hi => ?_) ?_
  · have e : (l.map Ip.D.int)[i]? = some (.int (l.getD i 0)) := by
      rw [List.getElem?_map, List.getD_eq_getElem?_getD, List.getElem?_eq_getElem hi]; rfl
    have hb' := hb _ (List.getElem_mem hi)
    simp only [we_fold, wss_fold, wt_fold, we_non, we_bl, we_int, we_str, we_bty, we_var, we_glob, we_bin, we_un, wt_def, we_not, we_and, we_or, we_cmp, we_cmp2, we_ife, we_tup, we_lst, we_idx, we_sl, we_attr, we_call, we_make, we_meth, we_bi, we_bm, wes_nil, wes_cons, wo_none, wo_some, wi_e, wi_rng, we_lc, ws_expr, ws_ret, ws_retN, ws_pass, ws_brk, ws_cont, ws_asg, ws_sub, ws_fld, ws_aug, ws_iff, ws_for, ws_whl, ws_raise, ws_try, op_some, opD_some, br_some, binG_int, binI_add, binI_sub, binI_and, binI_or, binI_xor, binI_mod, binI_shr, cmpG_int, cmpB_lt, cmpB_le, cmpB_gt, cmpB_ge, cmpB_eq, cmpB_ne, cmpB_eqB, truthD_bl, truthD_int, truthD_non, truthD_tup, get_tup, get_rol, bi_len_tup, bi_len_rol, bi_int_int, bi_int_bl, bi_abs, asgP_name, op_ite, opL_some, get_ref, set_ref, bi_len_ref, bi_tuple_ref, bi_tuple_tup, bi_list_ref, bi_list_tup, bi_sum_ref, bi_sum_tup, bi_all_ref, bi_any_ref, bi_max, bi_min, truthD_ref, trO_lst, atI_pos, ixN_pos, bi_isi, gM_cf, gM_gl, gM_fld, gM_mth, gM_opo, gM_opi, gM_opu, gM_eqo, gM_isi, gM_ist, gM_xfd, gM_xiz, gM_exm, gM_fuel, gM_hot0, gM_hot1, List.getElem?_cons_zero, List.getElem?_cons_succ, List.set_cons_zero, List.set_cons_succ, decide_eq_true_eq, Bool.true_eq_false, Bool.false_eq_true, if_true, if_false, ite_true, ite_false, reduceIte, Int.reduceLE, Int.reduceLT, Int.reduceNeg, Int.reduceToNat, Int.reduceEq, Int.reduceNe, List.length_cons, List.length_nil, Nat.reduceAdd, Nat.reduceSub, Nat.reduceLT, List.length_map, true_and, and_true, decide_true, decide_false, Bool.not_true, Bool.not_false, wss_cons, wss_nil, Int.natCast_nonneg, Int.toNat_natCast, e]
    have e3 : l.getD i 0 = l[i] := by rw [List.getD_eq_getElem?_getD, List.getElem?_eq_getElem hi]; rfl
    rw [e3]
    rw [binI_shl (n := 1) (by omega) (by rcases hb' with z | z <;> rw [z] <;> decide) (by omega)]
    simp only [op_some, Int.toNat_natCast]
  · have g1 : ∀ o, (h ++ [o])[h.length]? = some o := fun o => by simp
    have e2 : intsD ((List.range l.length).map fun i => Ip.D.int (l.getD i 0 * 2 ^ i)) = some ((List.range l.length).map fun i => l.getD i 0 * 2 ^ i) := by
      have := intsD_map (ns := (List.range l.length).map fun i => l.getD i 0 * 2 ^ i)
      rw [List.map_map] at this
      exact this
    simp only [we_fold, wss_fold, wt_fold, we_non, we_bl, we_int, we_str, we_bty, we_var, we_glob, we_bin, we_un, wt_def, we_not, we_and, we_or, we_cmp, we_cmp2, we_ife, we_tup, we_lst, we_idx, we_sl, we_attr, we_call, we_make, we_meth, we_bi, we_bm, wes_nil, wes_cons, wo_none, wo_some, wi_e, wi_rng, we_lc, ws_expr, ws_ret, ws_retN, ws_pass, ws_brk, ws_cont, ws_asg, ws_sub, ws_fld, ws_aug, ws_iff, ws_for, ws_whl, ws_raise, ws_try, op_some, opD_some, br_some, binG_int, binI_add, binI_sub, binI_and, binI_or, binI_xor, binI_mod, binI_shr, cmpG_int, cmpB_lt, cmpB_le, cmpB_gt, cmpB_ge, cmpB_eq, cmpB_ne, cmpB_eqB, truthD_bl, truthD_int, truthD_non, truthD_tup, get_tup, get_rol, bi_len_tup, bi_len_rol, bi_int_int, bi_int_bl, bi_abs, asgP_name, op_ite, opL_some, get_ref, set_ref, bi_len_ref, bi_tuple_ref, bi_tuple_tup, bi_list_ref, bi_list_tup, bi_sum_ref, bi_sum_tup, bi_all_ref, bi_any_ref, bi_max, bi_min, truthD_ref, trO_lst, atI_pos, ixN_pos, bi_isi, gM_cf, gM_gl, gM_fld, gM_mth, gM_opo, gM_opi, gM_opu, gM_eqo, gM_isi, gM_ist, gM_xfd, gM_xiz, gM_exm, gM_fuel, gM_hot0, gM_hot1, List.getElem?_cons_zero, List.getElem?_cons_succ, List.set_cons_zero, List.set_cons_succ, decide_eq_true_eq, Bool.true_eq_false, Bool.false_eq_true, if_true, if_false, ite_true, ite_false, reduceIte, Int.reduceLE, Int.reduceLT, Int.reduceNeg, Int.reduceToNat, Int.reduceEq, Int.reduceNe, List.length_cons, List.length_nil, Nat.reduceAdd, Nat.reduceSub, Nat.reduceLT, List.length_map, true_and, and_true, decide_true, decide_false, Bool.not_true, Bool.not_false, wss_cons, wss_nil, g1, e2]
    exact ⟨Keep.app _ _, by rw [numOf_sum _ fun i hi => rfl]⟩
theorem bits_range {c : Nat} {n : Int} : Bits ((List.range c).map fun (i : Nat) => n / 2 ^ i % 2) := by
  intro b hb
  obtain ⟨i, _, rfl⟩ := List.mem_map.mp hb
  omega
theorem row_ok (D : DrawsW T gb) (st : Sto h s) (c : Int) (h0 : 0 ≤ c) (hc : c ≤ 12) : (cal T gb none (k + 3) ("_law_row", none) [.ref s.1, .int c] h).wp (fun v h' => Fr s h h' ∧ ∃ l, v = .tup (l.map .int) ∧ Bits l ∧ (l.length : Int) = c) X := by
  have hf := D.fuel
  refine cal_wp D.row rfl ?_
  simp only [Tx.f__law_row, we_fold, wss_fold, wt_fold, we_non, we_bl, we_int, we_str, we_bty, we_var, we_glob, we_bin, we_un, wt_def, we_not, we_and, we_or, we_cmp, we_cmp2, we_ife, we_tup, we_lst, we_idx, we_sl, we_attr, we_call, we_make, we_meth, we_bi, we_bm, wes_nil, wes_cons, wo_none, wo_some, wi_e, wi_rng, we_lc, ws_expr, ws_ret, ws_retN, ws_pass, ws_brk, ws_cont, ws_asg, ws_sub, ws_fld, ws_aug, ws_iff, ws_for, ws_whl, ws_raise, ws_try, op_some, opD_some, br_some, binG_int, binI_add, binI_sub, binI_and, binI_or, binI_xor, binI_mod, binI_shr, cmpG_int, cmpB_lt, cmpB_le, cmpB_gt, cmpB_ge, cmpB_eq, cmpB_ne, cmpB_eqB, truthD_bl, truthD_int, truthD_non, truthD_tup, get_tup, get_rol, bi_len_tup, bi_len_rol, bi_int_int, bi_int_bl, bi_abs, asgP_name, op_ite, opL_some, get_ref, set_ref, bi_len_ref, bi_tuple_ref, bi_tuple_tup, bi_list_ref, bi_list_tup, bi_sum_ref, bi_sum_tup, bi_all_ref, bi_any_ref, bi_max, bi_min, truthD_ref, trO_lst, atI_pos, ixN_pos, bi_isi, gM_cf, gM_gl, gM_fld, gM_mth, gM_opo, gM_opi, gM_opu, gM_eqo, gM_isi, gM_ist, gM_xfd, gM_xiz, gM_exm, gM_fuel, gM_hot0, gM_hot1, List.getElem?_cons_zero, List.getElem?_cons_succ, List.set_cons_zero, List.set_cons_succ, decide_eq_true_eq, Bool.true_eq_false, Bool.false_eq_true, if_true, if_false, ite_true, ite_false, reduceIte, Int.reduceLE, Int.reduceLT, Int.reduceNeg, Int.reduceToNat, Int.reduceEq, Int.reduceNe, List.length_cons, List.length_nil, Nat.reduceAdd, Nat.reduceSub, Nat.reduceLT, List.length_map, true_and, and_true, decide_true, decide_false, Bool.not_true, Bool.not_false, wss_cons, wss_nil, List.map_cons, List.map_nil, List.replicate, List.cons_append, List.nil_append]
  refine (take_ok D.toDraws st _ (by omega)).imp fun v h1 ⟨f1, i, e, i0, i1⟩ => ?_
  subst e
  by_cases a1 : i < 2
  · simp only [we_fold, wss_fold, wt_fold, we_non, we_bl, we_int, we_str, we_bty, we_var, we_glob, we_bin, we_un, wt_def, we_not, we_and, we_or, we_cmp, we_cmp2, we_ife, we_tup, we_lst, we_idx, we_sl, we_attr, we_call, we_make, we_meth, we_bi, we_bm, wes_nil, wes_cons, wo_none, wo_some, wi_e, wi_rng, we_lc, ws_expr, ws_ret, ws_retN, ws_pass, ws_brk, ws_cont, ws_asg, ws_sub, ws_fld, ws_aug, ws_iff, ws_for, ws_whl, ws_raise, ws_try, op_some, opD_some, br_some, binG_int, binI_add, binI_sub, binI_and, binI_or, binI_xor, binI_mod, binI_shr, cmpG_int, cmpB_lt, cmpB_le, cmpB_gt, cmpB_ge, cmpB_eq, cmpB_ne, cmpB_eqB, truthD_bl, truthD_int, truthD_non, truthD_tup, get_tup, get_rol, bi_len_tup, bi_len_rol, bi_int_int, bi_int_bl, bi_abs, asgP_name, op_ite, opL_some, get_ref, set_ref, bi_len_ref, bi_tuple_ref, bi_tuple_tup, bi_list_ref, bi_list_tup, bi_sum_ref, bi_sum_tup, bi_all_ref, bi_any_ref, bi_max, bi_min, truthD_ref, trO_lst, atI_pos, ixN_pos, bi_isi, gM_cf, gM_gl, gM_fld, gM_mth, gM_opo, gM_opi, gM_opu, gM_eqo, gM_isi, gM_ist, gM_xfd, gM_xiz, gM_exm, gM_fuel, gM_hot0, gM_hot1, List.getElem?_cons_zero, List.getElem?_cons_succ, List.set_cons_zero, List.set_cons_succ, decide_eq_true_eq, Bool.true_eq_false, Bool.false_eq_true, if_true, if_false, ite_true, ite_false, reduceIte, Int.reduceLE, Int.reduceLT, Int.reduceNeg, Int.reduceToNat, Int.reduceEq, Int.reduceNe, List.length_cons, List.length_nil, Nat.reduceAdd, Nat.reduceSub, Nat.reduceLT, List.length_map, true_and, and_true, decide_true, decide_false, Bool.not_true, Bool.not_false, wss_cons, wss_nil, a1, wipeD, rngOf1 (show c < 4611686018427387904 by omega) (show -4611686018427387904 ≤ c by omega)]
    refine comp_range (f := fun _ => .int i) (by omega) (by omega) (fun j hj => ?_) ?_
    · simp only [we_fold, wss_fold, wt_fold, we_non, we_bl, we_int, we_str, we_bty, we_var, we_glob, we_bin, we_un, wt_def, we_not, we_and, we_or, we_cmp, we_cmp2, we_ife, we_tup, we_lst, we_idx, we_sl, we_attr, we_call, we_make, we_meth, we_bi, we_bm, wes_nil, wes_cons, wo_none, wo_some, wi_e, wi_rng, we_lc, ws_expr, ws_ret, ws_retN, ws_pass, ws_brk, ws_cont, ws_asg, ws_sub, ws_fld, ws_aug, ws_iff, ws_for, ws_whl, ws_raise, ws_try, op_some, opD_some, br_some, binG_int, binI_add, binI_sub, binI_and, binI_or, binI_xor, binI_mod, binI_shr, cmpG_int, cmpB_lt, cmpB_le, cmpB_gt, cmpB_ge, cmpB_eq, cmpB_ne, cmpB_eqB, truthD_bl, truthD_int, truthD_non, truthD_tup, get_tup, get_rol, bi_len_tup, bi_len_rol, bi_int_int, bi_int_bl, bi_abs, asgP_name, op_ite, opL_some, get_ref, set_ref, bi_len_ref, bi_tuple_ref, bi_tuple_tup, bi_list_ref, bi_list_tup, bi_sum_ref, bi_sum_tup, bi_all_ref, bi_any_ref, bi_max, bi_min, truthD_ref, trO_lst, atI_pos, ixN_pos, bi_isi, gM_cf, gM_gl, gM_fld, gM_mth, gM_opo, gM_opi, gM_opu, gM_eqo, gM_isi, gM_ist, gM_xfd, gM_xiz, gM_exm, gM_fuel, gM_hot0, gM_hot1, List.getElem?_cons_zero, List.getElem?_cons_succ, List.set_cons_zero, List.set_cons_succ, decide_eq_true_eq, Bool.true_eq_false, Bool.false_eq_true, if_true, if_false, ite_true, ite_false, reduceIte, Int.reduceLE, Int.reduceLT, Int.reduceNeg, Int.reduceToNat, Int.reduceEq, Int.reduceNe, List.length_cons, List.length_nil, Nat.reduceAdd, Nat.reduceSub, Nat.reduceLT, List.length_map, true_and, and_true, decide_true, decide_false, Bool.not_true, Bool.not_false, wss_cons, wss_nil]
    · simp only [we_fold, wss_fold, wt_fold, we_non, we_bl, we_int, we_str, we_bty, we_var, we_glob, we_bin, we_un, wt_def, we_not, we_and, we_or, we_cmp, we_cmp2, we_ife, we_tup, we_lst, we_idx, we_sl, we_attr, we_call, we_make, we_meth, we_bi, we_bm, wes_nil, wes_cons, wo_none, wo_some, wi_e, wi_rng, we_lc, ws_expr, ws_ret, ws_retN, ws_pass, ws_brk, ws_cont, ws_asg, ws_sub, ws_fld, ws_aug, ws_iff, ws_for, ws_whl, ws_raise, ws_try, op_some, opD_some, br_some, binG_int, binI_add, binI_sub, binI_and, binI_or, binI_xor, binI_mod, binI_shr, cmpG_int, cmpB_lt, cmpB_le, cmpB_gt, cmpB_ge, cmpB_eq, cmpB_ne, cmpB_eqB, truthD_bl, truthD_int, truthD_non, truthD_tup, get_tup, get_rol, bi_len_tup, bi_len_rol, bi_int_int, bi_int_bl, bi_abs, asgP_name, op_ite, opL_some, get_ref, set_ref, bi_len_ref, bi_tuple_ref, bi_tuple_tup, bi_list_ref, bi_list_tup, bi_sum_ref, bi_sum_tup, bi_all_ref, bi_any_ref, bi_max, bi_min, truthD_ref, trO_lst, atI_pos, ixN_pos, bi_isi, gM_cf, gM_gl, gM_fld, gM_mth, gM_opo, gM_opi, gM_opu, gM_eqo, gM_isi, gM_ist, gM_xfd, gM_xiz, gM_exm, gM_fuel, gM_hot0, gM_hot1, List.getElem?_cons_zero, List.getElem?_cons_succ, List.set_cons_zero, List.set_cons_succ, decide_eq_true_eq, Bool.true_eq_false, Bool.false_eq_true, if_true, if_false, ite_true, ite_false, reduceIte, Int.reduceLE, Int.reduceLT, Int.reduceNeg, Int.reduceToNat, Int.reduceEq, Int.reduceNe, List.length_cons, List.length_nil, Nat.reduceAdd, Nat.reduceSub, Nat.reduceLT, List.length_map, true_and, and_true, decide_true, decide_false, Bool.not_true, Bool.not_false, wss_cons, wss_nil, app_at]
      refine ⟨f1.trans (f1.st.fr (Keep.app _ _)), List.replicate c.toNat i, ?_, fun b hb => ?_, by simp; omega⟩
      · congr 1
        apply List.ext_getElem <;> simp
      · rw [(List.mem_replicate.mp hb).2]; omega
  · have p1 : (2 : Int) ^ c.toNat < 18446744073709551616 := by
      have : (2 : Int) ^ c.toNat ≤ 2 ^ 12 := pow_le2 (by omega)
      have e : (2 : Int) ^ 12 = 4096 := by decide
      omega
    simp only [we_fold, wss_fold, wt_fold, we_non, we_bl, we_int, we_str, we_bty, we_var, we_glob, we_bin, we_un, wt_def, we_not, we_and, we_or, we_cmp, we_cmp2, we_ife, we_tup, we_lst, we_idx, we_sl, we_attr, we_call, we_make, we_meth, we_bi, we_bm, wes_nil, wes_cons, wo_none, wo_some, wi_e, wi_rng, we_lc, ws_expr, ws_ret, ws_retN, ws_pass, ws_brk, ws_cont, ws_asg, ws_sub, ws_fld, ws_aug, ws_iff, ws_for, ws_whl, ws_raise, ws_try, op_some, opD_some, br_some, binG_int, binI_add, binI_sub, binI_and, binI_or, binI_xor, binI_mod, binI_shr, cmpG_int, cmpB_lt, cmpB_le, cmpB_gt, cmpB_ge, cmpB_eq, cmpB_ne, cmpB_eqB, truthD_bl, truthD_int, truthD_non, truthD_tup, get_tup, get_rol, bi_len_tup, bi_len_rol, bi_int_int, bi_int_bl, bi_abs, asgP_name, op_ite, opL_some, get_ref, set_ref, bi_len_ref, bi_tuple_ref, bi_tuple_tup, bi_list_ref, bi_list_tup, bi_sum_ref, bi_sum_tup, bi_all_ref, bi_any_ref, bi_max, bi_min, truthD_ref, trO_lst, atI_pos, ixN_pos, bi_isi, gM_cf, gM_gl, gM_fld, gM_mth, gM_opo, gM_opi, gM_opu, gM_eqo, gM_isi, gM_ist, gM_xfd, gM_xiz, gM_exm, gM_fuel, gM_hot0, gM_hot1, List.getElem?_cons_zero, List.getElem?_cons_succ, List.set_cons_zero, List.set_cons_succ, decide_eq_true_eq, Bool.true_eq_false, Bool.false_eq_true, if_true, if_false, ite_true, ite_false, reduceIte, Int.reduceLE, Int.reduceLT, Int.reduceNeg, Int.reduceToNat, Int.reduceEq, Int.reduceNe, List.length_cons, List.length_nil, Nat.reduceAdd, Nat.reduceSub, Nat.reduceLT, List.length_map, true_and, and_true, decide_true, decide_false, Bool.not_true, Bool.not_false, wss_cons, wss_nil, a1, binI_shl1 h0 (show c ≤ 100000000 by omega)]
    refine (take_ok D.toDraws f1.st _ p1).imp fun v h2 ⟨f2, j, e, j0, j1⟩ => ?_
    subst e
    refine (row_of_ok D j c h0 (by omega)).imp fun v h3 ⟨f3, e⟩ => ?_
    subst e
    exact ⟨(f1.trans f2).trans (f2.st.fr f3), _, rfl, bits_range, by simp; omega⟩
theorem int_len {l : List Int} {c : Int} (h : (l.length : Int) = c) : l.length = c.toNat := by omega
theorem long_row_ok (D : DrawsW T gb) (st : Sto h s) (c : Int) (h0 : 0 ≤ c) (hc : c ≤ 400) : (cal T gb none (k + 4) ("_law_long_row", none) [.ref s.1, .int c] h).wp (fun v h' => Fr s h h' ∧ ∃ l, v = .tup (l.map .int) ∧ Bits l ∧ (l.length : Int) = c) X := by
  have hf := D.fuel
  refine cal_wp D.lrow rfl ?_
  simp only [Tx.f__law_long_row, we_fold, wss_fold, wt_fold, we_non, we_bl, we_int, we_str, we_bty, we_var, we_glob, we_bin, we_un, wt_def, we_not, we_and, we_or, we_cmp, we_cmp2, we_ife, we_tup, we_lst, we_idx, we_sl, we_attr, we_call, we_make, we_meth, we_bi, we_bm, wes_nil, wes_cons, wo_none, wo_some, wi_e, wi_rng, we_lc, ws_expr, ws_ret, ws_retN, ws_pass, ws_brk, ws_cont, ws_asg, ws_sub, ws_fld, ws_aug, ws_iff, ws_for, ws_whl, ws_raise, ws_try, op_some, opD_some, br_some, binG_int, binI_add, binI_sub, binI_and, binI_or, binI_xor, binI_mod, binI_shr, cmpG_int, cmpB_lt, cmpB_le, cmpB_gt, cmpB_ge, cmpB_eq, cmpB_ne, cmpB_eqB, truthD_bl, truthD_int, truthD_non, truthD_tup, get_tup, get_rol, bi_len_tup, bi_len_rol, bi_int_int, bi_int_bl, bi_abs, asgP_name, op_ite, opL_some, get_ref, set_ref, bi_len_ref, bi_tuple_ref, bi_tuple_tup, bi_list_ref, bi_list_tup, bi_sum_ref, bi_sum_tup, bi_all_ref, bi_any_ref, bi_max, bi_min, truthD_ref, trO_lst, atI_pos, ixN_pos, bi_isi, gM_cf, gM_gl, gM_fld, gM_mth, gM_opo, gM_opi, gM_opu, gM_eqo, gM_isi, gM_ist, gM_xfd, gM_xiz, gM_exm, gM_fuel, gM_hot0, gM_hot1, List.getElem?_cons_zero, List.getElem?_cons_succ, List.set_cons_zero, List.set_cons_succ, decide_eq_true_eq, Bool.true_eq_false, Bool.false_eq_true, if_true, if_false, ite_true, ite_false, reduceIte, Int.reduceLE, Int.reduceLT, Int.reduceNeg, Int.reduceToNat, Int.reduceEq, Int.reduceNe, List.length_cons, List.length_nil, Nat.reduceAdd, Nat.reduceSub, Nat.reduceLT, List.length_map, true_and, and_true, decide_true, decide_false, Bool.not_true, Bool.not_false, wss_cons, wss_nil, List.map_cons, List.map_nil, List.replicate, List.cons_append, List.nil_append]
  refine (take_ok D.toDraws st _ (by omega)).imp fun v h1 ⟨f1, i, e, i0, i1⟩ => ?_
  subst e
  simp only [we_fold, wss_fold, wt_fold, we_non, we_bl, we_int, we_str, we_bty, we_var, we_glob, we_bin, we_un, wt_def, we_not, we_and, we_or, we_cmp, we_cmp2, we_ife, we_tup, we_lst, we_idx, we_sl, we_attr, we_call, we_make, we_meth, we_bi, we_bm, wes_nil, wes_cons, wo_none, wo_some, wi_e, wi_rng, we_lc, ws_expr, ws_ret, ws_retN, ws_pass, ws_brk, ws_cont, ws_asg, ws_sub, ws_fld, ws_aug, ws_iff, ws_for, ws_whl, ws_raise, ws_try, op_some, opD_some, br_some, binG_int, binI_add, binI_sub, binI_and, binI_or, binI_xor, binI_mod, binI_shr, cmpG_int, cmpB_lt, cmpB_le, cmpB_gt, cmpB_ge, cmpB_eq, cmpB_ne, cmpB_eqB, truthD_bl, truthD_int, truthD_non, truthD_tup, get_tup, get_rol, bi_len_tup, bi_len_rol, bi_int_int, bi_int_bl, bi_abs, asgP_name, op_ite, opL_some, get_ref, set_ref, bi_len_ref, bi_tuple_ref, bi_tuple_tup, bi_list_ref, bi_list_tup, bi_sum_ref, bi_sum_tup, bi_all_ref, bi_any_ref, bi_max, bi_min, truthD_ref, trO_lst, atI_pos, ixN_pos, bi_isi, gM_cf, gM_gl, gM_fld, gM_mth, gM_opo, gM_opi, gM_opu, gM_eqo, gM_isi, gM_ist, gM_xfd, gM_xiz, gM_exm, gM_fuel, gM_hot0, gM_hot1, List.getElem?_cons_zero, List.getElem?_cons_succ, List.set_cons_zero, List.set_cons_succ, decide_eq_true_eq, Bool.true_eq_false, Bool.false_eq_true, if_true, if_false, ite_true, ite_false, reduceIte, Int.reduceLE, Int.reduceLT, Int.reduceNeg, Int.reduceToNat, Int.reduceEq, Int.reduceNe, List.length_cons, List.length_nil, Nat.reduceAdd, Nat.reduceSub, Nat.reduceLT, List.length_map, true_and, and_true, decide_true, decide_false, Bool.not_true, Bool.not_false, wss_cons, wss_nil]
  refine (row_ok D f1.st _ (by omega) (by omega)).imp fun v h2 ⟨f2, p, e, pb, pl⟩ => ?_
  subst e
  have pl' : 0 < p.length := by omega
  simp only [we_fold, wss_fold, wt_fold, we_non, we_bl, we_int, we_str, we_bty, we_var, we_glob, we_bin, we_un, wt_def, we_not, we_and, we_or, we_cmp, we_cmp2, we_ife, we_tup, we_lst, we_idx, we_sl, we_attr, we_call, we_make, we_meth, we_bi, we_bm, wes_nil, wes_cons, wo_none, wo_some, wi_e, wi_rng, we_lc, ws_expr, ws_ret, ws_retN, ws_pass, ws_brk, ws_cont, ws_asg, ws_sub, ws_fld, ws_aug, ws_iff, ws_for, ws_whl, ws_raise, ws_try, op_some, opD_some, br_some, binG_int, binI_add, binI_sub, binI_and, binI_or, binI_xor, binI_mod, binI_shr, cmpG_int, cmpB_lt, cmpB_le, cmpB_gt, cmpB_ge, cmpB_eq, cmpB_ne, cmpB_eqB, truthD_bl, truthD_int, truthD_non, truthD_tup, get_tup, get_rol, bi_len_tup, bi_len_rol, bi_int_int, bi_int_bl, bi_abs, asgP_name, op_ite, opL_some, get_ref, set_ref, bi_len_ref, bi_tuple_ref, bi_tuple_tup, bi_list_ref, bi_list_tup, bi_sum_ref, bi_sum_tup, bi_all_ref, bi_any_ref, bi_max, bi_min, truthD_ref, trO_lst, atI_pos, ixN_pos, bi_isi, gM_cf, gM_gl, gM_fld, gM_mth, gM_opo, gM_opi, gM_opu, gM_eqo, gM_isi, gM_ist, gM_xfd, gM_xiz, gM_exm, gM_fuel, gM_hot0, gM_hot1, List.getElem?_cons_zero, List.getElem?_cons_succ, List.set_cons_zero, List.set_cons_succ, decide_eq_true_eq, Bool.true_eq_false, Bool.false_eq_true, if_true, if_false, ite_true, ite_false, reduceIte, Int.reduceLE, Int.reduceLT, Int.reduceNeg, Int.reduceToNat, Int.reduceEq, Int.reduceNe, List.length_cons, List.length_nil, Nat.reduceAdd, Nat.reduceSub, Nat.reduceLT, List.length_map, true_and, and_true, decide_true, decide_false, Bool.not_true, Bool.not_false, wss_cons, wss_nil, wipeD, rngOf1 (show c < 4611686018427387904 by omega) (show -4611686018427387904 ≤ c by omega)]
  refine comp_range (f := fun j => .int (p.getD (j % p.length) 0)) (by omega) (by omega) (fun j hj => ?_) ?_
  · have e1 : ((j : Int) % (p.length : Int)) = ((j % p.length : Nat) : Int) := by simp
    have hm : j % p.length < p.length := Nat.mod_lt _ pl'
    have e2 : (p.map Ip.D.int)[j % p.length]? = some (.int (p.getD (j % p.length) 0)) := by
      rw [List.getElem?_map, List.getD_eq_getElem?_getD, List.getElem?_eq_getElem hm]; rfl
    simp only [we_fold, wss_fold, wt_fold, we_non, we_bl, we_int, we_str, we_bty, we_var, we_glob, we_bin, we_un, wt_def, we_not, we_and, we_or, we_cmp, we_cmp2, we_ife, we_tup, we_lst, we_idx, we_sl, we_attr, we_call, we_make, we_meth, we_bi, we_bm, wes_nil, wes_cons, wo_none, wo_some, wi_e, wi_rng, we_lc, ws_expr, ws_ret, ws_retN, ws_pass, ws_brk, ws_cont, ws_asg, ws_sub, ws_fld, ws_aug, ws_iff, ws_for, ws_whl, ws_raise, ws_try, op_some, opD_some, br_some, binG_int, binI_add, binI_sub, binI_and, binI_or, binI_xor, binI_mod, binI_shr, cmpG_int, cmpB_lt, cmpB_le, cmpB_gt, cmpB_ge, cmpB_eq, cmpB_ne, cmpB_eqB, truthD_bl, truthD_int, truthD_non, truthD_tup, get_tup, get_rol, bi_len_tup, bi_len_rol, bi_int_int, bi_int_bl, bi_abs, asgP_name, op_ite, opL_some, get_ref, set_ref, bi_len_ref, bi_tuple_ref, bi_tuple_tup, bi_list_ref, bi_list_tup, bi_sum_ref, bi_sum_tup, bi_all_ref, bi_any_ref, bi_max, bi_min, truthD_ref, trO_lst, atI_pos, ixN_pos, bi_isi, gM_cf, gM_gl, gM_fld, gM_mth, gM_opo, gM_opi, gM_opu, gM_eqo, gM_isi, gM_ist, gM_xfd, gM_xiz, gM_exm, gM_fuel, gM_hot0, gM_hot1, List.getElem?_cons_zero, List.getElem?_cons_succ, List.set_cons_zero, List.set_cons_succ, decide_eq_true_eq, Bool.true_eq_false, Bool.false_eq_true, if_true, if_false, ite_true, ite_false, reduceIte, Int.reduceLE, Int.reduceLT, Int.reduceNeg, Int.reduceToNat, Int.reduceEq, Int.reduceNe, List.length_cons, List.length_nil, Nat.reduceAdd, Nat.reduceSub, Nat.reduceLT, List.length_map, true_and, and_true, decide_true, decide_false, Bool.not_true, Bool.not_false, wss_cons, wss_nil, e1, Int.natCast_nonneg, Int.toNat_natCast, e2]
    omega
  · have lb : Bits ((List.range c.toNat).map fun j => p.getD (j % p.length) 0) := by
      intro b hb
      obtain ⟨j, _, rfl⟩ := List.mem_map.mp hb
      have hm : j % p.length < p.length := Nat.mod_lt _ pl'
      rw [List.getD_eq_getElem?_getD, List.getElem?_eq_getElem hm]
      exact pb _ (List.getElem_mem hm)
    have ll : (((List.range c.toNat).map fun j => p.getD (j % p.length) 0).length : Int) = c := by simp; omega
    have e0 : (List.range c.toNat).map (fun j => Ip.D.int (p.getD (j % p.length) 0)) = ((List.range c.toNat).map fun j => p.getD (j % p.length) 0).map .int := by rw [List.map_map]; rfl
    rw [e0]
    generalize hL : (List.range c.toNat).map (fun j => p.getD (j % p.length) 0) = L at *
    have f12 := f1.trans f2
    have f3 : Fr s h2 (h2 ++ [O.lst (L.map .int)]) := f2.st.fr (Keep.app _ _)
    have hs := f2.st.lt
    by_cases a1 : 0 < c
    · simp only [we_fold, wss_fold, wt_fold, we_non, we_bl, we_int, we_str, we_bty, we_var, we_glob, we_bin, we_un, wt_def, we_not, we_and, we_or, we_cmp, we_cmp2, we_ife, we_tup, we_lst, we_idx, we_sl, we_attr, we_call, we_make, we_meth, we_bi, we_bm, wes_nil, wes_cons, wo_none, wo_some, wi_e, wi_rng, we_lc, ws_expr, ws_ret, ws_retN, ws_pass, ws_brk, ws_cont, ws_asg, ws_sub, ws_fld, ws_aug, ws_iff, ws_for, ws_whl, ws_raise, ws_try, op_some, opD_some, br_some, binG_int, binI_add, binI_sub, binI_and, binI_or, binI_xor, binI_mod, binI_shr, cmpG_int, cmpB_lt, cmpB_le, cmpB_gt, cmpB_ge, cmpB_eq, cmpB_ne, cmpB_eqB, truthD_bl, truthD_int, truthD_non, truthD_tup, get_tup, get_rol, bi_len_tup, bi_len_rol, bi_int_int, bi_int_bl, bi_abs, asgP_name, op_ite, opL_some, get_ref, set_ref, bi_len_ref, bi_tuple_ref, bi_tuple_tup, bi_list_ref, bi_list_tup, bi_sum_ref, bi_sum_tup, bi_all_ref, bi_any_ref, bi_max, bi_min, truthD_ref, trO_lst, atI_pos, ixN_pos, bi_isi, gM_cf, gM_gl, gM_fld, gM_mth, gM_opo, gM_opi, gM_opu, gM_eqo, gM_isi, gM_ist, gM_xfd, gM_xiz, gM_exm, gM_fuel, gM_hot0, gM_hot1, List.getElem?_cons_zero, List.getElem?_cons_succ, List.set_cons_zero, List.set_cons_succ, decide_eq_true_eq, Bool.true_eq_false, Bool.false_eq_true, if_true, if_false, ite_true, ite_false, reduceIte, Int.reduceLE, Int.reduceLT, Int.reduceNeg, Int.reduceToNat, Int.reduceEq, Int.reduceNe, List.length_cons, List.length_nil, Nat.reduceAdd, Nat.reduceSub, Nat.reduceLT, List.length_map, true_and, and_true, decide_true, decide_false, Bool.not_true, Bool.not_false, wss_cons, wss_nil, a1]
      refine (chance_ok D.toDraws f3.st _ (by omega)).imp fun v h3 ⟨f4, b, e⟩ => ?_
      subst e
      have k3 := f4.kp.at_ h2.length _ (app_at _ _) (by omega)
      cases b with
      | false =>
        simp only [we_fold, wss_fold, wt_fold, we_non, we_bl, we_int, we_str, we_bty, we_var, we_glob, we_bin, we_un, wt_def, we_not, we_and, we_or, we_cmp, we_cmp2, we_ife, we_tup, we_lst, we_idx, we_sl, we_attr, we_call, we_make, we_meth, we_bi, we_bm, wes_nil, wes_cons, wo_none, wo_some, wi_e, wi_rng, we_lc, ws_expr, ws_ret, ws_retN, ws_pass, ws_brk, ws_cont, ws_asg, ws_sub, ws_fld, ws_aug, ws_iff, ws_for, ws_whl, ws_raise, ws_try, op_some, opD_some, br_some, binG_int, binI_add, binI_sub, binI_and, binI_or, binI_xor, binI_mod, binI_shr, cmpG_int, cmpB_lt, cmpB_le, cmpB_gt, cmpB_ge, cmpB_eq, cmpB_ne, cmpB_eqB, truthD_bl, truthD_int, truthD_non, truthD_tup, get_tup, get_rol, bi_len_tup, bi_len_rol, bi_int_int, bi_int_bl, bi_abs, asgP_name, op_ite, opL_some, get_ref, set_ref, bi_len_ref, bi_tuple_ref, bi_tuple_tup, bi_list_ref, bi_list_tup, bi_sum_ref, bi_sum_tup, bi_all_ref, bi_any_ref, bi_max, bi_min, truthD_ref, trO_lst, atI_pos, ixN_pos, bi_isi, gM_cf, gM_gl, gM_fld, gM_mth, gM_opo, gM_opi, gM_opu, gM_eqo, gM_isi, gM_ist, gM_xfd, gM_xiz, gM_exm, gM_fuel, gM_hot0, gM_hot1, List.getElem?_cons_zero, List.getElem?_cons_succ, List.set_cons_zero, List.set_cons_succ, decide_eq_true_eq, Bool.true_eq_false, Bool.false_eq_true, if_true, if_false, ite_true, ite_false, reduceIte, Int.reduceLE, Int.reduceLT, Int.reduceNeg, Int.reduceToNat, Int.reduceEq, Int.reduceNe, List.length_cons, List.length_nil, Nat.reduceAdd, Nat.reduceSub, Nat.reduceLT, List.length_map, true_and, and_true, decide_true, decide_false, Bool.not_true, Bool.not_false, wss_cons, wss_nil, k3]
        exact ⟨(f12.trans f3).trans f4, L, rfl, lb, ll⟩
      | true =>
        simp only [we_fold, wss_fold, wt_fold, we_non, we_bl, we_int, we_str, we_bty, we_var, we_glob, we_bin, we_un, wt_def, we_not, we_and, we_or, we_cmp, we_cmp2, we_ife, we_tup, we_lst, we_idx, we_sl, we_attr, we_call, we_make, we_meth, we_bi, we_bm, wes_nil, wes_cons, wo_none, wo_some, wi_e, wi_rng, we_lc, ws_expr, ws_ret, ws_retN, ws_pass, ws_brk, ws_cont, ws_asg, ws_sub, ws_fld, ws_aug, ws_iff, ws_for, ws_whl, ws_raise, ws_try, op_some, opD_some, br_some, binG_int, binI_add, binI_sub, binI_and, binI_or, binI_xor, binI_mod, binI_shr, cmpG_int, cmpB_lt, cmpB_le, cmpB_gt, cmpB_ge, cmpB_eq, cmpB_ne, cmpB_eqB, truthD_bl, truthD_int, truthD_non, truthD_tup, get_tup, get_rol, bi_len_tup, bi_len_rol, bi_int_int, bi_int_bl, bi_abs, asgP_name, op_ite, opL_some, get_ref, set_ref, bi_len_ref, bi_tuple_ref, bi_tuple_tup, bi_list_ref, bi_list_tup, bi_sum_ref, bi_sum_tup, bi_all_ref, bi_any_ref, bi_max, bi_min, truthD_ref, trO_lst, atI_pos, ixN_pos, bi_isi, gM_cf, gM_gl, gM_fld, gM_mth, gM_opo, gM_opi, gM_opu, gM_eqo, gM_isi, gM_ist, gM_xfd, gM_xiz, gM_exm, gM_fuel, gM_hot0, gM_hot1, List.getElem?_cons_zero, List.getElem?_cons_succ, List.set_cons_zero, List.set_cons_succ, decide_eq_true_eq, Bool.true_eq_false, Bool.false_eq_true, if_true, if_false, ite_true, ite_false, reduceIte, Int.reduceLE, Int.reduceLT, Int.reduceNeg, Int.reduceToNat, Int.reduceEq, Int.reduceNe, List.length_cons, List.length_nil, Nat.reduceAdd, Nat.reduceSub, Nat.reduceLT, List.length_map, true_and, and_true, decide_true, decide_false, Bool.not_true, Bool.not_false, wss_cons, wss_nil, k3]
        refine (take_ok D.toDraws f4.st _ (by omega)).imp fun v h4 ⟨f5, j, e, j0, j1⟩ => ?_
        subst e
        have k4 := f5.kp.at_ h2.length _ k3 (by omega)
        have hj : j.toNat < L.length := by omega
        have e2 : (L.map Ip.D.int)[j.toNat]? = some (.int L[j.toNat]) := by
          rw [List.getElem?_map, List.getElem?_eq_getElem hj]; rfl
        have g1 : ∀ o, (h4.set h2.length o)[h2.length]? = some o := fun o => List.getElem?_set_self (getLt k4)
        simp only [we_fold, wss_fold, wt_fold, we_non, we_bl, we_int, we_str, we_bty, we_var, we_glob, we_bin, we_un, wt_def, we_not, we_and, we_or, we_cmp, we_cmp2, we_ife, we_tup, we_lst, we_idx, we_sl, we_attr, we_call, we_make, we_meth, we_bi, we_bm, wes_nil, wes_cons, wo_none, wo_some, wi_e, wi_rng, we_lc, ws_expr, ws_ret, ws_retN, ws_pass, ws_brk, ws_cont, ws_asg, ws_sub, ws_fld, ws_aug, ws_iff, ws_for, ws_whl, ws_raise, ws_try, op_some, opD_some, br_some, binG_int, binI_add, binI_sub, binI_and, binI_or, binI_xor, binI_mod, binI_shr, cmpG_int, cmpB_lt, cmpB_le, cmpB_gt, cmpB_ge, cmpB_eq, cmpB_ne, cmpB_eqB, truthD_bl, truthD_int, truthD_non, truthD_tup, get_tup, get_rol, bi_len_tup, bi_len_rol, bi_int_int, bi_int_bl, bi_abs, asgP_name, op_ite, opL_some, get_ref, set_ref, bi_len_ref, bi_tuple_ref, bi_tuple_tup, bi_list_ref, bi_list_tup, bi_sum_ref, bi_sum_tup, bi_all_ref, bi_any_ref, bi_max, bi_min, truthD_ref, trO_lst, atI_pos, ixN_pos, bi_isi, gM_cf, gM_gl, gM_fld, gM_mth, gM_opo, gM_opi, gM_opu, gM_eqo, gM_isi, gM_ist, gM_xfd, gM_xiz, gM_exm, gM_fuel, gM_hot0, gM_hot1, List.getElem?_cons_zero, List.getElem?_cons_succ, List.set_cons_zero, List.set_cons_succ, decide_eq_true_eq, Bool.true_eq_false, Bool.false_eq_true, if_true, if_false, ite_true, ite_false, reduceIte, Int.reduceLE, Int.reduceLT, Int.reduceNeg, Int.reduceToNat, Int.reduceEq, Int.reduceNe, List.length_cons, List.length_nil, Nat.reduceAdd, Nat.reduceSub, Nat.reduceLT, List.length_map, true_and, and_true, decide_true, decide_false, Bool.not_true, Bool.not_false, wss_cons, wss_nil, k4, atI_pos j0, e2, ixN_pos j0 hj, g1]
        have f6 := ((f3.trans f4).trans f5).set f2.st (O.lst ((L.map Ip.D.int).set j.toNat (.int (1 - L[j.toNat])))) (Nat.le_refl _)
        refine ⟨f12.trans f6, L.set j.toNat (1 - L[j.toNat]), by rw [List.map_set], fun b hb => ?_, by simp; omega⟩
        have hb := List.mem_or_eq_of_mem_set hb
        rcases hb with hb | rfl
        · exact lb b hb
        · have := lb _ (List.getElem_mem hj); omega
    · simp only [we_fold, wss_fold, wt_fold, we_non, we_bl, we_int, we_str, we_bty, we_var, we_glob, we_bin, we_un, wt_def, we_not, we_and, we_or, we_cmp, we_cmp2, we_ife, we_tup, we_lst, we_idx, we_sl, we_attr, we_call, we_make, we_meth, we_bi, we_bm, wes_nil, wes_cons, wo_none, wo_some, wi_e, wi_rng, we_lc, ws_expr, ws_ret, ws_retN, ws_pass, ws_brk, ws_cont, ws_asg, ws_sub, ws_fld, ws_aug, ws_iff, ws_for, ws_whl, ws_raise, ws_try, op_some, opD_some, br_some, binG_int, binI_add, binI_sub, binI_and, binI_or, binI_xor, binI_mod, binI_shr, cmpG_int, cmpB_lt, cmpB_le, cmpB_gt, cmpB_ge, cmpB_eq, cmpB_ne, cmpB_eqB, truthD_bl, truthD_int, truthD_non, truthD_tup, get_tup, get_rol, bi_len_tup, bi_len_rol, bi_int_int, bi_int_bl, bi_abs, asgP_name, op_ite, opL_some, get_ref, set_ref, bi_len_ref, bi_tuple_ref, bi_tuple_tup, bi_list_ref, bi_list_tup, bi_sum_ref, bi_sum_tup, bi_all_ref, bi_any_ref, bi_max, bi_min, truthD_ref, trO_lst, atI_pos, ixN_pos, bi_isi, gM_cf, gM_gl, gM_fld, gM_mth, gM_opo, gM_opi, gM_opu, gM_eqo, gM_isi, gM_ist, gM_xfd, gM_xiz, gM_exm, gM_fuel, gM_hot0, gM_hot1, List.getElem?_cons_zero, List.getElem?_cons_succ, List.set_cons_zero, List.set_cons_succ, decide_eq_true_eq, Bool.true_eq_false, Bool.false_eq_true, if_true, if_false, ite_true, ite_false, reduceIte, Int.reduceLE, Int.reduceLT, Int.reduceNeg, Int.reduceToNat, Int.reduceEq, Int.reduceNe, List.length_cons, List.length_nil, Nat.reduceAdd, Nat.reduceSub, Nat.reduceLT, List.length_map, true_and, and_true, decide_true, decide_false, Bool.not_true, Bool.not_false, wss_cons, wss_nil, a1, app_at]
      exact ⟨f12.trans f3, L, rfl, lb, ll⟩
end
end Ip
end
section
set_option Elab.async false
set_option linter.all false
set_option maxRecDepth 100000
set_option maxHeartbeats 1000000
/-! draws of widths, values, wrong words -/
namespace Ip
open PySem L2
section
variable {T : FKey → Option Fn} {gb : G} {m : Option Hx} {k : Nat} {h : Hs} {X : Xp} {s : Nat × Nat}
theorem width_ok (D : DrawsW T gb) (st : Sto h s) : (cal T gb m (k + 4) ("_law_width", none) [.ref s.1] h).wp (fun v h' => Fr s h h' ∧ ∃ i : Int, v = .int i ∧ 0 ≤ i ∧ i ≤ 256) X := by
  have hz : sizeLine = 16777216 := by decide
  refine cal_wp D.width rfl ?_
  simp only [Tx.f__law_width, we_fold, wss_fold, wt_fold, we_non, we_bl, we_int, we_str, we_bty, we_var, we_glob, we_bin, we_un, wt_def, we_not, we_and, we_or, we_cmp, we_cmp2, we_ife, we_tup, we_lst, we_idx, we_sl, we_attr, we_call, we_make, we_meth, we_bi, we_bm, wes_nil, wes_cons, wo_none, wo_some, wi_e, wi_rng, we_lc, ws_expr, ws_ret, ws_retN, ws_pass, ws_brk, ws_cont, ws_asg, ws_sub, ws_fld, ws_aug, ws_iff, ws_for, ws_whl, ws_raise, ws_try, op_some, opD_some, br_some, binG_int, binI_add, binI_sub, binI_and, binI_or, binI_xor, binI_mod, binI_shr, cmpG_int, cmpB_lt, cmpB_le, cmpB_gt, cmpB_ge, cmpB_eq, cmpB_ne, cmpB_eqB, truthD_bl, truthD_int, truthD_non, truthD_tup, get_tup, get_rol, bi_len_tup, bi_len_rol, bi_int_int, bi_int_bl, bi_abs, asgP_name, op_ite, opL_some, get_ref, set_ref, bi_len_ref, bi_tuple_ref, bi_tuple_tup, bi_list_ref, bi_list_tup, bi_sum_ref, bi_sum_tup, bi_all_ref, bi_any_ref, bi_max, bi_min, truthD_ref, trO_lst, atI_pos, ixN_pos, bi_isi, gM_cf, gM_gl, gM_fld, gM_mth, gM_opo, gM_opi, gM_opu, gM_eqo, gM_isi, gM_ist, gM_xfd, gM_xiz, gM_exm, gM_fuel, gM_hot0, gM_hot1, List.getElem?_cons_zero, List.getElem?_cons_succ, List.set_cons_zero, List.set_cons_succ, decide_eq_true_eq, Bool.true_eq_false, Bool.false_eq_true, if_true, if_false, ite_true, ite_false, reduceIte, Int.reduceLE, Int.reduceLT, Int.reduceNeg, Int.reduceToNat, Int.reduceEq, Int.reduceNe, List.length_cons, List.length_nil, Nat.reduceAdd, Nat.reduceSub, Nat.reduceLT, List.length_map, true_and, and_true, decide_true, decide_false, Bool.not_true, Bool.not_false, wss_cons, wss_nil, List.map_cons, List.map_nil, List.replicate, List.cons_append, List.nil_append]
  refine (take_ok D.toDraws st _ (by omega)).imp fun v h1 ⟨f1, i, e, i0, i1⟩ => ?_
  subst e
  by_cases a1 : i < 4
  · simp only [we_fold, wss_fold, wt_fold, we_non, we_bl, we_int, we_str, we_bty, we_var, we_glob, we_bin, we_un, wt_def, we_not, we_and, we_or, we_cmp, we_cmp2, we_ife, we_tup, we_lst, we_idx, we_sl, we_attr, we_call, we_make, we_meth, we_bi, we_bm, wes_nil, wes_cons, wo_none, wo_some, wi_e, wi_rng, we_lc, ws_expr, ws_ret, ws_retN, ws_pass, ws_brk, ws_cont, ws_asg, ws_sub, ws_fld, ws_aug, ws_iff, ws_for, ws_whl, ws_raise, ws_try, op_some, opD_some, br_some, binG_int, binI_add, binI_sub, binI_and, binI_or, binI_xor, binI_mod, binI_shr, cmpG_int, cmpB_lt, cmpB_le, cmpB_gt, cmpB_ge, cmpB_eq, cmpB_ne, cmpB_eqB, truthD_bl, truthD_int, truthD_non, truthD_tup, get_tup, get_rol, bi_len_tup, bi_len_rol, bi_int_int, bi_int_bl, bi_abs, asgP_name, op_ite, opL_some, get_ref, set_ref, bi_len_ref, bi_tuple_ref, bi_tuple_tup, bi_list_ref, bi_list_tup, bi_sum_ref, bi_sum_tup, bi_all_ref, bi_any_ref, bi_max, bi_min, truthD_ref, trO_lst, atI_pos, ixN_pos, bi_isi, gM_cf, gM_gl, gM_fld, gM_mth, gM_opo, gM_opi, gM_opu, gM_eqo, gM_isi, gM_ist, gM_xfd, gM_xiz, gM_exm, gM_fuel, gM_hot0, gM_hot1, List.getElem?_cons_zero, List.getElem?_cons_succ, List.set_cons_zero, List.set_cons_succ, decide_eq_true_eq, Bool.true_eq_false, Bool.false_eq_true, if_true, if_false, ite_true, ite_false, reduceIte, Int.reduceLE, Int.reduceLT, Int.reduceNeg, Int.reduceToNat, Int.reduceEq, Int.reduceNe, List.length_cons, List.length_nil, Nat.reduceAdd, Nat.reduceSub, Nat.reduceLT, List.length_map, true_and, and_true, decide_true, decide_false, Bool.not_true, Bool.not_false, wss_cons, wss_nil, a1, hz, Nat.reduceLeDiff]
    have f2 : Fr s h1 (h1 ++ [O.lst [.int 0, .int 1, .int 2, .int 63, .int 64, .int 65, .int 255, .int 256]]) := f1.st.fr (Keep.app _ _)
    have hs := f1.st.lt
    refine (pick_ok D f2.st (a := h1.length) (app_at _ _) (List.cons_ne_nil _ _) (by simp only [List.length_cons, List.length_nil]; omega) (by omega)).imp fun v h3 ⟨f3, hv⟩ => ⟨(f1.trans f2).trans f3, ?_⟩
    simp only [List.mem_cons, List.not_mem_nil, or_false] at hv
    rcases hv with rfl | rfl | rfl | rfl | rfl | rfl | rfl | rfl <;> exact ⟨_, rfl, by decide, by decide⟩
  · by_cases a2 : i = 4
    · simp only [we_fold, wss_fold, wt_fold, we_non, we_bl, we_int, we_str, we_bty, we_var, we_glob, we_bin, we_un, wt_def, we_not, we_and, we_or, we_cmp, we_cmp2, we_ife, we_tup, we_lst, we_idx, we_sl, we_attr, we_call, we_make, we_meth, we_bi, we_bm, wes_nil, wes_cons, wo_none, wo_some, wi_e, wi_rng, we_lc, ws_expr, ws_ret, ws_retN, ws_pass, ws_brk, ws_cont, ws_asg, ws_sub, ws_fld, ws_aug, ws_iff, ws_for, ws_whl, ws_raise, ws_try, op_some, opD_some, br_some, binG_int, binI_add, binI_sub, binI_and, binI_or, binI_xor, binI_mod, binI_shr, cmpG_int, cmpB_lt, cmpB_le, cmpB_gt, cmpB_ge, cmpB_eq, cmpB_ne, cmpB_eqB, truthD_bl, truthD_int, truthD_non, truthD_tup, get_tup, get_rol, bi_len_tup, bi_len_rol, bi_int_int, bi_int_bl, bi_abs, asgP_name, op_ite, opL_some, get_ref, set_ref, bi_len_ref, bi_tuple_ref, bi_tuple_tup, bi_list_ref, bi_list_tup, bi_sum_ref, bi_sum_tup, bi_all_ref, bi_any_ref, bi_max, bi_min, truthD_ref, trO_lst, atI_pos, ixN_pos, bi_isi, gM_cf, gM_gl, gM_fld, gM_mth, gM_opo, gM_opi, gM_opu, gM_eqo, gM_isi, gM_ist, gM_xfd, gM_xiz, gM_exm, gM_fuel, gM_hot0, gM_hot1, List.getElem?_cons_zero, List.getElem?_cons_succ, List.set_cons_zero, List.set_cons_succ, decide_eq_true_eq, Bool.true_eq_false, Bool.false_eq_true, if_true, if_false, ite_true, ite_false, reduceIte, Int.reduceLE, Int.reduceLT, Int.reduceNeg, Int.reduceToNat, Int.reduceEq, Int.reduceNe, List.length_cons, List.length_nil, Nat.reduceAdd, Nat.reduceSub, Nat.reduceLT, List.length_map, true_and, and_true, decide_true, decide_false, Bool.not_true, Bool.not_false, wss_cons, wss_nil, a1, a2]
      refine (take_ok D.toDraws f1.st _ (by omega)).imp fun v h2 ⟨f2, j, e, j0, j1⟩ => ⟨f1.trans f2, j, e, j0, by omega⟩
    · simp only [we_fold, wss_fold, wt_fold, we_non, we_bl, we_int, we_str, we_bty, we_var, we_glob, we_bin, we_un, wt_def, we_not, we_and, we_or, we_cmp, we_cmp2, we_ife, we_tup, we_lst, we_idx, we_sl, we_attr, we_call, we_make, we_meth, we_bi, we_bm, wes_nil, wes_cons, wo_none, wo_some, wi_e, wi_rng, we_lc, ws_expr, ws_ret, ws_retN, ws_pass, ws_brk, ws_cont, ws_asg, ws_sub, ws_fld, ws_aug, ws_iff, ws_for, ws_whl, ws_raise, ws_try, op_some, opD_some, br_some, binG_int, binI_add, binI_sub, binI_and, binI_or, binI_xor, binI_mod, binI_shr, cmpG_int, cmpB_lt, cmpB_le, cmpB_gt, cmpB_ge, cmpB_eq, cmpB_ne, cmpB_eqB, truthD_bl, truthD_int, truthD_non, truthD_tup, get_tup, get_rol, bi_len_tup, bi_len_rol, bi_int_int, bi_int_bl, bi_abs, asgP_name, op_ite, opL_some, get_ref, set_ref, bi_len_ref, bi_tuple_ref, bi_tuple_tup, bi_list_ref, bi_list_tup, bi_sum_ref, bi_sum_tup, bi_all_ref, bi_any_ref, bi_max, bi_min, truthD_ref, trO_lst, atI_pos, ixN_pos, bi_isi, gM_cf, gM_gl, gM_fld, gM_mth, gM_opo, gM_opi, gM_opu, gM_eqo, gM_isi, gM_ist, gM_xfd, gM_xiz, gM_exm, gM_fuel, gM_hot0, gM_hot1, List.getElem?_cons_zero, List.getElem?_cons_succ, List.set_cons_zero, List.set_cons_succ, decide_eq_true_eq, Bool.true_eq_false, Bool.false_eq_true, if_true, if_false, ite_true, ite_false, reduceIte, Int.reduceLE, Int.reduceLT, Int.reduceNeg, Int.reduceToNat, Int.reduceEq, Int.reduceNe, List.length_cons, List.length_nil, Nat.reduceAdd, Nat.reduceSub, Nat.reduceLT, List.length_map, true_and, and_true, decide_true, decide_false, Bool.not_true, Bool.not_false, wss_cons, wss_nil, a1, a2]
      refine (take_ok D.toDraws f1.st _ (by omega)).imp fun v h2 ⟨f2, j, e, j0, j1⟩ => ⟨f1.trans f2, j, e, j0, by omega⟩
theorem fitsLong {x : Int} (h0 : -4611686018427387904 ≤ x) (h1 : x < 4611686018427387904) : Builtin.Range.rangeFitsLong x = true := by
  unfold Builtin.Range.rangeFitsLong
  simp only [Bool.and_eq_true, decide_eq_true_eq]
  have : (2 : Int) ^ 63 = 9223372036854775808 := by decide
  omega
theorem small_of {w c n : Int} (e : Builtin.Range.rangeSize 0 w c = n) (h0 : 0 ≤ w) (h1 : w ≤ 1000000) (c0 : 0 < c) (c1 : c ≤ 1000000) (n0 : 0 ≤ n) (n1 : n ≤ 1000000) : Builtin.Range.small 0 w c = true := by
  unfold Builtin.Range.small
  rw [e, fitsLong (by omega) (by omega), fitsLong (x := w) (by omega) (by omega), fitsLong (x := c) (by omega) (by omega), fitsLong (x := n) (by omega) (by omega), if_pos (show c > 0 from c0), fitsLong (x := w + (c - 1)) (by omega) (by omega)]
  simp
theorem rngOf3 {w c : Int} (h0 : 0 ≤ w) (h1 : w ≤ 1000000) (c0 : 0 < c) (c1 : c ≤ 1000000) : ∃ n : Nat, (n : Int) ≤ w ∧ rngOf [.int 0, .int w, .int c] = some (.vals ((List.range n).map fun (k : Nat) => .int (k * c))) ∧ ∀ i : Nat, i < n → i * c < w := by
  by_cases hw : 0 < w
  · refine ⟨((w - 0 - 1) / c + 1).toNat, ?_, ?_, fun i hi => ?_⟩
    · have h2 : (w - 0 - 1) / c ≤ w - 0 - 1 := Int.ediv_le_self _ (by omega)
      have h3 : 0 ≤ (w - 0 - 1) / c := Int.ediv_nonneg (by omega) (by omega)
      omega
    · have e : Builtin.Range.rangeSize 0 w c = (w - 0 - 1) / c + 1 := by
        unfold Builtin.Range.rangeSize
        rw [if_pos c0, if_pos hw]
      have h3 : 0 ≤ (w - 0 - 1) / c := Int.ediv_nonneg (by omega) (by omega)
      have h4 : (w - 0 - 1) / c ≤ w - 0 - 1 := Int.ediv_le_self _ (by omega)
      have sm := small_of e h0 h1 c0 c1 (by omega) (by omega)
      simp only [rngOf]
      rw [if_pos, e]
      · simp
      · rw [sm, e]
        simp only [Bool.and_eq_true, decide_eq_true_eq, Bool.not_eq_true', decide_eq_false_iff_not]
        exact ⟨⟨⟨by omega, by omega⟩, trivial⟩, by omega⟩
    · have h3 : (i : Int) ≤ (w - 0 - 1) / c := by omega
      have := Int.mul_le_of_le_ediv c0 h3
      omega
  · refine ⟨0, by omega, ?_, fun i hi => by omega⟩
    have e : Builtin.Range.rangeSize 0 w c = 0 := by
      unfold Builtin.Range.rangeSize
      rw [if_pos c0, if_neg (by omega)]
    have sm := small_of e h0 h1 c0 c1 (by omega) (by omega)
    simp only [rngOf]
    rw [if_pos, e]
    · simp
    · rw [sm, e]
      simp only [Bool.and_eq_true, decide_eq_true_eq, Bool.not_eq_true', decide_eq_false_iff_not]
      exact ⟨⟨⟨by omega, by omega⟩, trivial⟩, by omega⟩
theorem value_ok (D : DrawsW T gb) (st : Sto h s) (w : Int) (h0 : 0 ≤ w) (hw : w ≤ 256) : (cal T gb none (k + 5) ("_law_value", none) [.ref s.1, .int w] h).wp (fun v h' => Fr s h h' ∧ ∃ i : Int, v = .int i ∧ 0 ≤ i ∧ i < 2 ^ w.toNat) X := by
  have hf := D.fuel
  have hz : sizeLine = 16777216 := by decide
  have p0 : (0 : Int) < 2 ^ w.toNat := Int.pow_pos (by decide)
  refine cal_wp D.value rfl ?_
  simp only [Tx.f__law_value, we_fold, wss_fold, wt_fold, we_non, we_bl, we_int, we_str, we_bty, we_var, we_glob, we_bin, we_un, wt_def, we_not, we_and, we_or, we_cmp, we_cmp2, we_ife, we_tup, we_lst, we_idx, we_sl, we_attr, we_call, we_make, we_meth, we_bi, we_bm, wes_nil, wes_cons, wo_none, wo_some, wi_e, wi_rng, we_lc, ws_expr, ws_ret, ws_retN, ws_pass, ws_brk, ws_cont, ws_asg, ws_sub, ws_fld, ws_aug, ws_iff, ws_for, ws_whl, ws_raise, ws_try, op_some, opD_some, br_some, binG_int, binI_add, binI_sub, binI_and, binI_or, binI_xor, binI_mod, binI_shr, cmpG_int, cmpB_lt, cmpB_le, cmpB_gt, cmpB_ge, cmpB_eq, cmpB_ne, cmpB_eqB, truthD_bl, truthD_int, truthD_non, truthD_tup, get_tup, get_rol, bi_len_tup, bi_len_rol, bi_int_int, bi_int_bl, bi_abs, asgP_name, op_ite, opL_some, get_ref, set_ref, bi_len_ref, bi_tuple_ref, bi_tuple_tup, bi_list_ref, bi_list_tup, bi_sum_ref, bi_sum_tup, bi_all_ref, bi_any_ref, bi_max, bi_min, truthD_ref, trO_lst, atI_pos, ixN_pos, bi_isi, gM_cf, gM_gl, gM_fld, gM_mth, gM_opo, gM_opi, gM_opu, gM_eqo, gM_isi, gM_ist, gM_xfd, gM_xiz, gM_exm, gM_fuel, gM_hot0, gM_hot1, List.getElem?_cons_zero, List.getElem?_cons_succ, List.set_cons_zero, List.set_cons_succ, decide_eq_true_eq, Bool.true_eq_false, Bool.false_eq_true, if_true, if_false, ite_true, ite_false, reduceIte, Int.reduceLE, Int.reduceLT, Int.reduceNeg, Int.reduceToNat, Int.reduceEq, Int.reduceNe, List.length_cons, List.length_nil, Nat.reduceAdd, Nat.reduceSub, Nat.reduceLT, List.length_map, true_and, and_true, decide_true, decide_false, Bool.not_true, Bool.not_false, wss_cons, wss_nil, List.map_cons, List.map_nil, List.replicate, List.cons_append, List.nil_append]
  refine (take_ok D.toDraws st _ (by omega)).imp fun v h1 ⟨f1, i, e, i0, i1⟩ => ?_
  subst e
  by_cases a1 : i = 0
  · simp only [we_fold, wss_fold, wt_fold, we_non, we_bl, we_int, we_str, we_bty, we_var, we_glob, we_bin, we_un, wt_def, we_not, we_and, we_or, we_cmp, we_cmp2, we_ife, we_tup, we_lst, we_idx, we_sl, we_attr, we_call, we_make, we_meth, we_bi, we_bm, wes_nil, wes_cons, wo_none, wo_some, wi_e, wi_rng, we_lc, ws_expr, ws_ret, ws_retN, ws_pass, ws_brk, ws_cont, ws_asg, ws_sub, ws_fld, ws_aug, ws_iff, ws_for, ws_whl, ws_raise, ws_try, op_some, opD_some, br_some, binG_int, binI_add, binI_sub, binI_and, binI_or, binI_xor, binI_mod, binI_shr, cmpG_int, cmpB_lt, cmpB_le, cmpB_gt, cmpB_ge, cmpB_eq, cmpB_ne, cmpB_eqB, truthD_bl, truthD_int, truthD_non, truthD_tup, get_tup, get_rol, bi_len_tup, bi_len_rol, bi_int_int, bi_int_bl, bi_abs, asgP_name, op_ite, opL_some, get_ref, set_ref, bi_len_ref, bi_tuple_ref, bi_tuple_tup, bi_list_ref, bi_list_tup, bi_sum_ref, bi_sum_tup, bi_all_ref, bi_any_ref, bi_max, bi_min, truthD_ref, trO_lst, atI_pos, ixN_pos, bi_isi, gM_cf, gM_gl, gM_fld, gM_mth, gM_opo, gM_opi, gM_opu, gM_eqo, gM_isi, gM_ist, gM_xfd, gM_xiz, gM_exm, gM_fuel, gM_hot0, gM_hot1, List.getElem?_cons_zero, List.getElem?_cons_succ, List.set_cons_zero, List.set_cons_succ, decide_eq_true_eq, Bool.true_eq_false, Bool.false_eq_true, if_true, if_false, ite_true, ite_false, reduceIte, Int.reduceLE, Int.reduceLT, Int.reduceNeg, Int.reduceToNat, Int.reduceEq, Int.reduceNe, List.length_cons, List.length_nil, Nat.reduceAdd, Nat.reduceSub, Nat.reduceLT, List.length_map, true_and, and_true, decide_true, decide_false, Bool.not_true, Bool.not_false, wss_cons, wss_nil, a1]
    exact ⟨f1, _, rfl, by omega, p0⟩
  by_cases a2 : w = 0
  · simp only [we_fold, wss_fold, wt_fold, we_non, we_bl, we_int, we_str, we_bty, we_var, we_glob, we_bin, we_un, wt_def, we_not, we_and, we_or, we_cmp, we_cmp2, we_ife, we_tup, we_lst, we_idx, we_sl, we_attr, we_call, we_make, we_meth, we_bi, we_bm, wes_nil, wes_cons, wo_none, wo_some, wi_e, wi_rng, we_lc, ws_expr, ws_ret, ws_retN, ws_pass, ws_brk, ws_cont, ws_asg, ws_sub, ws_fld, ws_aug, ws_iff, ws_for, ws_whl, ws_raise, ws_try, op_some, opD_some, br_some, binG_int, binI_add, binI_sub, binI_and, binI_or, binI_xor, binI_mod, binI_shr, cmpG_int, cmpB_lt, cmpB_le, cmpB_gt, cmpB_ge, cmpB_eq, cmpB_ne, cmpB_eqB, truthD_bl, truthD_int, truthD_non, truthD_tup, get_tup, get_rol, bi_len_tup, bi_len_rol, bi_int_int, bi_int_bl, bi_abs, asgP_name, op_ite, opL_some, get_ref, set_ref, bi_len_ref, bi_tuple_ref, bi_tuple_tup, bi_list_ref, bi_list_tup, bi_sum_ref, bi_sum_tup, bi_all_ref, bi_any_ref, bi_max, bi_min, truthD_ref, trO_lst, atI_pos, ixN_pos, bi_isi, gM_cf, gM_gl, gM_fld, gM_mth, gM_opo, gM_opi, gM_opu, gM_eqo, gM_isi, gM_ist, gM_xfd, gM_xiz, gM_exm, gM_fuel, gM_hot0, gM_hot1, List.getElem?_cons_zero, List.getElem?_cons_succ, List.set_cons_zero, List.set_cons_succ, decide_eq_true_eq, Bool.true_eq_false, Bool.false_eq_true, if_true, if_false, ite_true, ite_false, reduceIte, Int.reduceLE, Int.reduceLT, Int.reduceNeg, Int.reduceToNat, Int.reduceEq, Int.reduceNe, List.length_cons, List.length_nil, Nat.reduceAdd, Nat.reduceSub, Nat.reduceLT, List.length_map, true_and, and_true, decide_true, decide_false, Bool.not_true, Bool.not_false, wss_cons, wss_nil, a1, a2]
    exact ⟨f1, _, rfl, by omega, by decide⟩
  by_cases a3 : i = 1
  · simp only [we_fold, wss_fold, wt_fold, we_non, we_bl, we_int, we_str, we_bty, we_var, we_glob, we_bin, we_un, wt_def, we_not, we_and, we_or, we_cmp, we_cmp2, we_ife, we_tup, we_lst, we_idx, we_sl, we_attr, we_call, we_make, we_meth, we_bi, we_bm, wes_nil, wes_cons, wo_none, wo_some, wi_e, wi_rng, we_lc, ws_expr, ws_ret, ws_retN, ws_pass, ws_brk, ws_cont, ws_asg, ws_sub, ws_fld, ws_aug, ws_iff, ws_for, ws_whl, ws_raise, ws_try, op_some, opD_some, br_some, binG_int, binI_add, binI_sub, binI_and, binI_or, binI_xor, binI_mod, binI_shr, cmpG_int, cmpB_lt, cmpB_le, cmpB_gt, cmpB_ge, cmpB_eq, cmpB_ne, cmpB_eqB, truthD_bl, truthD_int, truthD_non, truthD_tup, get_tup, get_rol, bi_len_tup, bi_len_rol, bi_int_int, bi_int_bl, bi_abs, asgP_name, op_ite, opL_some, get_ref, set_ref, bi_len_ref, bi_tuple_ref, bi_tuple_tup, bi_list_ref, bi_list_tup, bi_sum_ref, bi_sum_tup, bi_all_ref, bi_any_ref, bi_max, bi_min, truthD_ref, trO_lst, atI_pos, ixN_pos, bi_isi, gM_cf, gM_gl, gM_fld, gM_mth, gM_opo, gM_opi, gM_opu, gM_eqo, gM_isi, gM_ist, gM_xfd, gM_xiz, gM_exm, gM_fuel, gM_hot0, gM_hot1, List.getElem?_cons_zero, List.getElem?_cons_succ, List.set_cons_zero, List.set_cons_succ, decide_eq_true_eq, Bool.true_eq_false, Bool.false_eq_true, if_true, if_false, ite_true, ite_false, reduceIte, Int.reduceLE, Int.reduceLT, Int.reduceNeg, Int.reduceToNat, Int.reduceEq, Int.reduceNe, List.length_cons, List.length_nil, Nat.reduceAdd, Nat.reduceSub, Nat.reduceLT, List.length_map, true_and, and_true, decide_true, decide_false, Bool.not_true, Bool.not_false, wss_cons, wss_nil, a1, a2, a3, binI_shl1 h0 (show w ≤ 100000000 by omega)]
    exact ⟨f1, _, rfl, by omega, by omega⟩
  by_cases a4 : i = 2
  · simp only [we_fold, wss_fold, wt_fold, we_non, we_bl, we_int, we_str, we_bty, we_var, we_glob, we_bin, we_un, wt_def, we_not, we_and, we_or, we_cmp, we_cmp2, we_ife, we_tup, we_lst, we_idx, we_sl, we_attr, we_call, we_make, we_meth, we_bi, we_bm, wes_nil, wes_cons, wo_none, wo_some, wi_e, wi_rng, we_lc, ws_expr, ws_ret, ws_retN, ws_pass, ws_brk, ws_cont, ws_asg, ws_sub, ws_fld, ws_aug, ws_iff, ws_for, ws_whl, ws_raise, ws_try, op_some, opD_some, br_some, binG_int, binI_add, binI_sub, binI_and, binI_or, binI_xor, binI_mod, binI_shr, cmpG_int, cmpB_lt, cmpB_le, cmpB_gt, cmpB_ge, cmpB_eq, cmpB_ne, cmpB_eqB, truthD_bl, truthD_int, truthD_non, truthD_tup, get_tup, get_rol, bi_len_tup, bi_len_rol, bi_int_int, bi_int_bl, bi_abs, asgP_name, op_ite, opL_some, get_ref, set_ref, bi_len_ref, bi_tuple_ref, bi_tuple_tup, bi_list_ref, bi_list_tup, bi_sum_ref, bi_sum_tup, bi_all_ref, bi_any_ref, bi_max, bi_min, truthD_ref, trO_lst, atI_pos, ixN_pos, bi_isi, gM_cf, gM_gl, gM_fld, gM_mth, gM_opo, gM_opi, gM_opu, gM_eqo, gM_isi, gM_ist, gM_xfd, gM_xiz, gM_exm, gM_fuel, gM_hot0, gM_hot1, List.getElem?_cons_zero, List.getElem?_cons_succ, List.set_cons_zero, List.set_cons_succ, decide_eq_true_eq, Bool.true_eq_false, Bool.false_eq_true, if_true, if_false, ite_true, ite_false, reduceIte, Int.reduceLE, Int.reduceLT, Int.reduceNeg, Int.reduceToNat, Int.reduceEq, Int.reduceNe, List.length_cons, List.length_nil, Nat.reduceAdd, Nat.reduceSub, Nat.reduceLT, List.length_map, true_and, and_true, decide_true, decide_false, Bool.not_true, Bool.not_false, wss_cons, wss_nil, a1, a2, a3, a4]
    refine (take_ok D.toDraws f1.st _ (by omega)).imp fun v h2 ⟨f2, j, e, j0, j1⟩ => ?_
    subst e
    simp only [we_fold, wss_fold, wt_fold, we_non, we_bl, we_int, we_str, we_bty, we_var, we_glob, we_bin, we_un, wt_def, we_not, we_and, we_or, we_cmp, we_cmp2, we_ife, we_tup, we_lst, we_idx, we_sl, we_attr, we_call, we_make, we_meth, we_bi, we_bm, wes_nil, wes_cons, wo_none, wo_some, wi_e, wi_rng, we_lc, ws_expr, ws_ret, ws_retN, ws_pass, ws_brk, ws_cont, ws_asg, ws_sub, ws_fld, ws_aug, ws_iff, ws_for, ws_whl, ws_raise, ws_try, op_some, opD_some, br_some, binG_int, binI_add, binI_sub, binI_and, binI_or, binI_xor, binI_mod, binI_shr, cmpG_int, cmpB_lt, cmpB_le, cmpB_gt, cmpB_ge, cmpB_eq, cmpB_ne, cmpB_eqB, truthD_bl, truthD_int, truthD_non, truthD_tup, get_tup, get_rol, bi_len_tup, bi_len_rol, bi_int_int, bi_int_bl, bi_abs, asgP_name, op_ite, opL_some, get_ref, set_ref, bi_len_ref, bi_tuple_ref, bi_tuple_tup, bi_list_ref, bi_list_tup, bi_sum_ref, bi_sum_tup, bi_all_ref, bi_any_ref, bi_max, bi_min, truthD_ref, trO_lst, atI_pos, ixN_pos, bi_isi, gM_cf, gM_gl, gM_fld, gM_mth, gM_opo, gM_opi, gM_opu, gM_eqo, gM_isi, gM_ist, gM_xfd, gM_xiz, gM_exm, gM_fuel, gM_hot0, gM_hot1, List.getElem?_cons_zero, List.getElem?_cons_succ, List.set_cons_zero, List.set_cons_succ, decide_eq_true_eq, Bool.true_eq_false, Bool.false_eq_true, if_true, if_false, ite_true, ite_false, reduceIte, Int.reduceLE, Int.reduceLT, Int.reduceNeg, Int.reduceToNat, Int.reduceEq, Int.reduceNe, List.length_cons, List.length_nil, Nat.reduceAdd, Nat.reduceSub, Nat.reduceLT, List.length_map, true_and, and_true, decide_true, decide_false, Bool.not_true, Bool.not_false, wss_cons, wss_nil, binI_shl1 j0 (show j ≤ 100000000 by omega)]
    refine ⟨f1.trans f2, _, rfl, Int.le_of_lt (Int.pow_pos (by decide)), ?_⟩
    have : (2 : Int) ^ (j.toNat + 1) ≤ 2 ^ w.toNat := pow_le2 (by omega)
    rw [Int.pow_succ] at this
    have : (0 : Int) < 2 ^ j.toNat := Int.pow_pos (by decide)
    omega
  by_cases a5 : i = 3
  · simp only [we_fold, wss_fold, wt_fold, we_non, we_bl, we_int, we_str, we_bty, we_var, we_glob, we_bin, we_un, wt_def, we_not, we_and, we_or, we_cmp, we_cmp2, we_ife, we_tup, we_lst, we_idx, we_sl, we_attr, we_call, we_make, we_meth, we_bi, we_bm, wes_nil, wes_cons, wo_none, wo_some, wi_e, wi_rng, we_lc, ws_expr, ws_ret, ws_retN, ws_pass, ws_brk, ws_cont, ws_asg, ws_sub, ws_fld, ws_aug, ws_iff, ws_for, ws_whl, ws_raise, ws_try, op_some, opD_some, br_some, binG_int, binI_add, binI_sub, binI_and, binI_or, binI_xor, binI_mod, binI_shr, cmpG_int, cmpB_lt, cmpB_le, cmpB_gt, cmpB_ge, cmpB_eq, cmpB_ne, cmpB_eqB, truthD_bl, truthD_int, truthD_non, truthD_tup, get_tup, get_rol, bi_len_tup, bi_len_rol, bi_int_int, bi_int_bl, bi_abs, asgP_name, op_ite, opL_some, get_ref, set_ref, bi_len_ref, bi_tuple_ref, bi_tuple_tup, bi_list_ref, bi_list_tup, bi_sum_ref, bi_sum_tup, bi_all_ref, bi_any_ref, bi_max, bi_min, truthD_ref, trO_lst, atI_pos, ixN_pos, bi_isi, gM_cf, gM_gl, gM_fld, gM_mth, gM_opo, gM_opi, gM_opu, gM_eqo, gM_isi, gM_ist, gM_xfd, gM_xiz, gM_exm, gM_fuel, gM_hot0, gM_hot1, List.getElem?_cons_zero, List.getElem?_cons_succ, List.set_cons_zero, List.set_cons_succ, decide_eq_true_eq, Bool.true_eq_false, Bool.false_eq_true, if_true, if_false, ite_true, ite_false, reduceIte, Int.reduceLE, Int.reduceLT, Int.reduceNeg, Int.reduceToNat, Int.reduceEq, Int.reduceNe, List.length_cons, List.length_nil, Nat.reduceAdd, Nat.reduceSub, Nat.reduceLT, List.length_map, true_and, and_true, decide_true, decide_false, Bool.not_true, Bool.not_false, wss_cons, wss_nil, a1, a2, a3, a4, a5]
    refine (long_row_ok D f1.st _ h0 (by omega)).imp fun v h2 ⟨f2, l, e, lb, ll⟩ => ?_
    subst e
    refine (number_of_ok D l lb (by omega)).imp fun v h3 ⟨f3, e⟩ => ?_
    subst e
    have := numOf_range lb
    refine ⟨(f1.trans f2).trans (f2.st.fr f3), _, rfl, this.1, ?_⟩
    rw [← int_len ll]
    exact this.2
  obtain ⟨n, n1, n2, n3⟩ := rngOf3 h0 (show w ≤ 1000000 by omega) (show (0 : Int) < 8 by decide) (by decide)
  simp only [we_fold, wss_fold, wt_fold, we_non, we_bl, we_int, we_str, we_bty, we_var, we_glob, we_bin, we_un, wt_def, we_not, we_and, we_or, we_cmp, we_cmp2, we_ife, we_tup, we_lst, we_idx, we_sl, we_attr, we_call, we_make, we_meth, we_bi, we_bm, wes_nil, wes_cons, wo_none, wo_some, wi_e, wi_rng, we_lc, ws_expr, ws_ret, ws_retN, ws_pass, ws_brk, ws_cont, ws_asg, ws_sub, ws_fld, ws_aug, ws_iff, ws_for, ws_whl, ws_raise, ws_try, op_some, opD_some, br_some, binG_int, binI_add, binI_sub, binI_and, binI_or, binI_xor, binI_mod, binI_shr, cmpG_int, cmpB_lt, cmpB_le, cmpB_gt, cmpB_ge, cmpB_eq, cmpB_ne, cmpB_eqB, truthD_bl, truthD_int, truthD_non, truthD_tup, get_tup, get_rol, bi_len_tup, bi_len_rol, bi_int_int, bi_int_bl, bi_abs, asgP_name, op_ite, opL_some, get_ref, set_ref, bi_len_ref, bi_tuple_ref, bi_tuple_tup, bi_list_ref, bi_list_tup, bi_sum_ref, bi_sum_tup, bi_all_ref, bi_any_ref, bi_max, bi_min, truthD_ref, trO_lst, atI_pos, ixN_pos, bi_isi, gM_cf, gM_gl, gM_fld, gM_mth, gM_opo, gM_opi, gM_opu, gM_eqo, gM_isi, gM_ist, gM_xfd, gM_xiz, gM_exm, gM_fuel, gM_hot0, gM_hot1, List.getElem?_cons_zero, List.getElem?_cons_succ, List.set_cons_zero, List.set_cons_succ, decide_eq_true_eq, Bool.true_eq_false, Bool.false_eq_true, if_true, if_false, ite_true, ite_false, reduceIte, Int.reduceLE, Int.reduceLT, Int.reduceNeg, Int.reduceToNat, Int.reduceEq, Int.reduceNe, List.length_cons, List.length_nil, Nat.reduceAdd, Nat.reduceSub, Nat.reduceLT, List.length_map, true_and, and_true, decide_true, decide_false, Bool.not_true, Bool.not_false, wss_cons, wss_nil, a1, a2, a3, a4, a5, n2]
  refine for_vals (fun i δ h2 => Fr s h1 h2 ∧ ∃ (x j : Int) (o : Option Ip.D), 0 ≤ x ∧ δ = [some (.ref s.1), some (.int w), some (.int j), some (.int x), o]) (by simp; omega) ⟨⟨f1.st, .refl _⟩, 0, _, none, by omega, rfl⟩ (fun j d δ h2 e ⟨f2, x, i', o, x0, e2⟩ => ?_) fun δ h2 ⟨f2, x, i', o, x0, e2⟩ => ?_
  · have hj : j < n := by simpa using getLt e
    rw [List.getElem?_map, List.getElem?_range hj] at e
    cases e
    subst e2
    have := n3 j hj
    simp only [we_fold, wss_fold, wt_fold, we_non, we_bl, we_int, we_str, we_bty, we_var, we_glob, we_bin, we_un, wt_def, we_not, we_and, we_or, we_cmp, we_cmp2, we_ife, we_tup, we_lst, we_idx, we_sl, we_attr, we_call, we_make, we_meth, we_bi, we_bm, wes_nil, wes_cons, wo_none, wo_some, wi_e, wi_rng, we_lc, ws_expr, ws_ret, ws_retN, ws_pass, ws_brk, ws_cont, ws_asg, ws_sub, ws_fld, ws_aug, ws_iff, ws_for, ws_whl, ws_raise, ws_try, op_some, opD_some, br_some, binG_int, binI_add, binI_sub, binI_and, binI_or, binI_xor, binI_mod, binI_shr, cmpG_int, cmpB_lt, cmpB_le, cmpB_gt, cmpB_ge, cmpB_eq, cmpB_ne, cmpB_eqB, truthD_bl, truthD_int, truthD_non, truthD_tup, get_tup, get_rol, bi_len_tup, bi_len_rol, bi_int_int, bi_int_bl, bi_abs, asgP_name, op_ite, opL_some, get_ref, set_ref, bi_len_ref, bi_tuple_ref, bi_tuple_tup, bi_list_ref, bi_list_tup, bi_sum_ref, bi_sum_tup, bi_all_ref, bi_any_ref, bi_max, bi_min, truthD_ref, trO_lst, atI_pos, ixN_pos, bi_isi, gM_cf, gM_gl, gM_fld, gM_mth, gM_opo, gM_opi, gM_opu, gM_eqo, gM_isi, gM_ist, gM_xfd, gM_xiz, gM_exm, gM_fuel, gM_hot0, gM_hot1, List.getElem?_cons_zero, List.getElem?_cons_succ, List.set_cons_zero, List.set_cons_succ, decide_eq_true_eq, Bool.true_eq_false, Bool.false_eq_true, if_true, if_false, ite_true, ite_false, reduceIte, Int.reduceLE, Int.reduceLT, Int.reduceNeg, Int.reduceToNat, Int.reduceEq, Int.reduceNe, List.length_cons, List.length_nil, Nat.reduceAdd, Nat.reduceSub, Nat.reduceLT, List.length_map, true_and, and_true, decide_true, decide_false, Bool.not_true, Bool.not_false, wss_cons, wss_nil]
    refine (take_ok D.toDraws f2.st _ (by omega)).imp fun v h3 ⟨f3, t, e, t0, t1⟩ => ?_
    subst e
    simp only [we_fold, wss_fold, wt_fold, we_non, we_bl, we_int, we_str, we_bty, we_var, we_glob, we_bin, we_un, wt_def, we_not, we_and, we_or, we_cmp, we_cmp2, we_ife, we_tup, we_lst, we_idx, we_sl, we_attr, we_call, we_make, we_meth, we_bi, we_bm, wes_nil, wes_cons, wo_none, wo_some, wi_e, wi_rng, we_lc, ws_expr, ws_ret, ws_retN, ws_pass, ws_brk, ws_cont, ws_asg, ws_sub, ws_fld, ws_aug, ws_iff, ws_for, ws_whl, ws_raise, ws_try, op_some, opD_some, br_some, binG_int, binI_add, binI_sub, binI_and, binI_or, binI_xor, binI_mod, binI_shr, cmpG_int, cmpB_lt, cmpB_le, cmpB_gt, cmpB_ge, cmpB_eq, cmpB_ne, cmpB_eqB, truthD_bl, truthD_int, truthD_non, truthD_tup, get_tup, get_rol, bi_len_tup, bi_len_rol, bi_int_int, bi_int_bl, bi_abs, asgP_name, op_ite, opL_some, get_ref, set_ref, bi_len_ref, bi_tuple_ref, bi_tuple_tup, bi_list_ref, bi_list_tup, bi_sum_ref, bi_sum_tup, bi_all_ref, bi_any_ref, bi_max, bi_min, truthD_ref, trO_lst, atI_pos, ixN_pos, bi_isi, gM_cf, gM_gl, gM_fld, gM_mth, gM_opo, gM_opi, gM_opu, gM_eqo, gM_isi, gM_ist, gM_xfd, gM_xiz, gM_exm, gM_fuel, gM_hot0, gM_hot1, List.getElem?_cons_zero, List.getElem?_cons_succ, List.set_cons_zero, List.set_cons_succ, decide_eq_true_eq, Bool.true_eq_false, Bool.false_eq_true, if_true, if_false, ite_true, ite_false, reduceIte, Int.reduceLE, Int.reduceLT, Int.reduceNeg, Int.reduceToNat, Int.reduceEq, Int.reduceNe, List.length_cons, List.length_nil, Nat.reduceAdd, Nat.reduceSub, Nat.reduceLT, List.length_map, true_and, and_true, decide_true, decide_false, Bool.not_true, Bool.not_false, wss_cons, wss_nil]
    rw [binI_shl (n := 8) (by omega) (by omega) (by omega)]
    simp only [we_fold, wss_fold, wt_fold, we_non, we_bl, we_int, we_str, we_bty, we_var, we_glob, we_bin, we_un, wt_def, we_not, we_and, we_or, we_cmp, we_cmp2, we_ife, we_tup, we_lst, we_idx, we_sl, we_attr, we_call, we_make, we_meth, we_bi, we_bm, wes_nil, wes_cons, wo_none, wo_some, wi_e, wi_rng, we_lc, ws_expr, ws_ret, ws_retN, ws_pass, ws_brk, ws_cont, ws_asg, ws_sub, ws_fld, ws_aug, ws_iff, ws_for, ws_whl, ws_raise, ws_try, op_some, opD_some, br_some, binG_int, binI_add, binI_sub, binI_and, binI_or, binI_xor, binI_mod, binI_shr, cmpG_int, cmpB_lt, cmpB_le, cmpB_gt, cmpB_ge, cmpB_eq, cmpB_ne, cmpB_eqB, truthD_bl, truthD_int, truthD_non, truthD_tup, get_tup, get_rol, bi_len_tup, bi_len_rol, bi_int_int, bi_int_bl, bi_abs, asgP_name, op_ite, opL_some, get_ref, set_ref, bi_len_ref, bi_tuple_ref, bi_tuple_tup, bi_list_ref, bi_list_tup, bi_sum_ref, bi_sum_tup, bi_all_ref, bi_any_ref, bi_max, bi_min, truthD_ref, trO_lst, atI_pos, ixN_pos, bi_isi, gM_cf, gM_gl, gM_fld, gM_mth, gM_opo, gM_opi, gM_opu, gM_eqo, gM_isi, gM_ist, gM_xfd, gM_xiz, gM_exm, gM_fuel, gM_hot0, gM_hot1, List.getElem?_cons_zero, List.getElem?_cons_succ, List.set_cons_zero, List.set_cons_succ, decide_eq_true_eq, Bool.true_eq_false, Bool.false_eq_true, if_true, if_false, ite_true, ite_false, reduceIte, Int.reduceLE, Int.reduceLT, Int.reduceNeg, Int.reduceToNat, Int.reduceEq, Int.reduceNe, List.length_cons, List.length_nil, Nat.reduceAdd, Nat.reduceSub, Nat.reduceLT, List.length_map, true_and, and_true, decide_true, decide_false, Bool.not_true, Bool.not_false, wss_cons, wss_nil]
    refine ⟨f2.trans f3, _, _, _, ?_, rfl⟩
    have : 0 ≤ t * 2 ^ ((j : Int) * 8).toNat := Int.mul_nonneg t0 (Int.le_of_lt (Int.pow_pos (by decide)))
    omega
  · subst e2
    simp only [we_fold, wss_fold, wt_fold, we_non, we_bl, we_int, we_str, we_bty, we_var, we_glob, we_bin, we_un, wt_def, we_not, we_and, we_or, we_cmp, we_cmp2, we_ife, we_tup, we_lst, we_idx, we_sl, we_attr, we_call, we_make, we_meth, we_bi, we_bm, wes_nil, wes_cons, wo_none, wo_some, wi_e, wi_rng, we_lc, ws_expr, ws_ret, ws_retN, ws_pass, ws_brk, ws_cont, ws_asg, ws_sub, ws_fld, ws_aug, ws_iff, ws_for, ws_whl, ws_raise, ws_try, op_some, opD_some, br_some, binG_int, binI_add, binI_sub, binI_and, binI_or, binI_xor, binI_mod, binI_shr, cmpG_int, cmpB_lt, cmpB_le, cmpB_gt, cmpB_ge, cmpB_eq, cmpB_ne, cmpB_eqB, truthD_bl, truthD_int, truthD_non, truthD_tup, get_tup, get_rol, bi_len_tup, bi_len_rol, bi_int_int, bi_int_bl, bi_abs, asgP_name, op_ite, opL_some, get_ref, set_ref, bi_len_ref, bi_tuple_ref, bi_tuple_tup, bi_list_ref, bi_list_tup, bi_sum_ref, bi_sum_tup, bi_all_ref, bi_any_ref, bi_max, bi_min, truthD_ref, trO_lst, atI_pos, ixN_pos, bi_isi, gM_cf, gM_gl, gM_fld, gM_mth, gM_opo, gM_opi, gM_opu, gM_eqo, gM_isi, gM_ist, gM_xfd, gM_xiz, gM_exm, gM_fuel, gM_hot0, gM_hot1, List.getElem?_cons_zero, List.getElem?_cons_succ, List.set_cons_zero, List.set_cons_succ, decide_eq_true_eq, Bool.true_eq_false, Bool.false_eq_true, if_true, if_false, ite_true, ite_false, reduceIte, Int.reduceLE, Int.reduceLT, Int.reduceNeg, Int.reduceToNat, Int.reduceEq, Int.reduceNe, List.length_cons, List.length_nil, Nat.reduceAdd, Nat.reduceSub, Nat.reduceLT, List.length_map, true_and, and_true, decide_true, decide_false, Bool.not_true, Bool.not_false, wss_cons, wss_nil, binI_shl1 h0 (show w ≤ 100000000 by omega), PySem.W.kbt_mask]
    exact ⟨f1.trans f2, _, rfl, Int.emod_nonneg _ (by omega), Int.emod_lt_of_pos _ p0⟩
/-- there is no word of this width and value -/
def NoWord (w v : Int) : Prop := w < 0 ∨ 256 < w ∨ v < 0 ∨ 2 ^ w.toNat ≤ v
theorem wrong_ok (D : DrawsW T gb) (hwr : T ("_law_wrong_word", none) = some Tx.f__law_wrong_word) (st : Sto h s) : (cal T gb none (k + 6) ("_law_wrong_word", none) [.ref s.1] h).wp (fun v h' => Fr s h h' ∧ ∃ a b : Int, v = .tup [.int a, .int b] ∧ NoWord a b ∧ a.natAbs < 2 ^ 1000 ∧ b.natAbs < 2 ^ 1000) X := by
  have hz : sizeLine = 16777216 := by decide
  refine cal_wp hwr rfl ?_
  simp only [Tx.f__law_wrong_word, we_fold, wss_fold, wt_fold, we_non, we_bl, we_int, we_str, we_bty, we_var, we_glob, we_bin, we_un, wt_def, we_not, we_and, we_or, we_cmp, we_cmp2, we_ife, we_tup, we_lst, we_idx, we_sl, we_attr, we_call, we_make, we_meth, we_bi, we_bm, wes_nil, wes_cons, wo_none, wo_some, wi_e, wi_rng, we_lc, ws_expr, ws_ret, ws_retN, ws_pass, ws_brk, ws_cont, ws_asg, ws_sub, ws_fld, ws_aug, ws_iff, ws_for, ws_whl, ws_raise, ws_try, op_some, opD_some, br_some, binG_int, binI_add, binI_sub, binI_and, binI_or, binI_xor, binI_mod, binI_shr, cmpG_int, cmpB_lt, cmpB_le, cmpB_gt, cmpB_ge, cmpB_eq, cmpB_ne, cmpB_eqB, truthD_bl, truthD_int, truthD_non, truthD_tup, get_tup, get_rol, bi_len_tup, bi_len_rol, bi_int_int, bi_int_bl, bi_abs, asgP_name, op_ite, opL_some, get_ref, set_ref, bi_len_ref, bi_tuple_ref, bi_tuple_tup, bi_list_ref, bi_list_tup, bi_sum_ref, bi_sum_tup, bi_all_ref, bi_any_ref, bi_max, bi_min, truthD_ref, trO_lst, atI_pos, ixN_pos, bi_isi, gM_cf, gM_gl, gM_fld, gM_mth, gM_opo, gM_opi, gM_opu, gM_eqo, gM_isi, gM_ist, gM_xfd, gM_xiz, gM_exm, gM_fuel, gM_hot0, gM_hot1, List.getElem?_cons_zero, List.getElem?_cons_succ, List.set_cons_zero, List.set_cons_succ, decide_eq_true_eq, Bool.true_eq_false, Bool.false_eq_true, if_true, if_false, ite_true, ite_false, reduceIte, Int.reduceLE, Int.reduceLT, Int.reduceNeg, Int.reduceToNat, Int.reduceEq, Int.reduceNe, List.length_cons, List.length_nil, Nat.reduceAdd, Nat.reduceSub, Nat.reduceLT, List.length_map, true_and, and_true, decide_true, decide_false, Bool.not_true, Bool.not_false, wss_cons, wss_nil, List.map_cons, List.map_nil, List.replicate, List.cons_append, List.nil_append]
  refine (take_ok D.toDraws st _ (by omega)).imp fun v h1 ⟨f1, i, e, i0, i1⟩ => ?_
  subst e
  simp only [we_fold, wss_fold, wt_fold, we_non, we_bl, we_int, we_str, we_bty, we_var, we_glob, we_bin, we_un, wt_def, we_not, we_and, we_or, we_cmp, we_cmp2, we_ife, we_tup, we_lst, we_idx, we_sl, we_attr, we_call, we_make, we_meth, we_bi, we_bm, wes_nil, wes_cons, wo_none, wo_some, wi_e, wi_rng, we_lc, ws_expr, ws_ret, ws_retN, ws_pass, ws_brk, ws_cont, ws_asg, ws_sub, ws_fld, ws_aug, ws_iff, ws_for, ws_whl, ws_raise, ws_try, op_some, opD_some, br_some, binG_int, binI_add, binI_sub, binI_and, binI_or, binI_xor, binI_mod, binI_shr, cmpG_int, cmpB_lt, cmpB_le, cmpB_gt, cmpB_ge, cmpB_eq, cmpB_ne, cmpB_eqB, truthD_bl, truthD_int, truthD_non, truthD_tup, get_tup, get_rol, bi_len_tup, bi_len_rol, bi_int_int, bi_int_bl, bi_abs, asgP_name, op_ite, opL_some, get_ref, set_ref, bi_len_ref, bi_tuple_ref, bi_tuple_tup, bi_list_ref, bi_list_tup, bi_sum_ref, bi_sum_tup, bi_all_ref, bi_any_ref, bi_max, bi_min, truthD_ref, trO_lst, atI_pos, ixN_pos, bi_isi, gM_cf, gM_gl, gM_fld, gM_mth, gM_opo, gM_opi, gM_opu, gM_eqo, gM_isi, gM_ist, gM_xfd, gM_xiz, gM_exm, gM_fuel, gM_hot0, gM_hot1, List.getElem?_cons_zero, List.getElem?_cons_succ, List.set_cons_zero, List.set_cons_succ, decide_eq_true_eq, Bool.true_eq_false, Bool.false_eq_true, if_true, if_false, ite_true, ite_false, reduceIte, Int.reduceLE, Int.reduceLT, Int.reduceNeg, Int.reduceToNat, Int.reduceEq, Int.reduceNe, List.length_cons, List.length_nil, Nat.reduceAdd, Nat.reduceSub, Nat.reduceLT, List.length_map, true_and, and_true, decide_true, decide_false, Bool.not_true, Bool.not_false, wss_cons, wss_nil]
  refine (width_ok D f1.st).imp fun v h2 ⟨f2, w, e, w0, w1⟩ => ?_
  subst e
  simp only [we_fold, wss_fold, wt_fold, we_non, we_bl, we_int, we_str, we_bty, we_var, we_glob, we_bin, we_un, wt_def, we_not, we_and, we_or, we_cmp, we_cmp2, we_ife, we_tup, we_lst, we_idx, we_sl, we_attr, we_call, we_make, we_meth, we_bi, we_bm, wes_nil, wes_cons, wo_none, wo_some, wi_e, wi_rng, we_lc, ws_expr, ws_ret, ws_retN, ws_pass, ws_brk, ws_cont, ws_asg, ws_sub, ws_fld, ws_aug, ws_iff, ws_for, ws_whl, ws_raise, ws_try, op_some, opD_some, br_some, binG_int, binI_add, binI_sub, binI_and, binI_or, binI_xor, binI_mod, binI_shr, cmpG_int, cmpB_lt, cmpB_le, cmpB_gt, cmpB_ge, cmpB_eq, cmpB_ne, cmpB_eqB, truthD_bl, truthD_int, truthD_non, truthD_tup, get_tup, get_rol, bi_len_tup, bi_len_rol, bi_int_int, bi_int_bl, bi_abs, asgP_name, op_ite, opL_some, get_ref, set_ref, bi_len_ref, bi_tuple_ref, bi_tuple_tup, bi_list_ref, bi_list_tup, bi_sum_ref, bi_sum_tup, bi_all_ref, bi_any_ref, bi_max, bi_min, truthD_ref, trO_lst, atI_pos, ixN_pos, bi_isi, gM_cf, gM_gl, gM_fld, gM_mth, gM_opo, gM_opi, gM_opu, gM_eqo, gM_isi, gM_ist, gM_xfd, gM_xiz, gM_exm, gM_fuel, gM_hot0, gM_hot1, List.getElem?_cons_zero, List.getElem?_cons_succ, List.set_cons_zero, List.set_cons_succ, decide_eq_true_eq, Bool.true_eq_false, Bool.false_eq_true, if_true, if_false, ite_true, ite_false, reduceIte, Int.reduceLE, Int.reduceLT, Int.reduceNeg, Int.reduceToNat, Int.reduceEq, Int.reduceNe, List.length_cons, List.length_nil, Nat.reduceAdd, Nat.reduceSub, Nat.reduceLT, List.length_map, true_and, and_true, decide_true, decide_false, Bool.not_true, Bool.not_false, wss_cons, wss_nil]
  refine (value_ok D f2.st w w0 w1).imp fun v h3 ⟨f3, x, e, x0, x1⟩ => ?_
  subst e
  have f13 := (f1.trans f2).trans f3
  have p8 : (2 : Int) ^ 1000 = 2 ^ 600 * 2 ^ 400 := by decide +kernel
  have p4 : (2 : Int) ^ 600 = 2 ^ 200 * 2 ^ 400 := by decide +kernel
  have p5 : (1000 : Int) < 2 ^ 400 := by decide +kernel
  have p6 : (2 : Int) ^ 400 < 2 ^ 1000 := by decide +kernel
  have p7 : (2 : Int) ^ 256 + 1000 < 2 ^ 400 := by decide +kernel
  have cN : ∀ z : Int, z.natAbs < 2 ^ 1000 ↔ (-(2 ^ 1000) < z ∧ z < 2 ^ 1000) := fun z => by
    have : ((2 ^ 1000 : Nat) : Int) = 2 ^ 1000 := by simp
    omega
  have wp : (2 : Int) ^ w.toNat ≤ 2 ^ 256 := pow_le2 (by omega)
  have bx : x.natAbs < 2 ^ 1000 := by rw [cN]; omega
  have bw : w.natAbs < 2 ^ 1000 := by rw [cN]; omega
  by_cases a1 : i < 4
  · simp only [we_fold, wss_fold, wt_fold, we_non, we_bl, we_int, we_str, we_bty, we_var, we_glob, we_bin, we_un, wt_def, we_not, we_and, we_or, we_cmp, we_cmp2, we_ife, we_tup, we_lst, we_idx, we_sl, we_attr, we_call, we_make, we_meth, we_bi, we_bm, wes_nil, wes_cons, wo_none, wo_some, wi_e, wi_rng, we_lc, ws_expr, ws_ret, ws_retN, ws_pass, ws_brk, ws_cont, ws_asg, ws_sub, ws_fld, ws_aug, ws_iff, ws_for, ws_whl, ws_raise, ws_try, op_some, opD_some, br_some, binG_int, binI_add, binI_sub, binI_and, binI_or, binI_xor, binI_mod, binI_shr, cmpG_int, cmpB_lt, cmpB_le, cmpB_gt, cmpB_ge, cmpB_eq, cmpB_ne, cmpB_eqB, truthD_bl, truthD_int, truthD_non, truthD_tup, get_tup, get_rol, bi_len_tup, bi_len_rol, bi_int_int, bi_int_bl, bi_abs, asgP_name, op_ite, opL_some, get_ref, set_ref, bi_len_ref, bi_tuple_ref, bi_tuple_tup, bi_list_ref, bi_list_tup, bi_sum_ref, bi_sum_tup, bi_all_ref, bi_any_ref, bi_max, bi_min, truthD_ref, trO_lst, atI_pos, ixN_pos, bi_isi, gM_cf, gM_gl, gM_fld, gM_mth, gM_opo, gM_opi, gM_opu, gM_eqo, gM_isi, gM_ist, gM_xfd, gM_xiz, gM_exm, gM_fuel, gM_hot0, gM_hot1, List.getElem?_cons_zero, List.getElem?_cons_succ, List.set_cons_zero, List.set_cons_succ, decide_eq_true_eq, Bool.true_eq_false, Bool.false_eq_true, if_true, if_false, ite_true, ite_false, reduceIte, Int.reduceLE, Int.reduceLT, Int.reduceNeg, Int.reduceToNat, Int.reduceEq, Int.reduceNe, List.length_cons, List.length_nil, Nat.reduceAdd, Nat.reduceSub, Nat.reduceLT, List.length_map, true_and, and_true, decide_true, decide_false, Bool.not_true, Bool.not_false, wss_cons, wss_nil, a1, hz, Nat.reduceLeDiff]
    refine (great_ok D f3.st).imp fun v h4 ⟨f4, a, e, a0, a1⟩ => ?_
    subst e
    simp only [we_fold, wss_fold, wt_fold, we_non, we_bl, we_int, we_str, we_bty, we_var, we_glob, we_bin, we_un, wt_def, we_not, we_and, we_or, we_cmp, we_cmp2, we_ife, we_tup, we_lst, we_idx, we_sl, we_attr, we_call, we_make, we_meth, we_bi, we_bm, wes_nil, wes_cons, wo_none, wo_some, wi_e, wi_rng, we_lc, ws_expr, ws_ret, ws_retN, ws_pass, ws_brk, ws_cont, ws_asg, ws_sub, ws_fld, ws_aug, ws_iff, ws_for, ws_whl, ws_raise, ws_try, op_some, opD_some, br_some, binG_int, binI_add, binI_sub, binI_and, binI_or, binI_xor, binI_mod, binI_shr, cmpG_int, cmpB_lt, cmpB_le, cmpB_gt, cmpB_ge, cmpB_eq, cmpB_ne, cmpB_eqB, truthD_bl, truthD_int, truthD_non, truthD_tup, get_tup, get_rol, bi_len_tup, bi_len_rol, bi_int_int, bi_int_bl, bi_abs, asgP_name, op_ite, opL_some, get_ref, set_ref, bi_len_ref, bi_tuple_ref, bi_tuple_tup, bi_list_ref, bi_list_tup, bi_sum_ref, bi_sum_tup, bi_all_ref, bi_any_ref, bi_max, bi_min, truthD_ref, trO_lst, atI_pos, ixN_pos, bi_isi, gM_cf, gM_gl, gM_fld, gM_mth, gM_opo, gM_opi, gM_opu, gM_eqo, gM_isi, gM_ist, gM_xfd, gM_xiz, gM_exm, gM_fuel, gM_hot0, gM_hot1, List.getElem?_cons_zero, List.getElem?_cons_succ, List.set_cons_zero, List.set_cons_succ, decide_eq_true_eq, Bool.true_eq_false, Bool.false_eq_true, if_true, if_false, ite_true, ite_false, reduceIte, Int.reduceLE, Int.reduceLT, Int.reduceNeg, Int.reduceToNat, Int.reduceEq, Int.reduceNe, List.length_cons, List.length_nil, Nat.reduceAdd, Nat.reduceSub, Nat.reduceLT, List.length_map, true_and, and_true, decide_true, decide_false, Bool.not_true, Bool.not_false, wss_cons, wss_nil, hz, Nat.reduceLeDiff]
    refine (great_ok D f4.st).imp fun v h5 ⟨f5, b, e, b0, b1⟩ => ?_
    subst e
    have f6 : Fr s h5 (h5 ++ [O.lst [.int (0 - 1), .int 257, .int (0 - a), .int b]]) := f5.st.fr (Keep.app _ _)
    have f16 := ((f13.trans f4).trans f5).trans f6
    have hi : i = 0 ∨ i = 1 ∨ i = 2 ∨ i = 3 := by omega
    simp only [we_fold, wss_fold, wt_fold, we_non, we_bl, we_int, we_str, we_bty, we_var, we_glob, we_bin, we_un, wt_def, we_not, we_and, we_or, we_cmp, we_cmp2, we_ife, we_tup, we_lst, we_idx, we_sl, we_attr, we_call, we_make, we_meth, we_bi, we_bm, wes_nil, wes_cons, wo_none, wo_some, wi_e, wi_rng, we_lc, ws_expr, ws_ret, ws_retN, ws_pass, ws_brk, ws_cont, ws_asg, ws_sub, ws_fld, ws_aug, ws_iff, ws_for, ws_whl, ws_raise, ws_try, op_some, opD_some, br_some, binG_int, binI_add, binI_sub, binI_and, binI_or, binI_xor, binI_mod, binI_shr, cmpG_int, cmpB_lt, cmpB_le, cmpB_gt, cmpB_ge, cmpB_eq, cmpB_ne, cmpB_eqB, truthD_bl, truthD_int, truthD_non, truthD_tup, get_tup, get_rol, bi_len_tup, bi_len_rol, bi_int_int, bi_int_bl, bi_abs, asgP_name, op_ite, opL_some, get_ref, set_ref, bi_len_ref, bi_tuple_ref, bi_tuple_tup, bi_list_ref, bi_list_tup, bi_sum_ref, bi_sum_tup, bi_all_ref, bi_any_ref, bi_max, bi_min, truthD_ref, trO_lst, atI_pos, ixN_pos, bi_isi, gM_cf, gM_gl, gM_fld, gM_mth, gM_opo, gM_opi, gM_opu, gM_eqo, gM_isi, gM_ist, gM_xfd, gM_xiz, gM_exm, gM_fuel, gM_hot0, gM_hot1, List.getElem?_cons_zero, List.getElem?_cons_succ, List.set_cons_zero, List.set_cons_succ, decide_eq_true_eq, Bool.true_eq_false, Bool.false_eq_true, if_true, if_false, ite_true, ite_false, reduceIte, Int.reduceLE, Int.reduceLT, Int.reduceNeg, Int.reduceToNat, Int.reduceEq, Int.reduceNe, List.length_cons, List.length_nil, Nat.reduceAdd, Nat.reduceSub, Nat.reduceLT, List.length_map, true_and, and_true, decide_true, decide_false, Bool.not_true, Bool.not_false, wss_cons, wss_nil, app_at, atI_pos i0, hz, Nat.reduceLeDiff]
    rcases hi with rfl | rfl | rfl | rfl
    · exact ⟨f16, _, _, rfl, .inl (by omega), by rw [cN]; omega, bx⟩
    · exact ⟨f16, _, _, rfl, .inr (.inl (by omega)), by rw [cN]; omega, bx⟩
    · exact ⟨f16, _, _, rfl, .inl (by omega), by rw [cN]; omega, bx⟩
    · exact ⟨f16, _, _, rfl, .inr (.inl (by omega)), by rw [cN]; omega, bx⟩
  by_cases a2 : i = 4
  · simp only [we_fold, wss_fold, wt_fold, we_non, we_bl, we_int, we_str, we_bty, we_var, we_glob, we_bin, we_un, wt_def, we_not, we_and, we_or, we_cmp, we_cmp2, we_ife, we_tup, we_lst, we_idx, we_sl, we_attr, we_call, we_make, we_meth, we_bi, we_bm, wes_nil, wes_cons, wo_none, wo_some, wi_e, wi_rng, we_lc, ws_expr, ws_ret, ws_retN, ws_pass, ws_brk, ws_cont, ws_asg, ws_sub, ws_fld, ws_aug, ws_iff, ws_for, ws_whl, ws_raise, ws_try, op_some, opD_some, br_some, binG_int, binI_add, binI_sub, binI_and, binI_or, binI_xor, binI_mod, binI_shr, cmpG_int, cmpB_lt, cmpB_le, cmpB_gt, cmpB_ge, cmpB_eq, cmpB_ne, cmpB_eqB, truthD_bl, truthD_int, truthD_non, truthD_tup, get_tup, get_rol, bi_len_tup, bi_len_rol, bi_int_int, bi_int_bl, bi_abs, asgP_name, op_ite, opL_some, get_ref, set_ref, bi_len_ref, bi_tuple_ref, bi_tuple_tup, bi_list_ref, bi_list_tup, bi_sum_ref, bi_sum_tup, bi_all_ref, bi_any_ref, bi_max, bi_min, truthD_ref, trO_lst, atI_pos, ixN_pos, bi_isi, gM_cf, gM_gl, gM_fld, gM_mth, gM_opo, gM_opi, gM_opu, gM_eqo, gM_isi, gM_ist, gM_xfd, gM_xiz, gM_exm, gM_fuel, gM_hot0, gM_hot1, List.getElem?_cons_zero, List.getElem?_cons_succ, List.set_cons_zero, List.set_cons_succ, decide_eq_true_eq, Bool.true_eq_false, Bool.false_eq_true, if_true, if_false, ite_true, ite_false, reduceIte, Int.reduceLE, Int.reduceLT, Int.reduceNeg, Int.reduceToNat, Int.reduceEq, Int.reduceNe, List.length_cons, List.length_nil, Nat.reduceAdd, Nat.reduceSub, Nat.reduceLT, List.length_map, true_and, and_true, decide_true, decide_false, Bool.not_true, Bool.not_false, wss_cons, wss_nil, a1, a2, hz, Nat.reduceLeDiff]
    exact ⟨f13, _, _, rfl, .inr (.inr (.inl (by omega))), bw, by rw [cN]; omega⟩
  by_cases a3 : i = 5
  · simp only [we_fold, wss_fold, wt_fold, we_non, we_bl, we_int, we_str, we_bty, we_var, we_glob, we_bin, we_un, wt_def, we_not, we_and, we_or, we_cmp, we_cmp2, we_ife, we_tup, we_lst, we_idx, we_sl, we_attr, we_call, we_make, we_meth, we_bi, we_bm, wes_nil, wes_cons, wo_none, wo_some, wi_e, wi_rng, we_lc, ws_expr, ws_ret, ws_retN, ws_pass, ws_brk, ws_cont, ws_asg, ws_sub, ws_fld, ws_aug, ws_iff, ws_for, ws_whl, ws_raise, ws_try, op_some, opD_some, br_some, binG_int, binI_add, binI_sub, binI_and, binI_or, binI_xor, binI_mod, binI_shr, cmpG_int, cmpB_lt, cmpB_le, cmpB_gt, cmpB_ge, cmpB_eq, cmpB_ne, cmpB_eqB, truthD_bl, truthD_int, truthD_non, truthD_tup, get_tup, get_rol, bi_len_tup, bi_len_rol, bi_int_int, bi_int_bl, bi_abs, asgP_name, op_ite, opL_some, get_ref, set_ref, bi_len_ref, bi_tuple_ref, bi_tuple_tup, bi_list_ref, bi_list_tup, bi_sum_ref, bi_sum_tup, bi_all_ref, bi_any_ref, bi_max, bi_min, truthD_ref, trO_lst, atI_pos, ixN_pos, bi_isi, gM_cf, gM_gl, gM_fld, gM_mth, gM_opo, gM_opi, gM_opu, gM_eqo, gM_isi, gM_ist, gM_xfd, gM_xiz, gM_exm, gM_fuel, gM_hot0, gM_hot1, List.getElem?_cons_zero, List.getElem?_cons_succ, List.set_cons_zero, List.set_cons_succ, decide_eq_true_eq, Bool.true_eq_false, Bool.false_eq_true, if_true, if_false, ite_true, ite_false, reduceIte, Int.reduceLE, Int.reduceLT, Int.reduceNeg, Int.reduceToNat, Int.reduceEq, Int.reduceNe, List.length_cons, List.length_nil, Nat.reduceAdd, Nat.reduceSub, Nat.reduceLT, List.length_map, true_and, and_true, decide_true, decide_false, Bool.not_true, Bool.not_false, wss_cons, wss_nil, a1, a2, a3, hz, Nat.reduceLeDiff]
    refine (great_ok D f3.st).imp fun v h4 ⟨f4, a, e, a0, a1⟩ => ?_
    subst e
    simp only [we_fold, wss_fold, wt_fold, we_non, we_bl, we_int, we_str, we_bty, we_var, we_glob, we_bin, we_un, wt_def, we_not, we_and, we_or, we_cmp, we_cmp2, we_ife, we_tup, we_lst, we_idx, we_sl, we_attr, we_call, we_make, we_meth, we_bi, we_bm, wes_nil, wes_cons, wo_none, wo_some, wi_e, wi_rng, we_lc, ws_expr, ws_ret, ws_retN, ws_pass, ws_brk, ws_cont, ws_asg, ws_sub, ws_fld, ws_aug, ws_iff, ws_for, ws_whl, ws_raise, ws_try, op_some, opD_some, br_some, binG_int, binI_add, binI_sub, binI_and, binI_or, binI_xor, binI_mod, binI_shr, cmpG_int, cmpB_lt, cmpB_le, cmpB_gt, cmpB_ge, cmpB_eq, cmpB_ne, cmpB_eqB, truthD_bl, truthD_int, truthD_non, truthD_tup, get_tup, get_rol, bi_len_tup, bi_len_rol, bi_int_int, bi_int_bl, bi_abs, asgP_name, op_ite, opL_some, get_ref, set_ref, bi_len_ref, bi_tuple_ref, bi_tuple_tup, bi_list_ref, bi_list_tup, bi_sum_ref, bi_sum_tup, bi_all_ref, bi_any_ref, bi_max, bi_min, truthD_ref, trO_lst, atI_pos, ixN_pos, bi_isi, gM_cf, gM_gl, gM_fld, gM_mth, gM_opo, gM_opi, gM_opu, gM_eqo, gM_isi, gM_ist, gM_xfd, gM_xiz, gM_exm, gM_fuel, gM_hot0, gM_hot1, List.getElem?_cons_zero, List.getElem?_cons_succ, List.set_cons_zero, List.set_cons_succ, decide_eq_true_eq, Bool.true_eq_false, Bool.false_eq_true, if_true, if_false, ite_true, ite_false, reduceIte, Int.reduceLE, Int.reduceLT, Int.reduceNeg, Int.reduceToNat, Int.reduceEq, Int.reduceNe, List.length_cons, List.length_nil, Nat.reduceAdd, Nat.reduceSub, Nat.reduceLT, List.length_map, true_and, and_true, decide_true, decide_false, Bool.not_true, Bool.not_false, wss_cons, wss_nil, hz, Nat.reduceLeDiff]
    exact ⟨f13.trans f4, _, _, rfl, .inr (.inr (.inl (by omega))), bw, by rw [cN]; omega⟩
  simp only [we_fold, wss_fold, wt_fold, we_non, we_bl, we_int, we_str, we_bty, we_var, we_glob, we_bin, we_un, wt_def, we_not, we_and, we_or, we_cmp, we_cmp2, we_ife, we_tup, we_lst, we_idx, we_sl, we_attr, we_call, we_make, we_meth, we_bi, we_bm, wes_nil, wes_cons, wo_none, wo_some, wi_e, wi_rng, we_lc, ws_expr, ws_ret, ws_retN, ws_pass, ws_brk, ws_cont, ws_asg, ws_sub, ws_fld, ws_aug, ws_iff, ws_for, ws_whl, ws_raise, ws_try, op_some, opD_some, br_some, binG_int, binI_add, binI_sub, binI_and, binI_or, binI_xor, binI_mod, binI_shr, cmpG_int, cmpB_lt, cmpB_le, cmpB_gt, cmpB_ge, cmpB_eq, cmpB_ne, cmpB_eqB, truthD_bl, truthD_int, truthD_non, truthD_tup, get_tup, get_rol, bi_len_tup, bi_len_rol, bi_int_int, bi_int_bl, bi_abs, asgP_name, op_ite, opL_some, get_ref, set_ref, bi_len_ref, bi_tuple_ref, bi_tuple_tup, bi_list_ref, bi_list_tup, bi_sum_ref, bi_sum_tup, bi_all_ref, bi_any_ref, bi_max, bi_min, truthD_ref, trO_lst, atI_pos, ixN_pos, bi_isi, gM_cf, gM_gl, gM_fld, gM_mth, gM_opo, gM_opi, gM_opu, gM_eqo, gM_isi, gM_ist, gM_xfd, gM_xiz, gM_exm, gM_fuel, gM_hot0, gM_hot1, List.getElem?_cons_zero, List.getElem?_cons_succ, List.set_cons_zero, List.set_cons_succ, decide_eq_true_eq, Bool.true_eq_false, Bool.false_eq_true, if_true, if_false, ite_true, ite_false, reduceIte, Int.reduceLE, Int.reduceLT, Int.reduceNeg, Int.reduceToNat, Int.reduceEq, Int.reduceNe, List.length_cons, List.length_nil, Nat.reduceAdd, Nat.reduceSub, Nat.reduceLT, List.length_map, true_and, and_true, decide_true, decide_false, Bool.not_true, Bool.not_false, wss_cons, wss_nil, a1, a2, a3, hz, Nat.reduceLeDiff, binI_shl1 w0 (show w ≤ 100000000 by omega)]
  refine (take_ok D.toDraws f3.st _ (by omega)).imp fun v h4 ⟨f4, t, e, t0, t1⟩ => ?_
  subst e
  have q0 : (0 : Int) < 2 ^ w.toNat := Int.pow_pos (by decide)
  by_cases a4 : i = 7
  · simp only [we_fold, wss_fold, wt_fold, we_non, we_bl, we_int, we_str, we_bty, we_var, we_glob, we_bin, we_un, wt_def, we_not, we_and, we_or, we_cmp, we_cmp2, we_ife, we_tup, we_lst, we_idx, we_sl, we_attr, we_call, we_make, we_meth, we_bi, we_bm, wes_nil, wes_cons, wo_none, wo_some, wi_e, wi_rng, we_lc, ws_expr, ws_ret, ws_retN, ws_pass, ws_brk, ws_cont, ws_asg, ws_sub, ws_fld, ws_aug, ws_iff, ws_for, ws_whl, ws_raise, ws_try, op_some, opD_some, br_some, binG_int, binI_add, binI_sub, binI_and, binI_or, binI_xor, binI_mod, binI_shr, cmpG_int, cmpB_lt, cmpB_le, cmpB_gt, cmpB_ge, cmpB_eq, cmpB_ne, cmpB_eqB, truthD_bl, truthD_int, truthD_non, truthD_tup, get_tup, get_rol, bi_len_tup, bi_len_rol, bi_int_int, bi_int_bl, bi_abs, asgP_name, op_ite, opL_some, get_ref, set_ref, bi_len_ref, bi_tuple_ref, bi_tuple_tup, bi_list_ref, bi_list_tup, bi_sum_ref, bi_sum_tup, bi_all_ref, bi_any_ref, bi_max, bi_min, truthD_ref, trO_lst, atI_pos, ixN_pos, bi_isi, gM_cf, gM_gl, gM_fld, gM_mth, gM_opo, gM_opi, gM_opu, gM_eqo, gM_isi, gM_ist, gM_xfd, gM_xiz, gM_exm, gM_fuel, gM_hot0, gM_hot1, List.getElem?_cons_zero, List.getElem?_cons_succ, List.set_cons_zero, List.set_cons_succ, decide_eq_true_eq, Bool.true_eq_false, Bool.false_eq_true, if_true, if_false, ite_true, ite_false, reduceIte, Int.reduceLE, Int.reduceLT, Int.reduceNeg, Int.reduceToNat, Int.reduceEq, Int.reduceNe, List.length_cons, List.length_nil, Nat.reduceAdd, Nat.reduceSub, Nat.reduceLT, List.length_map, true_and, and_true, decide_true, decide_false, Bool.not_true, Bool.not_false, wss_cons, wss_nil, a4, hz, Nat.reduceLeDiff, binI_mulR, decide_true]
    exact ⟨f13.trans f4, _, _, rfl, .inr (.inr (.inr (by omega))), bw, by rw [cN]; omega⟩
  · simp only [we_fold, wss_fold, wt_fold, we_non, we_bl, we_int, we_str, we_bty, we_var, we_glob, we_bin, we_un, wt_def, we_not, we_and, we_or, we_cmp, we_cmp2, we_ife, we_tup, we_lst, we_idx, we_sl, we_attr, we_call, we_make, we_meth, we_bi, we_bm, wes_nil, wes_cons, wo_none, wo_some, wi_e, wi_rng, we_lc, ws_expr, ws_ret, ws_retN, ws_pass, ws_brk, ws_cont, ws_asg, ws_sub, ws_fld, ws_aug, ws_iff, ws_for, ws_whl, ws_raise, ws_try, op_some, opD_some, br_some, binG_int, binI_add, binI_sub, binI_and, binI_or, binI_xor, binI_mod, binI_shr, cmpG_int, cmpB_lt, cmpB_le, cmpB_gt, cmpB_ge, cmpB_eq, cmpB_ne, cmpB_eqB, truthD_bl, truthD_int, truthD_non, truthD_tup, get_tup, get_rol, bi_len_tup, bi_len_rol, bi_int_int, bi_int_bl, bi_abs, asgP_name, op_ite, opL_some, get_ref, set_ref, bi_len_ref, bi_tuple_ref, bi_tuple_tup, bi_list_ref, bi_list_tup, bi_sum_ref, bi_sum_tup, bi_all_ref, bi_any_ref, bi_max, bi_min, truthD_ref, trO_lst, atI_pos, ixN_pos, bi_isi, gM_cf, gM_gl, gM_fld, gM_mth, gM_opo, gM_opi, gM_opu, gM_eqo, gM_isi, gM_ist, gM_xfd, gM_xiz, gM_exm, gM_fuel, gM_hot0, gM_hot1, List.getElem?_cons_zero, List.getElem?_cons_succ, List.set_cons_zero, List.set_cons_succ, decide_eq_true_eq, Bool.true_eq_false, Bool.false_eq_true, if_true, if_false, ite_true, ite_false, reduceIte, Int.reduceLE, Int.reduceLT, Int.reduceNeg, Int.reduceToNat, Int.reduceEq, Int.reduceNe, List.length_cons, List.length_nil, Nat.reduceAdd, Nat.reduceSub, Nat.reduceLT, List.length_map, true_and, and_true, decide_true, decide_false, Bool.not_true, Bool.not_false, wss_cons, wss_nil, a4, hz, Nat.reduceLeDiff, binI_mulR, decide_false]
    exact ⟨f13.trans f4, _, _, rfl, .inr (.inr (.inr (by omega))), bw, by rw [cN]; omega⟩
end
end Ip
end
section
set_option Elab.async false
set_option linter.all false
set_option maxRecDepth 100000
set_option maxHeartbeats 1000000
/-! errors that are raised and handled; _law_same -/
namespace Ip
open PySem L2
/-! ### the text of an error -/
theorem len_ofString (s : String) : (Str.ofString s).length = s.length := by
  show ((PySem.cpsOfBytes 0 0 s.toByteArray.data.toList).toArray).size = _
  rw [PySem.cpsOfBytes_string]
  simp only [List.size_toArray, List.length_map]
  first | exact String.length_toList | exact String.length_toList s | rfl | simp
theorem len_num {i : Int} (h : i.natAbs < 2 ^ 1000) : (Str.ofString (toString i)).length ≤ 1001 := by
  rw [len_ofString, Int.toString_eq_repr, Int.repr_eq_if]
  have e : (2 : Nat) ^ 1000 < 10 ^ 1000 := by decide +kernel
  split
  · have := (Nat.length_repr_le_iff (n := i.toNat) (k := 1000) (by omega)).mpr (by omega)
    omega
  · have := (Nat.length_repr_le_iff (n := (-i).toNat) (k := 1000) (by omega)).mpr (by omega)
    rw [String.length_append]
    have : ("-" : String).length = 1 := rfl
    omega
/-- a value that an error's text may tell -/
def Tel : D → Prop
  | .int i => i.natAbs < 2 ^ 1000
  | .str s => s.length ≤ 1001
  | _ => False
def TelE (δ : Sl) (e : E) : Prop := (∃ s, e = .str s ∧ s.length ≤ 1001) ∨ ∃ i d, e = .fmt (.var i) ∧ δ[i]? = some (some d) ∧ Tel d
theorem telE_ok {g : G} {δ : Sl} {h : Hs} {e : E} (t : TelE δ e) : ∃ s, evalE g e δ h = .ok (.str s) h ∧ s.length ≤ 1001 := by
  have hz : sizeLine = 16777216 := by decide
  rcases t with ⟨s, rfl, l⟩ | ⟨i, d, rfl, e, t⟩
  · exact ⟨s, by rw [evalE]; rfl, l⟩
  · have e1 : evalE g (.fmt (.var i)) δ h = fmtD d h := by
      rw [evalE]
      show (bnd (evalE g (.var i) δ) fmtD) h = _
      rw [evalE, e]
      rfl
    rw [e1]
    cases d with
    | int n =>
      have t : n.natAbs < 2 ^ 1000 := t
      have l : n.natAbs.log2 < 1920 := by
        by_cases z : n.natAbs = 0
        · rw [z]; decide
        · have := (Nat.log2_lt z (k := 1000)).mpr t
          omega
      refine ⟨_, ?_, len_num t⟩
      show (if n.natAbs.log2 < 1920 then ret (.str (toString n)) else fail : M D) h = _
      rw [if_pos l]
      rfl
    | str s =>
      have t : s.length ≤ 1001 := t
      refine ⟨s, ?_, t⟩
      show (if s.length ≤ sizeLine then ret (.str s) else fail : M D) h = _
      rw [if_pos (by omega)]
      rfl
    | _ => exact t.elim
theorem telJ_ok {g : G} {δ : Sl} {h : Hs} : ∀ {es : List E} {acc : Str}, (∀ e ∈ es, TelE δ e) → acc.length + 1001 * es.length ≤ 16777216 → ∃ s, evalJ g es acc δ h = .ok (.str s) h
  | [], acc, _, _ => ⟨acc, by rw [evalJ]; rfl⟩
  | e :: es, acc, t, l => by
    have hz : sizeLine = 16777216 := by decide
    obtain ⟨s, e1, l1⟩ := telE_ok (g := g) (h := h) (t e (List.mem_cons_self ..))
    have l2 : (acc ++ s).length = acc.length + s.length := Str.length_append _ _
    rw [List.length_cons] at l
    obtain ⟨s2, e2⟩ := telJ_ok (g := g) (δ := δ) (h := h) (es := es) (acc := acc ++ s) (fun e m => t e (List.mem_cons_of_mem _ m)) (by omega)
    refine ⟨s2, ?_⟩
    rw [evalJ]
    unfold bnd
    rw [e1]
    show (if (acc ++ s).length ≤ sizeLine then evalJ g es (acc ++ s) δ else fail) h = _
    rw [if_pos (by omega)]
    exact e2
theorem mkX_fstr {g : G} {c : Str} {fl : List Str} {es : List E} {ds : List D} {δ : Sl} {h : Hs} {P : Pk} (hx : g.xc c = some (fl, .fstr es)) (hl : ds.length = fl.length) (hn : es.length ≤ 100) (t : ∀ e ∈ es, TelE (none :: (ds.map some ++ [none])) e) (p : P.ex c (some (fl.zip ds).reverse) δ h) : (mkX g c ds δ h).wp P := by
  obtain ⟨s, e⟩ := telJ_ok (g := g0) (h := h) (acc := Str.empty) t (by have : Str.empty.length = 0 := rfl; omega)
  unfold mkX
  rw [hx]
  dsimp only
  rw [if_pos hl, evalE, e]
  exact p
theorem mkX_str {g : G} {c s : Str} {fl : List Str} {ds : List D} {δ : Sl} {h : Hs} {P : Pk} (hx : g.xc c = some (fl, .str s)) (hl : ds.length = fl.length) (p : P.ex c (some (fl.zip ds).reverse) δ h) : (mkX g c ds δ h).wp P := by
  unfold mkX
  rw [hx]
  dsimp only
  rw [if_pos hl, evalE]
  exact p
/-! ### a suite that returns -/
theorem rs_ret {r : RS} {d : D} {h1 : Hs} (w : r.wp { nx := fun _ _ => False, rt := fun d' h' => d' = d ∧ h' = h1, bk := fun _ _ => False, ct := fun _ _ => False, ex := fun _ _ _ _ => False }) : r = .ret d h1 := by
  cases r with
  | ret d' h' => obtain ⟨rfl, rfl⟩ := (show d' = d ∧ h' = h1 from w); rfl
  | next _ _ => exact (show False from w).elim
  | brk _ _ => exact (show False from w).elim
  | cont _ _ => exact (show False from w).elim
  | exc _ _ _ _ => exact (show False from w).elim
  | bad => exact (show False from w).elim
theorem suite_ret {i : Nat} {l : List (Str × D)} {c : Str} {δ : Sl} {f : Option (Nat × Nat × Str) → Sl → RS} {P : Pk} (d : D) (h1 : Hs)
    (w : ∀ a dd, (f (some (a, dd, c)) (δ.set i (some (.exn a dd c (l.map (·.1)) (l.map (·.2)))))).wp { nx := fun _ _ => False, rt := fun d' h' => d' = d ∧ h' = h1, bk := fun _ _ => False, ct := fun _ _ => False, ex := fun _ _ _ _ => False }) (p : P.rt d h1) : (suiteN (some i) (some l) c δ f).wp P := by
  have e : ∀ a dd, wipeS i (f (some (a, dd, c)) (δ.set i (some (.exn a dd c (l.map (·.1)) (l.map (·.2)))))) = .ret d h1 := fun a dd => by rw [rs_ret (w a dd)]; rfl
  show (allEq fun a dd => wipeS i (f (some (a, dd, c)) (δ.set i (some (.exn a dd c (l.map (·.1)) (l.map (·.2))))))).wp P
  unfold allEq
  rw [if_pos fun a b => (e a b).trans (e 0 0).symm]
  show RS.wp (wipeS i (f (some (0, 0, c)) (δ.set i (some (.exn 0 0 c (l.map (·.1)) (l.map (·.2))))))) P
  rw [e]
  exact p
theorem suite_ret0 {c : Str} {fs : Option (List (Str × D))} {δ : Sl} {f : Option (Nat × Nat × Str) → Sl → RS} {P : Pk} (d : D) (h1 : Hs)
    (w : (f none δ).wp { nx := fun _ _ => False, rt := fun d' h' => d' = d ∧ h' = h1, bk := fun _ _ => False, ct := fun _ _ => False, ex := fun _ _ _ _ => False }) (p : P.rt d h1) : (suiteN none fs c δ f).wp P := by
  show (noXS (f none δ)).wp P
  rw [rs_ret w]
  exact p
section
variable {T : FKey → Option Fn} {gb : G} {m : Option Hx} {k : Nat} {h : Hs} {X : Xp} {s : Nat × Nat} {hx : Hx}
theorem gH_gl : (gH (gM T gb k none) hx).gl = gb.gl := (rfl)
theorem gH_isi : (gH (gM T gb k none) hx).isi = gb.isi := (rfl)
theorem gH_ist : (gH (gM T gb k none) hx).ist = gb.ist := (rfl)
theorem gH_fld : (gH (gM T gb k none) hx).fld = gb.fld := (rfl)
theorem gH_xfd : (gH (gM T gb k none) hx).xfd = gb.xfd := (rfl)
theorem gH_xiz : (gH (gM T gb k none) hx).xiz = gb.xiz := (rfl)
theorem gH_hot : (gH (gM T gb k none) hx).hot = true := (rfl)
theorem gH_hx : (gH (gM T gb k none) hx).hx = hx := (rfl)
theorem xOk_H {a dd : Nat} {c : Str} : xOk (gH (gM T gb k none) (some (a, dd, c))) a dd c = true := by
  unfold xOk
  rw [gH_hot, gH_hx]
  try simp
theorem tyOf_H {a dd : Nat} {c : Str} {ns : List Str} {ds : List D} (hz : gb.xiz c = true) : tyOf (gH (gM T gb k none) (some (a, dd, c))) h (.exn a dd c ns ds) = some (.cls c) := by
  show (if xOk (gH (gM T gb k none) (some (a, dd, c))) a dd c && (gH (gM T gb k none) (some (a, dd, c))).xiz c then some (D.cls c) else none) = _
  rw [xOk_H, gH_xiz, hz]
  rfl
theorem getattr_H {a dd : Nat} {c f : Str} {ns : List Str} {ds : List D} {Q : D → Hs → Prop} (hz : gb.xfd c f = true) : (getattr (gH (gM T gb k none) (some (a, dd, c))) (.exn a dd c ns ds) f h).wp Q X = Op ((ns.zip ds).lookup f) fun d => Q d h := by
  show (if xOk (gH (gM T gb k none) (some (a, dd, c))) a dd c && (gH (gM T gb k none) (some (a, dd, c))).xfd c f then (match (ns.zip ds).lookup f with
    | some d => .ok d h
    | none => .bad) else .bad : R D).wp Q X = _
  rw [xOk_H, gH_xfd, hz]
  show (match (ns.zip ds).lookup f with
    | some d => .ok d h
    | none => .bad : R D).wp Q X = _
  cases (ns.zip ds).lookup f <;> rfl
/-! ### kinds of values -/
theorem tyOf_non {g : G} : tyOf g h .non = some (.ty "NoneType") := (rfl)
theorem tyOf_bl {g : G} {b : Bool} : tyOf g h (.bl b) = some (.ty "bool") := (rfl)
theorem tyOf_int {g : G} {i : Int} : tyOf g h (.int i) = some (.ty "int") := (rfl)
theorem tyOf_str {g : G} {i : Str} : tyOf g h (.str i) = some (.ty "str") := (rfl)
theorem tyOf_tup {g : G} {l : List D} : tyOf g h (.tup l) = some (.ty "tuple") := (rfl)
theorem tyOf_rol {g : G} {l : List D} : tyOf g h (.rol l) = some (.ty "list") := (rfl)
theorem tyOf_lst {g : G} {a : Nat} {l : List D} (e : h[a]? = some (.lst l)) : tyOf g h (.ref a) = some (.ty "list") := by
  unfold tyOf
  dsimp only
  rw [e]
theorem tyOf_ins {g : G} {a : Nat} {c : Str} {l : List (Str × D)} (e : h[a]? = some (.ins c l)) (hi : g.ist c = true) : tyOf g h (.ref a) = some (.cls c) := by
  unfold tyOf
  dsimp only
  rw [e]
  dsimp only
  rw [if_pos hi]
theorem isiD_ty {g : G} {t : D} {n : String} : isiD g t (.ty n) = g.isi t (.ty n) := (rfl)
theorem isiD_cls {g : G} {t : D} {n : Str} : isiD g t (.cls n) = g.isi t (.cls n) := (rfl)
theorem isiD_tup {g : G} {t : D} {l : List D} : isiD g t (.tup l) = if l.all isCls then isiAny g t l else none := (rfl)
theorem isiAny_nil {g : G} {t : D} : isiAny g t [] = some false := (rfl)
theorem isiAny_t {g : G} {t c : D} {l : List D} (e : g.isi t c = some true) : isiAny g t (c :: l) = some true := by unfold isiAny; rw [e]
theorem isiAny_f {g : G} {t c : D} {l : List D} (e : g.isi t c = some false) : isiAny g t (c :: l) = isiAny g t l := by
  show (match g.isi t c with
  | some true => some true
  | some false => isiAny g t l
  | none => none) = _
  rw [e]
theorem isCls_ty {n : String} : isCls (.ty n) = true := (rfl)
theorem isCls_cls {n : Str} : isCls (.cls n) = true := (rfl)
theorem cmpG_Is {g : G} {x y : D} {Q : D → Hs → Prop} : (cmpG g .Is x y h).wp Q X = Op (cmpB h .Is x y) fun b => Q (.bl b) h := cmpG_is .Is (by decide) (by decide)
theorem cmpG_IsNot {g : G} {x y : D} {Q : D → Hs → Prop} : (cmpG g .IsNot x y h).wp Q X = Op (cmpB h .IsNot x y) fun b => Q (.bl b) h := cmpG_is .IsNot (by decide) (by decide)
theorem cmpG_bb {g : G} {a b : Bool} {Q : D → Hs → Prop} : (cmpG g .Eq (.bl a) (.bl b) h).wp Q X = Q (.bl (decide (a = b))) h := by
  rw [cmpG_plain rfl, cmpB_eqB, op_some]
  cases a <;> cases b <;> rfl
/-! ### _law_same -/
structure Same (T : FKey → Option Fn) (gb : G) : Prop where
  whole : T ("_law_is_whole", none) = some Tx.f__law_is_whole
  same : T ("_law_same", none) = some Tx.f__law_same
  i_NoneType_list : gb.isi (.ty "NoneType") (.ty "list") = some false
  i_NoneType_tuple : gb.isi (.ty "NoneType") (.ty "tuple") = some false
  i_NoneType_dict : gb.isi (.ty "NoneType") (.ty "dict") = some false
  i_NoneType_bool : gb.isi (.ty "NoneType") (.ty "bool") = some false
  i_NoneType_int : gb.isi (.ty "NoneType") (.ty "int") = some false
  i_NoneType_str : gb.isi (.ty "NoneType") (.ty "str") = some false
  i_bool_list : gb.isi (.ty "bool") (.ty "list") = some false
  i_bool_tuple : gb.isi (.ty "bool") (.ty "tuple") = some false
  i_bool_dict : gb.isi (.ty "bool") (.ty "dict") = some false
  i_bool_bool : gb.isi (.ty "bool") (.ty "bool") = some true
  i_bool_int : gb.isi (.ty "bool") (.ty "int") = some true
  i_bool_str : gb.isi (.ty "bool") (.ty "str") = some false
  i_int_list : gb.isi (.ty "int") (.ty "list") = some false
  i_int_tuple : gb.isi (.ty "int") (.ty "tuple") = some false
  i_int_dict : gb.isi (.ty "int") (.ty "dict") = some false
  i_int_bool : gb.isi (.ty "int") (.ty "bool") = some false
  i_int_int : gb.isi (.ty "int") (.ty "int") = some true
  i_int_str : gb.isi (.ty "int") (.ty "str") = some false
  i_str_list : gb.isi (.ty "str") (.ty "list") = some false
  i_str_tuple : gb.isi (.ty "str") (.ty "tuple") = some false
  i_str_dict : gb.isi (.ty "str") (.ty "dict") = some false
  i_str_bool : gb.isi (.ty "str") (.ty "bool") = some false
  i_str_int : gb.isi (.ty "str") (.ty "int") = some false
  i_str_str : gb.isi (.ty "str") (.ty "str") = some true
  i_tuple_list : gb.isi (.ty "tuple") (.ty "list") = some false
  i_tuple_tuple : gb.isi (.ty "tuple") (.ty "tuple") = some true
  i_tuple_dict : gb.isi (.ty "tuple") (.ty "dict") = some false
  i_tuple_bool : gb.isi (.ty "tuple") (.ty "bool") = some false
  i_tuple_int : gb.isi (.ty "tuple") (.ty "int") = some false
  i_tuple_str : gb.isi (.ty "tuple") (.ty "str") = some false
  i_list_list : gb.isi (.ty "list") (.ty "list") = some true
  i_list_tuple : gb.isi (.ty "list") (.ty "tuple") = some false
  i_list_dict : gb.isi (.ty "list") (.ty "dict") = some false
  i_list_bool : gb.isi (.ty "list") (.ty "bool") = some false
  i_list_int : gb.isi (.ty "list") (.ty "int") = some false
  i_list_str : gb.isi (.ty "list") (.ty "str") = some false
  i_dict_list : gb.isi (.ty "dict") (.ty "list") = some false
  i_dict_tuple : gb.isi (.ty "dict") (.ty "tuple") = some false
  i_dict_dict : gb.isi (.ty "dict") (.ty "dict") = some true
  i_dict_bool : gb.isi (.ty "dict") (.ty "bool") = some false
  i_dict_int : gb.isi (.ty "dict") (.ty "int") = some false
  i_dict_str : gb.isi (.ty "dict") (.ty "str") = some false
theorem whole_int (D : Same T gb) (i : Int) : (cal T gb m (k + 1) ("_law_is_whole", none) [.int i] h).wp (fun v h' => h' = h ∧ v = .bl true) X := by
  refine cal_wp D.whole rfl ?_
  simp only [Tx.f__law_is_whole, we_fold, wss_fold, wt_fold, we_non, we_bl, we_int, we_str, we_bty, we_var, we_glob, we_bin, we_un, wt_def, we_not, we_and, we_or, we_cmp, we_cmp2, we_ife, we_tup, we_lst, we_idx, we_sl, we_attr, we_call, we_make, we_meth, we_bi, we_bm, wes_nil, wes_cons, wo_none, wo_some, wi_e, wi_rng, we_lc, ws_expr, ws_ret, ws_retN, ws_pass, ws_brk, ws_cont, ws_asg, ws_sub, ws_fld, ws_aug, ws_iff, ws_for, ws_whl, ws_raise, ws_try, op_some, opD_some, br_some, binG_int, binI_add, binI_sub, binI_and, binI_or, binI_xor, binI_mod, binI_shr, cmpG_int, cmpB_lt, cmpB_le, cmpB_gt, cmpB_ge, cmpB_eq, cmpB_ne, cmpB_eqB, truthD_bl, truthD_int, truthD_non, truthD_tup, get_tup, get_rol, bi_len_tup, bi_len_rol, bi_int_int, bi_int_bl, bi_abs, asgP_name, op_ite, opL_some, get_ref, set_ref, bi_len_ref, bi_tuple_ref, bi_tuple_tup, bi_list_ref, bi_list_tup, bi_sum_ref, bi_sum_tup, bi_all_ref, bi_any_ref, bi_max, bi_min, truthD_ref, trO_lst, atI_pos, ixN_pos, bi_isi, gM_cf, gM_gl, gM_fld, gM_mth, gM_opo, gM_opi, gM_opu, gM_eqo, gM_isi, gM_ist, gM_xfd, gM_xiz, gM_exm, gM_fuel, gM_hot0, gM_hot1, List.getElem?_cons_zero, List.getElem?_cons_succ, List.set_cons_zero, List.set_cons_succ, decide_eq_true_eq, Bool.true_eq_false, Bool.false_eq_true, if_true, if_false, ite_true, ite_false, reduceIte, Int.reduceLE, Int.reduceLT, Int.reduceNeg, Int.reduceToNat, Int.reduceEq, Int.reduceNe, List.length_cons, List.length_nil, Nat.reduceAdd, Nat.reduceSub, Nat.reduceLT, List.length_map, true_and, and_true, decide_true, decide_false, Bool.not_true, Bool.not_false, wss_cons, wss_nil, List.map_cons, List.map_nil, List.replicate, List.cons_append, List.nil_append, tyOf_non, tyOf_bl, tyOf_int, tyOf_str, tyOf_tup, tyOf_rol, isiD_ty, isiD_cls, isiD_tup, isiAny_nil, isiAny_t, isiAny_f, isCls_ty, isCls_cls, List.all_cons, List.all_nil, Bool.and_self, Bool.and_true, Option.bind_some, gH_isi, gH_gl, gH_ist, D.i_NoneType_list, D.i_NoneType_tuple, D.i_NoneType_dict, D.i_NoneType_bool, D.i_NoneType_int, D.i_NoneType_str, D.i_bool_list, D.i_bool_tuple, D.i_bool_dict, D.i_bool_bool, D.i_bool_int, D.i_bool_str, D.i_int_list, D.i_int_tuple, D.i_int_dict, D.i_int_bool, D.i_int_int, D.i_int_str, D.i_str_list, D.i_str_tuple, D.i_str_dict, D.i_str_bool, D.i_str_int, D.i_str_str, D.i_tuple_list, D.i_tuple_tuple, D.i_tuple_dict, D.i_tuple_bool, D.i_tuple_int, D.i_tuple_str, D.i_list_list, D.i_list_tuple, D.i_list_dict, D.i_list_bool, D.i_list_int, D.i_list_str, D.i_dict_list, D.i_dict_tuple, D.i_dict_dict, D.i_dict_bool, D.i_dict_int, D.i_dict_str]
  try simp
theorem isBl_int {i : Int} {b : Bool} : isBl b (.int i) = false := (rfl)
theorem isBl_bl {c : Bool} {b : Bool} : isBl b (.bl c) = decide (c = b) := (rfl)
theorem isNon_int {i : Int} : isNon (.int i) = false := (rfl)
theorem isNon_bl {i : Bool} : isNon (.bl i) = false := (rfl)
theorem same_int (D : Same T gb) (i j : Int) : (cal T gb m (k + 2) ("_law_same", none) [.int i, .int j] h).wp (fun v h' => h' = h ∧ v = .bl (decide (i = j))) X := by
  have hz : sizeLine = 16777216 := by decide
  refine cal_wp D.same rfl ?_
  simp only [Tx.f__law_same, we_fold, wss_fold, wt_fold, we_non, we_bl, we_int, we_str, we_bty, we_var, we_glob, we_bin, we_un, wt_def, we_not, we_and, we_or, we_cmp, we_cmp2, we_ife, we_tup, we_lst, we_idx, we_sl, we_attr, we_call, we_make, we_meth, we_bi, we_bm, wes_nil, wes_cons, wo_none, wo_some, wi_e, wi_rng, we_lc, ws_expr, ws_ret, ws_retN, ws_pass, ws_brk, ws_cont, ws_asg, ws_sub, ws_fld, ws_aug, ws_iff, ws_for, ws_whl, ws_raise, ws_try, op_some, opD_some, br_some, binG_int, binI_add, binI_sub, binI_and, binI_or, binI_xor, binI_mod, binI_shr, cmpG_int, cmpB_lt, cmpB_le, cmpB_gt, cmpB_ge, cmpB_eq, cmpB_ne, cmpB_eqB, truthD_bl, truthD_int, truthD_non, truthD_tup, get_tup, get_rol, bi_len_tup, bi_len_rol, bi_int_int, bi_int_bl, bi_abs, asgP_name, op_ite, opL_some, get_ref, set_ref, bi_len_ref, bi_tuple_ref, bi_tuple_tup, bi_list_ref, bi_list_tup, bi_sum_ref, bi_sum_tup, bi_all_ref, bi_any_ref, bi_max, bi_min, truthD_ref, trO_lst, atI_pos, ixN_pos, bi_isi, gM_cf, gM_gl, gM_fld, gM_mth, gM_opo, gM_opi, gM_opu, gM_eqo, gM_isi, gM_ist, gM_xfd, gM_xiz, gM_exm, gM_fuel, gM_hot0, gM_hot1, List.getElem?_cons_zero, List.getElem?_cons_succ, List.set_cons_zero, List.set_cons_succ, decide_eq_true_eq, Bool.true_eq_false, Bool.false_eq_true, if_true, if_false, ite_true, ite_false, reduceIte, Int.reduceLE, Int.reduceLT, Int.reduceNeg, Int.reduceToNat, Int.reduceEq, Int.reduceNe, List.length_cons, List.length_nil, Nat.reduceAdd, Nat.reduceSub, Nat.reduceLT, List.length_map, true_and, and_true, decide_true, decide_false, Bool.not_true, Bool.not_false, wss_cons, wss_nil, List.map_cons, List.map_nil, List.replicate, List.cons_append, List.nil_append, tyOf_non, tyOf_bl, tyOf_int, tyOf_str, tyOf_tup, tyOf_rol, isiD_ty, isiD_cls, isiD_tup, isiAny_nil, isiAny_t, isiAny_f, isCls_ty, isCls_cls, List.all_cons, List.all_nil, Bool.and_self, Bool.and_true, Option.bind_some, gH_isi, gH_gl, gH_ist, D.i_NoneType_list, D.i_NoneType_tuple, D.i_NoneType_dict, D.i_NoneType_bool, D.i_NoneType_int, D.i_NoneType_str, D.i_bool_list, D.i_bool_tuple, D.i_bool_dict, D.i_bool_bool, D.i_bool_int, D.i_bool_str, D.i_int_list, D.i_int_tuple, D.i_int_dict, D.i_int_bool, D.i_int_int, D.i_int_str, D.i_str_list, D.i_str_tuple, D.i_str_dict, D.i_str_bool, D.i_str_int, D.i_str_str, D.i_tuple_list, D.i_tuple_tuple, D.i_tuple_dict, D.i_tuple_bool, D.i_tuple_int, D.i_tuple_str, D.i_list_list, D.i_list_tuple, D.i_list_dict, D.i_list_bool, D.i_list_int, D.i_list_str, D.i_dict_list, D.i_dict_tuple, D.i_dict_dict, D.i_dict_bool, D.i_dict_int, D.i_dict_str, cmpG_Is, cmpB_isN, cmpB_isB, isBl_int, isNon_int, hz, Nat.reduceLeDiff]
  refine (whole_int D i).imp fun v h1 ⟨e1, e2⟩ => ?_
  subst e1 e2
  simp only [we_fold, wss_fold, wt_fold, we_non, we_bl, we_int, we_str, we_bty, we_var, we_glob, we_bin, we_un, wt_def, we_not, we_and, we_or, we_cmp, we_cmp2, we_ife, we_tup, we_lst, we_idx, we_sl, we_attr, we_call, we_make, we_meth, we_bi, we_bm, wes_nil, wes_cons, wo_none, wo_some, wi_e, wi_rng, we_lc, ws_expr, ws_ret, ws_retN, ws_pass, ws_brk, ws_cont, ws_asg, ws_sub, ws_fld, ws_aug, ws_iff, ws_for, ws_whl, ws_raise, ws_try, op_some, opD_some, br_some, binG_int, binI_add, binI_sub, binI_and, binI_or, binI_xor, binI_mod, binI_shr, cmpG_int, cmpB_lt, cmpB_le, cmpB_gt, cmpB_ge, cmpB_eq, cmpB_ne, cmpB_eqB, truthD_bl, truthD_int, truthD_non, truthD_tup, get_tup, get_rol, bi_len_tup, bi_len_rol, bi_int_int, bi_int_bl, bi_abs, asgP_name, op_ite, opL_some, get_ref, set_ref, bi_len_ref, bi_tuple_ref, bi_tuple_tup, bi_list_ref, bi_list_tup, bi_sum_ref, bi_sum_tup, bi_all_ref, bi_any_ref, bi_max, bi_min, truthD_ref, trO_lst, atI_pos, ixN_pos, bi_isi, gM_cf, gM_gl, gM_fld, gM_mth, gM_opo, gM_opi, gM_opu, gM_eqo, gM_isi, gM_ist, gM_xfd, gM_xiz, gM_exm, gM_fuel, gM_hot0, gM_hot1, List.getElem?_cons_zero, List.getElem?_cons_succ, List.set_cons_zero, List.set_cons_succ, decide_eq_true_eq, Bool.true_eq_false, Bool.false_eq_true, if_true, if_false, ite_true, ite_false, reduceIte, Int.reduceLE, Int.reduceLT, Int.reduceNeg, Int.reduceToNat, Int.reduceEq, Int.reduceNe, List.length_cons, List.length_nil, Nat.reduceAdd, Nat.reduceSub, Nat.reduceLT, List.length_map, true_and, and_true, decide_true, decide_false, Bool.not_true, Bool.not_false, wss_cons, wss_nil]
theorem same_bl (D : Same T gb) (i j : Bool) : (cal T gb m (k + 2) ("_law_same", none) [.bl i, .bl j] h).wp (fun v h' => h' = h ∧ v = .bl (decide (i = j))) X := by
  have hz : sizeLine = 16777216 := by decide
  refine cal_wp D.same rfl ?_
  simp only [Tx.f__law_same, we_fold, wss_fold, wt_fold, we_non, we_bl, we_int, we_str, we_bty, we_var, we_glob, we_bin, we_un, wt_def, we_not, we_and, we_or, we_cmp, we_cmp2, we_ife, we_tup, we_lst, we_idx, we_sl, we_attr, we_call, we_make, we_meth, we_bi, we_bm, wes_nil, wes_cons, wo_none, wo_some, wi_e, wi_rng, we_lc, ws_expr, ws_ret, ws_retN, ws_pass, ws_brk, ws_cont, ws_asg, ws_sub, ws_fld, ws_aug, ws_iff, ws_for, ws_whl, ws_raise, ws_try, op_some, opD_some, br_some, binG_int, binI_add, binI_sub, binI_and, binI_or, binI_xor, binI_mod, binI_shr, cmpG_int, cmpB_lt, cmpB_le, cmpB_gt, cmpB_ge, cmpB_eq, cmpB_ne, cmpB_eqB, truthD_bl, truthD_int, truthD_non, truthD_tup, get_tup, get_rol, bi_len_tup, bi_len_rol, bi_int_int, bi_int_bl, bi_abs, asgP_name, op_ite, opL_some, get_ref, set_ref, bi_len_ref, bi_tuple_ref, bi_tuple_tup, bi_list_ref, bi_list_tup, bi_sum_ref, bi_sum_tup, bi_all_ref, bi_any_ref, bi_max, bi_min, truthD_ref, trO_lst, atI_pos, ixN_pos, bi_isi, gM_cf, gM_gl, gM_fld, gM_mth, gM_opo, gM_opi, gM_opu, gM_eqo, gM_isi, gM_ist, gM_xfd, gM_xiz, gM_exm, gM_fuel, gM_hot0, gM_hot1, List.getElem?_cons_zero, List.getElem?_cons_succ, List.set_cons_zero, List.set_cons_succ, decide_eq_true_eq, Bool.true_eq_false, Bool.false_eq_true, if_true, if_false, ite_true, ite_false, reduceIte, Int.reduceLE, Int.reduceLT, Int.reduceNeg, Int.reduceToNat, Int.reduceEq, Int.reduceNe, List.length_cons, List.length_nil, Nat.reduceAdd, Nat.reduceSub, Nat.reduceLT, List.length_map, true_and, and_true, decide_true, decide_false, Bool.not_true, Bool.not_false, wss_cons, wss_nil, List.map_cons, List.map_nil, List.replicate, List.cons_append, List.nil_append, tyOf_non, tyOf_bl, tyOf_int, tyOf_str, tyOf_tup, tyOf_rol, isiD_ty, isiD_cls, isiD_tup, isiAny_nil, isiAny_t, isiAny_f, isCls_ty, isCls_cls, List.all_cons, List.all_nil, Bool.and_self, Bool.and_true, Option.bind_some, gH_isi, gH_gl, gH_ist, D.i_NoneType_list, D.i_NoneType_tuple, D.i_NoneType_dict, D.i_NoneType_bool, D.i_NoneType_int, D.i_NoneType_str, D.i_bool_list, D.i_bool_tuple, D.i_bool_dict, D.i_bool_bool, D.i_bool_int, D.i_bool_str, D.i_int_list, D.i_int_tuple, D.i_int_dict, D.i_int_bool, D.i_int_int, D.i_int_str, D.i_str_list, D.i_str_tuple, D.i_str_dict, D.i_str_bool, D.i_str_int, D.i_str_str, D.i_tuple_list, D.i_tuple_tuple, D.i_tuple_dict, D.i_tuple_bool, D.i_tuple_int, D.i_tuple_str, D.i_list_list, D.i_list_tuple, D.i_list_dict, D.i_list_bool, D.i_list_int, D.i_list_str, D.i_dict_list, D.i_dict_tuple, D.i_dict_dict, D.i_dict_bool, D.i_dict_int, D.i_dict_str, cmpG_Is, cmpB_isN, cmpB_isB, isBl_bl, isNon_bl, hz, Nat.reduceLeDiff, cmpG_bb]
  cases i <;> cases j <;> first | done | simp
end
end Ip
end
section
set_option Elab.async false
set_option linter.all false
set_option maxRecDepth 100000
set_option maxHeartbeats 1000000
/-! the class Word -/
namespace Ip
open PySem L2
/-! ### bits of numbers -/
theorem and_half (x y : Int) : Builtin.bitAnd x y / 2 = Builtin.bitAnd (x / 2) (y / 2) := by
  rw [PySem.W.kbt_halves x y]
  split <;> omega
theorem and_bit (x y : Int) : ∀ k : Nat, Builtin.bitAnd x y / 2 ^ k % 2 = if x / 2 ^ k % 2 = 1 ∧ y / 2 ^ k % 2 = 1 then 1 else 0 := by
  intro k
  induction k generalizing x y with
  | zero =>
    rw [PySem.W.kbt_halves x y]
    simp only [Int.pow_zero, Int.ediv_one]
    split <;> omega
  | succ k ih =>
    have e : ∀ z : Int, z / 2 ^ (k + 1) = z / 2 / 2 ^ k := fun z => by
      rw [Int.pow_succ, Int.mul_comm, Int.ediv_ediv_of_nonneg (by decide)]
    rw [e, e, e, and_half, ih]
theorem or_half (x y : Int) : Builtin.bitOr x y / 2 = Builtin.bitOr (x / 2) (y / 2) := by
  rw [PyProof.Rows.bitOr_and, PyProof.Rows.bitOr_and, PySem.W.kbt_halves x y]
  split <;> omega
theorem or_bit (x y : Int) : ∀ k : Nat, Builtin.bitOr x y / 2 ^ k % 2 = if x / 2 ^ k % 2 = 1 ∨ y / 2 ^ k % 2 = 1 then 1 else 0 := by
  intro k
  induction k generalizing x y with
  | zero =>
    rw [PyProof.Rows.bitOr_and, PySem.W.kbt_halves x y]
    simp only [Int.pow_zero, Int.ediv_one]
    split <;> split <;> omega
  | succ k ih =>
    have e : ∀ z : Int, z / 2 ^ (k + 1) = z / 2 / 2 ^ k := fun z => by
      rw [Int.pow_succ, Int.mul_comm, Int.ediv_ediv_of_nonneg (by decide)]
    rw [e, e, e, or_half, ih]
theorem xor_half (x y : Int) : Builtin.bitXor x y / 2 = Builtin.bitXor (x / 2) (y / 2) := by
  rw [PyProof.Rows.bitXor_and, PyProof.Rows.bitXor_and, PySem.W.kbt_halves x y]
  split <;> omega
theorem xor_bit (x y : Int) : ∀ k : Nat, Builtin.bitXor x y / 2 ^ k % 2 = if x / 2 ^ k % 2 = y / 2 ^ k % 2 then 0 else 1 := by
  intro k
  induction k generalizing x y with
  | zero =>
    rw [PyProof.Rows.bitXor_and, PySem.W.kbt_halves x y]
    simp only [Int.pow_zero, Int.ediv_one]
    split <;> split <;> omega
  | succ k ih =>
    have e : ∀ z : Int, z / 2 ^ (k + 1) = z / 2 / 2 ^ k := fun z => by
      rw [Int.pow_succ, Int.mul_comm, Int.ediv_ediv_of_nonneg (by decide)]
    rw [e, e, e, xor_half, ih]
theorem toNat_lt {x : Int} {k : Nat} (h0 : 0 ≤ x) (h : x < 2 ^ k) : x.toNat < 2 ^ k := by
  have : ((2 ^ k : Nat) : Int) = 2 ^ k := by simp
  omega
theorem and_range {x y : Int} {k : Nat} (x0 : 0 ≤ x) (y0 : 0 ≤ y) (y1 : y < 2 ^ k) : 0 ≤ Builtin.bitAnd x y ∧ Builtin.bitAnd x y < 2 ^ k := by
  have := PyProof.Rows.bitAnd_range x y0
  omega
theorem or_range {x y : Int} {k : Nat} (x0 : 0 ≤ x) (x1 : x < 2 ^ k) (y0 : 0 ≤ y) (y1 : y < 2 ^ k) : 0 ≤ Builtin.bitOr x y ∧ Builtin.bitOr x y < 2 ^ k := by
  rw [_root_.Bits.bitOr_pp x0 y0]
  refine ⟨by omega, ?_⟩
  have := Nat.or_lt_two_pow (toNat_lt x0 x1) (toNat_lt y0 y1)
  exact_mod_cast this
theorem xor_range {x y : Int} {k : Nat} (x0 : 0 ≤ x) (x1 : x < 2 ^ k) (y0 : 0 ≤ y) (y1 : y < 2 ^ k) : 0 ≤ Builtin.bitXor x y ∧ Builtin.bitXor x y < 2 ^ k := by
  rw [_root_.Bits.bitXor_pp x0 y0]
  refine ⟨by omega, ?_⟩
  have := Nat.xor_lt_two_pow (toNat_lt x0 x1) (toNat_lt y0 y1)
  exact_mod_cast this
/-! ### objects -/
theorem getattr_ins {g : G} {a : Nat} {c f : Str} {fs : List (Str × D)} {d : D} {h : Hs} {Q : D → Hs → Prop} {X : Xp} (e : h[a]? = some (.ins c fs)) (hf : g.fld c f = true) (hl : fs.lookup f = some d) : (getattr g (.ref a) f h).wp Q X = Q d h := by
  unfold getattr
  dsimp only
  rw [e]
  dsimp only
  rw [if_pos hf, hl]
  rfl
theorem setattr_ins {g : G} {a : Nat} {c f : Str} {fs : List (Str × D)} {d : D} {h : Hs} {Q : Unit → Hs → Prop} {X : Xp} (e : h[a]? = some (.ins c fs)) (hf : g.fld c f = true) (hl : fs.length < 1000) : (setattr g (.ref a) f d h).wp Q X = Q () (h.set a (.ins c (putD f d fs))) := by
  unfold setattr
  dsimp only
  rw [e]
  dsimp only
  rw [if_pos (by simp [hf, hl])]
  rfl
def isN (Q : Hs → Prop) : D → Hs → Prop
  | .non, h => Q h
  | _, _ => False
theorem mkI_wp {g : G} {c : Str} {ds : List D} {h : Hs} {Q : D → Hs → Prop} {X : Xp} : (mkI g c ds h).wp Q X = (g.cm (c, some "__init__") (.ref h.length :: ds) (h ++ [.ins c []])).wp (isN fun h' => Q (.ref h.length) h') X := by
  unfold mkI
  rw [wp_bnd]
  show (bnd (g.cm (c, some "__init__") (.ref h.length :: ds)) _ (h ++ [.ins c []])).wp Q X = _
  rw [wp_bnd]
  congr
  funext r h'
  cases r <;> rfl
def wfs (w v : Int) : List (Str × D) := [("width", .int w), ("value", .int v), ("bits", .tup (((List.range w.toNat).map fun (i : Nat) => v / 2 ^ i % 2).map .int))]
theorem wfs_w {w v : Int} : (wfs w v).lookup ("width" : Str) = some (.int w) := (rfl)
theorem wfs_v {w v : Int} : (wfs w v).lookup ("value" : Str) = some (.int v) := (rfl)
theorem wfs_b {w v : Int} : (wfs w v).lookup ("bits" : Str) = some (.tup (((List.range w.toNat).map fun (i : Nat) => v / 2 ^ i % 2).map .int)) := (rfl)
theorem put1 {d : D} : putD "width" d [] = ([("width", d)] : List (Str × D)) := (rfl)
theorem put2 {d x : D} : putD "value" d [("width", x)] = ([("width", x), ("value", d)] : List (Str × D)) := (rfl)
theorem put3 {d x y : D} : putD "bits" d [("width", x), ("value", y)] = ([("width", x), ("value", y), ("bits", d)] : List (Str × D)) := (rfl)
/-- a word with this width and value -/
structure Wrd (h : Hs) (a : Nat) (w v : Int) : Prop where
  at_ : h[a]? = some (.ins "Word" (wfs w v))
  w0 : 0 ≤ w
  w1 : w ≤ 256
  v0 : 0 ≤ v
  v1 : v < 2 ^ w.toNat
theorem Wrd.kp {h h' : Hs} {a : Nat} {w v : Int} (x : Wrd h a w v) (k : Kp0 h h') : Wrd h' a w v := ⟨k.at_ _ _ x.at_ id, x.w0, x.w1, x.v0, x.v1⟩
structure WordT (T : FKey → Option Fn) (gb : G) : Prop where
  fuel : 33554432 < gb.fuel
  init : T ("Word", some "__init__") = some Tx.m_Word_init
  full : T ("full_value", none) = some Tx.f_full_value
  chk : T ("check_widths", none) = some Tx.f_check_widths
  and_ : T ("Word", some "__and__") = some Tx.m_Word_and
  or_ : T ("Word", some "__or__") = some Tx.m_Word_or
  xor_ : T ("Word", some "__xor__") = some Tx.m_Word_xor
  add_ : T ("Word", some "__add__") = some Tx.m_Word_add
  sub_ : T ("Word", some "__sub__") = some Tx.m_Word_sub
  inv_ : T ("Word", some "__invert__") = some Tx.m_Word_invert
  eq_ : T ("Word", some "__eq__") = some Tx.m_Word_eq
  most : gb.gl "MOST_BITS" = some (.int 256)
  gw : gb.gl "Word" = some (.cls "Word")
  fw : gb.fld "Word" "width" = true
  fv : gb.fld "Word" "value" = true
  fb : gb.fld "Word" "bits" = true
  xw : gb.xc "BadWord" = some (([("size" : Str), "number"] : List Str), (E.fstr [(.str "no word has the width "), (.fmt (.var 1)), (.str " and the value "), (.fmt (.var 2))]))
  xd : gb.xc "BadWidth" = some (([("left" : Str), "right"] : List Str), (E.fstr [(.str "words of the widths "), (.fmt (.var 1)), (.str " and "), (.fmt (.var 2))]))
  ist : gb.ist "Word" = true
  o_and : gb.opo "Word" .BitAnd = true
  o_or : gb.opo "Word" .BitOr = true
  o_xor : gb.opo "Word" .BitXor = true
  o_add : gb.opo "Word" .Add = true
  o_sub : gb.opo "Word" .Sub = true
  o_inv : gb.opu "Word" = true
  e_w : gb.eqo "Word" (.cls "Word") = true
  e_int : gb.eqo "Word" (.ty "int") = true
  e_str : gb.eqo "Word" (.ty "str") = true
  e_tup : gb.eqo "Word" (.ty "tuple") = true
  i_w : gb.isi (.cls "Word") (.cls "Word") = some true
  i_int : gb.isi (.ty "int") (.cls "Word") = some false
  i_str : gb.isi (.ty "str") (.cls "Word") = some false
  i_tup : gb.isi (.ty "tuple") (.cls "Word") = some false
section
variable {T : FKey → Option Fn} {gb : G} {m : Option Hx} {k : Nat} {h : Hs} {X : Xp} {a b : Nat} {w v x y : Int}
theorem init_ok (D : WordT T gb) (ha : h[a]? = some (.ins "Word" [])) (w0 : 0 ≤ w) (w1 : w ≤ 256) (v0 : 0 ≤ v) (v1 : v < 2 ^ w.toNat) : (cal T gb none (k + 1) ("Word", some "__init__") [.ref a, .int w, .int v] h).wp (fun r h' => r = .non ∧ Keep (· = a) h h' ∧ h'[a]? = some (.ins "Word" (wfs w v))) X := by
  have hf := D.fuel
  refine cal_wp D.init rfl ?_
  have a1 : ¬ w < 0 := by omega
  have a2 : ¬ 256 < w := by omega
  have a3 : ¬ v < 0 := by omega
  have a4 : v / 2 ^ w.toNat = 0 := Int.ediv_eq_zero_of_lt v0 v1
  have hl := getLt ha
  have g1 : ∀ o, (h.set a o)[a]? = some o := fun o => List.getElem?_set_self hl
  simp only [Tx.m_Word_init, we_fold, wss_fold, wt_fold, we_non, we_bl, we_int, we_str, we_bty, we_var, we_glob, we_bin, we_un, wt_def, we_not, we_and, we_or, we_cmp, we_cmp2, we_ife, we_tup, we_lst, we_idx, we_sl, we_attr, we_call, we_make, we_meth, we_bi, we_bm, wes_nil, wes_cons, wo_none, wo_some, wi_e, wi_rng, we_lc, ws_expr, ws_ret, ws_retN, ws_pass, ws_brk, ws_cont, ws_asg, ws_sub, ws_fld, ws_aug, ws_iff, ws_for, ws_whl, ws_raise, ws_try, op_some, opD_some, br_some, binG_int, binI_add, binI_sub, binI_and, binI_or, binI_xor, binI_mod, binI_shr, cmpG_int, cmpB_lt, cmpB_le, cmpB_gt, cmpB_ge, cmpB_eq, cmpB_ne, cmpB_eqB, truthD_bl, truthD_int, truthD_non, truthD_tup, get_tup, get_rol, bi_len_tup, bi_len_rol, bi_int_int, bi_int_bl, bi_abs, asgP_name, op_ite, opL_some, get_ref, set_ref, bi_len_ref, bi_tuple_ref, bi_tuple_tup, bi_list_ref, bi_list_tup, bi_sum_ref, bi_sum_tup, bi_all_ref, bi_any_ref, bi_max, bi_min, truthD_ref, trO_lst, atI_pos, ixN_pos, bi_isi, gM_cf, gM_gl, gM_fld, gM_mth, gM_opo, gM_opi, gM_opu, gM_eqo, gM_isi, gM_ist, gM_xfd, gM_xiz, gM_exm, gM_fuel, gM_hot0, gM_hot1, List.getElem?_cons_zero, List.getElem?_cons_succ, List.set_cons_zero, List.set_cons_succ, decide_eq_true_eq, Bool.true_eq_false, Bool.false_eq_true, if_true, if_false, ite_true, ite_false, reduceIte, Int.reduceLE, Int.reduceLT, Int.reduceNeg, Int.reduceToNat, Int.reduceEq, Int.reduceNe, List.length_cons, List.length_nil, Nat.reduceAdd, Nat.reduceSub, Nat.reduceLT, List.length_map, true_and, and_true, decide_true, decide_false, Bool.not_true, Bool.not_false, wss_cons, wss_nil, List.map_cons, List.map_nil, List.replicate, List.cons_append, List.nil_append, a1, a2, a3, a4, D.most, setattr_ins ha, D.fw, D.fv, put1, Nat.reduceLT]
  rw [setattr_ins (g1 _) (by rw [gM_fld]; exact D.fv) (by simp)]
  simp only [we_fold, wss_fold, wt_fold, we_non, we_bl, we_int, we_str, we_bty, we_var, we_glob, we_bin, we_un, wt_def, we_not, we_and, we_or, we_cmp, we_cmp2, we_ife, we_tup, we_lst, we_idx, we_sl, we_attr, we_call, we_make, we_meth, we_bi, we_bm, wes_nil, wes_cons, wo_none, wo_some, wi_e, wi_rng, we_lc, ws_expr, ws_ret, ws_retN, ws_pass, ws_brk, ws_cont, ws_asg, ws_sub, ws_fld, ws_aug, ws_iff, ws_for, ws_whl, ws_raise, ws_try, op_some, opD_some, br_some, binG_int, binI_add, binI_sub, binI_and, binI_or, binI_xor, binI_mod, binI_shr, cmpG_int, cmpB_lt, cmpB_le, cmpB_gt, cmpB_ge, cmpB_eq, cmpB_ne, cmpB_eqB, truthD_bl, truthD_int, truthD_non, truthD_tup, get_tup, get_rol, bi_len_tup, bi_len_rol, bi_int_int, bi_int_bl, bi_abs, asgP_name, op_ite, opL_some, get_ref, set_ref, bi_len_ref, bi_tuple_ref, bi_tuple_tup, bi_list_ref, bi_list_tup, bi_sum_ref, bi_sum_tup, bi_all_ref, bi_any_ref, bi_max, bi_min, truthD_ref, trO_lst, atI_pos, ixN_pos, bi_isi, gM_cf, gM_gl, gM_fld, gM_mth, gM_opo, gM_opi, gM_opu, gM_eqo, gM_isi, gM_ist, gM_xfd, gM_xiz, gM_exm, gM_fuel, gM_hot0, gM_hot1, List.getElem?_cons_zero, List.getElem?_cons_succ, List.set_cons_zero, List.set_cons_succ, decide_eq_true_eq, Bool.true_eq_false, Bool.false_eq_true, if_true, if_false, ite_true, ite_false, reduceIte, Int.reduceLE, Int.reduceLT, Int.reduceNeg, Int.reduceToNat, Int.reduceEq, Int.reduceNe, List.length_cons, List.length_nil, Nat.reduceAdd, Nat.reduceSub, Nat.reduceLT, List.length_map, true_and, and_true, decide_true, decide_false, Bool.not_true, Bool.not_false, wss_cons, wss_nil, put2, List.set_set, wipeD, rngOf1 (show w < 4611686018427387904 by omega) (show -4611686018427387904 ≤ w by omega)]
  have hj : w.toNat ≤ 16777216 := by omega
  have hn : w.toNat < gb.fuel := by omega
  refine ⟨w0, comp_range (j := w.toNat) (f := fun i => .int (v / 2 ^ i % 2)) hn hj (fun i hi => ?_) ?_⟩
  · simp only [we_fold, wss_fold, wt_fold, we_non, we_bl, we_int, we_str, we_bty, we_var, we_glob, we_bin, we_un, wt_def, we_not, we_and, we_or, we_cmp, we_cmp2, we_ife, we_tup, we_lst, we_idx, we_sl, we_attr, we_call, we_make, we_meth, we_bi, we_bm, wes_nil, wes_cons, wo_none, wo_some, wi_e, wi_rng, we_lc, ws_expr, ws_ret, ws_retN, ws_pass, ws_brk, ws_cont, ws_asg, ws_sub, ws_fld, ws_aug, ws_iff, ws_for, ws_whl, ws_raise, ws_try, op_some, opD_some, br_some, binG_int, binI_add, binI_sub, binI_and, binI_or, binI_xor, binI_mod, binI_shr, cmpG_int, cmpB_lt, cmpB_le, cmpB_gt, cmpB_ge, cmpB_eq, cmpB_ne, cmpB_eqB, truthD_bl, truthD_int, truthD_non, truthD_tup, get_tup, get_rol, bi_len_tup, bi_len_rol, bi_int_int, bi_int_bl, bi_abs, asgP_name, op_ite, opL_some, get_ref, set_ref, bi_len_ref, bi_tuple_ref, bi_tuple_tup, bi_list_ref, bi_list_tup, bi_sum_ref, bi_sum_tup, bi_all_ref, bi_any_ref, bi_max, bi_min, truthD_ref, trO_lst, atI_pos, ixN_pos, bi_isi, gM_cf, gM_gl, gM_fld, gM_mth, gM_opo, gM_opi, gM_opu, gM_eqo, gM_isi, gM_ist, gM_xfd, gM_xiz, gM_exm, gM_fuel, gM_hot0, gM_hot1, List.getElem?_cons_zero, List.getElem?_cons_succ, List.set_cons_zero, List.set_cons_succ, decide_eq_true_eq, Bool.true_eq_false, Bool.false_eq_true, if_true, if_false, ite_true, ite_false, reduceIte, Int.reduceLE, Int.reduceLT, Int.reduceNeg, Int.reduceToNat, Int.reduceEq, Int.reduceNe, List.length_cons, List.length_nil, Nat.reduceAdd, Nat.reduceSub, Nat.reduceLT, List.length_map, true_and, and_true, decide_true, decide_false, Bool.not_true, Bool.not_false, wss_cons, wss_nil, Int.natCast_nonneg, Int.toNat_natCast, PyProof.Rows.bitAnd_m1]
  · simp only [we_fold, wss_fold, wt_fold, we_non, we_bl, we_int, we_str, we_bty, we_var, we_glob, we_bin, we_un, wt_def, we_not, we_and, we_or, we_cmp, we_cmp2, we_ife, we_tup, we_lst, we_idx, we_sl, we_attr, we_call, we_make, we_meth, we_bi, we_bm, wes_nil, wes_cons, wo_none, wo_some, wi_e, wi_rng, we_lc, ws_expr, ws_ret, ws_retN, ws_pass, ws_brk, ws_cont, ws_asg, ws_sub, ws_fld, ws_aug, ws_iff, ws_for, ws_whl, ws_raise, ws_try, op_some, opD_some, br_some, binG_int, binI_add, binI_sub, binI_and, binI_or, binI_xor, binI_mod, binI_shr, cmpG_int, cmpB_lt, cmpB_le, cmpB_gt, cmpB_ge, cmpB_eq, cmpB_ne, cmpB_eqB, truthD_bl, truthD_int, truthD_non, truthD_tup, get_tup, get_rol, bi_len_tup, bi_len_rol, bi_int_int, bi_int_bl, bi_abs, asgP_name, op_ite, opL_some, get_ref, set_ref, bi_len_ref, bi_tuple_ref, bi_tuple_tup, bi_list_ref, bi_list_tup, bi_sum_ref, bi_sum_tup, bi_all_ref, bi_any_ref, bi_max, bi_min, truthD_ref, trO_lst, atI_pos, ixN_pos, bi_isi, gM_cf, gM_gl, gM_fld, gM_mth, gM_opo, gM_opi, gM_opu, gM_eqo, gM_isi, gM_ist, gM_xfd, gM_xiz, gM_exm, gM_fuel, gM_hot0, gM_hot1, List.getElem?_cons_zero, List.getElem?_cons_succ, List.set_cons_zero, List.set_cons_succ, decide_eq_true_eq, Bool.true_eq_false, Bool.false_eq_true, if_true, if_false, ite_true, ite_false, reduceIte, Int.reduceLE, Int.reduceLT, Int.reduceNeg, Int.reduceToNat, Int.reduceEq, Int.reduceNe, List.length_cons, List.length_nil, Nat.reduceAdd, Nat.reduceSub, Nat.reduceLT, List.length_map, true_and, and_true, decide_true, decide_false, Bool.not_true, Bool.not_false, wss_cons, wss_nil, app_at]
    have g2 : ∀ o p, (h.set a o ++ [p])[a]? = some o := fun o p => by rw [List.getElem?_append_left (by simpa using hl)]; exact g1 o
    rw [setattr_ins (g2 _ _) (by rw [gM_fld]; exact D.fb) (by simp)]
    refine ⟨?_, ?_⟩
    · refine Keep.trans (Keep.set _ _ rfl) (Keep.trans (Keep.app _ _) (Keep.set _ _ rfl))
    · rw [List.getElem?_set_self (by simp; omega), put3]
      simp [wfs]
theorem init_bad (D : WordT T gb) (nw : NoWord w v) (bw : w.natAbs < 2 ^ 1000) (bv : v.natAbs < 2 ^ 1000) {Q : Ip.D → Hs → Prop} (q : X "BadWord" (some [("number", .int v), ("size", .int w)]) h) : (cal T gb none (k + 3) ("Word", some "__init__") [.ref a, .int w, .int v] h).wp Q X := by
  refine cal_wp D.init rfl ?_
  have key : ∀ δ : Sl, ∀ P : Pk, P.ex "BadWord" (some [("number", .int v), ("size", .int w)]) δ h → (mkX (gM T gb (k + 2) none) "BadWord" [.int w, .int v] δ h).wp P := fun δ P p => by
    refine mkX_fstr ((congrFun gM_xc _).trans D.xw) rfl (by simp) (fun e he => ?_) p
    simp only [List.mem_cons, List.not_mem_nil, or_false] at he
    rcases he with rfl | rfl | rfl | rfl
    · exact .inl ⟨_, rfl, by decide⟩
    · exact .inr ⟨_, _, rfl, rfl, bw⟩
    · exact .inl ⟨_, rfl, by decide⟩
    · exact .inr ⟨_, _, rfl, rfl, bv⟩
  simp only [Tx.m_Word_init, we_fold, wss_fold, wt_fold, we_non, we_bl, we_int, we_str, we_bty, we_var, we_glob, we_bin, we_un, wt_def, we_not, we_and, we_or, we_cmp, we_cmp2, we_ife, we_tup, we_lst, we_idx, we_sl, we_attr, we_call, we_make, we_meth, we_bi, we_bm, wes_nil, wes_cons, wo_none, wo_some, wi_e, wi_rng, we_lc, ws_expr, ws_ret, ws_retN, ws_pass, ws_brk, ws_cont, ws_asg, ws_sub, ws_fld, ws_aug, ws_iff, ws_for, ws_whl, ws_raise, ws_try, op_some, opD_some, br_some, binG_int, binI_add, binI_sub, binI_and, binI_or, binI_xor, binI_mod, binI_shr, cmpG_int, cmpB_lt, cmpB_le, cmpB_gt, cmpB_ge, cmpB_eq, cmpB_ne, cmpB_eqB, truthD_bl, truthD_int, truthD_non, truthD_tup, get_tup, get_rol, bi_len_tup, bi_len_rol, bi_int_int, bi_int_bl, bi_abs, asgP_name, op_ite, opL_some, get_ref, set_ref, bi_len_ref, bi_tuple_ref, bi_tuple_tup, bi_list_ref, bi_list_tup, bi_sum_ref, bi_sum_tup, bi_all_ref, bi_any_ref, bi_max, bi_min, truthD_ref, trO_lst, atI_pos, ixN_pos, bi_isi, gM_cf, gM_gl, gM_fld, gM_mth, gM_opo, gM_opi, gM_opu, gM_eqo, gM_isi, gM_ist, gM_xfd, gM_xiz, gM_exm, gM_fuel, gM_hot0, gM_hot1, List.getElem?_cons_zero, List.getElem?_cons_succ, List.set_cons_zero, List.set_cons_succ, decide_eq_true_eq, Bool.true_eq_false, Bool.false_eq_true, if_true, if_false, ite_true, ite_false, reduceIte, Int.reduceLE, Int.reduceLT, Int.reduceNeg, Int.reduceToNat, Int.reduceEq, Int.reduceNe, List.length_cons, List.length_nil, Nat.reduceAdd, Nat.reduceSub, Nat.reduceLT, List.length_map, true_and, and_true, decide_true, decide_false, Bool.not_true, Bool.not_false, wss_cons, wss_nil, List.map_cons, List.map_nil, List.replicate, List.cons_append, List.nil_append, D.most]
  by_cases a1 : w < 0
  · simp only [we_fold, wss_fold, wt_fold, we_non, we_bl, we_int, we_str, we_bty, we_var, we_glob, we_bin, we_un, wt_def, we_not, we_and, we_or, we_cmp, we_cmp2, we_ife, we_tup, we_lst, we_idx, we_sl, we_attr, we_call, we_make, we_meth, we_bi, we_bm, wes_nil, wes_cons, wo_none, wo_some, wi_e, wi_rng, we_lc, ws_expr, ws_ret, ws_retN, ws_pass, ws_brk, ws_cont, ws_asg, ws_sub, ws_fld, ws_aug, ws_iff, ws_for, ws_whl, ws_raise, ws_try, op_some, opD_some, br_some, binG_int, binI_add, binI_sub, binI_and, binI_or, binI_xor, binI_mod, binI_shr, cmpG_int, cmpB_lt, cmpB_le, cmpB_gt, cmpB_ge, cmpB_eq, cmpB_ne, cmpB_eqB, truthD_bl, truthD_int, truthD_non, truthD_tup, get_tup, get_rol, bi_len_tup, bi_len_rol, bi_int_int, bi_int_bl, bi_abs, asgP_name, op_ite, opL_some, get_ref, set_ref, bi_len_ref, bi_tuple_ref, bi_tuple_tup, bi_list_ref, bi_list_tup, bi_sum_ref, bi_sum_tup, bi_all_ref, bi_any_ref, bi_max, bi_min, truthD_ref, trO_lst, atI_pos, ixN_pos, bi_isi, gM_cf, gM_gl, gM_fld, gM_mth, gM_opo, gM_opi, gM_opu, gM_eqo, gM_isi, gM_ist, gM_xfd, gM_xiz, gM_exm, gM_fuel, gM_hot0, gM_hot1, List.getElem?_cons_zero, List.getElem?_cons_succ, List.set_cons_zero, List.set_cons_succ, decide_eq_true_eq, Bool.true_eq_false, Bool.false_eq_true, if_true, if_false, ite_true, ite_false, reduceIte, Int.reduceLE, Int.reduceLT, Int.reduceNeg, Int.reduceToNat, Int.reduceEq, Int.reduceNe, List.length_cons, List.length_nil, Nat.reduceAdd, Nat.reduceSub, Nat.reduceLT, List.length_map, true_and, and_true, decide_true, decide_false, Bool.not_true, Bool.not_false, wss_cons, wss_nil, a1]
    exact key _ _ q
  by_cases a2 : 256 < w
  · simp only [we_fold, wss_fold, wt_fold, we_non, we_bl, we_int, we_str, we_bty, we_var, we_glob, we_bin, we_un, wt_def, we_not, we_and, we_or, we_cmp, we_cmp2, we_ife, we_tup, we_lst, we_idx, we_sl, we_attr, we_call, we_make, we_meth, we_bi, we_bm, wes_nil, wes_cons, wo_none, wo_some, wi_e, wi_rng, we_lc, ws_expr, ws_ret, ws_retN, ws_pass, ws_brk, ws_cont, ws_asg, ws_sub, ws_fld, ws_aug, ws_iff, ws_for, ws_whl, ws_raise, ws_try, op_some, opD_some, br_some, binG_int, binI_add, binI_sub, binI_and, binI_or, binI_xor, binI_mod, binI_shr, cmpG_int, cmpB_lt, cmpB_le, cmpB_gt, cmpB_ge, cmpB_eq, cmpB_ne, cmpB_eqB, truthD_bl, truthD_int, truthD_non, truthD_tup, get_tup, get_rol, bi_len_tup, bi_len_rol, bi_int_int, bi_int_bl, bi_abs, asgP_name, op_ite, opL_some, get_ref, set_ref, bi_len_ref, bi_tuple_ref, bi_tuple_tup, bi_list_ref, bi_list_tup, bi_sum_ref, bi_sum_tup, bi_all_ref, bi_any_ref, bi_max, bi_min, truthD_ref, trO_lst, atI_pos, ixN_pos, bi_isi, gM_cf, gM_gl, gM_fld, gM_mth, gM_opo, gM_opi, gM_opu, gM_eqo, gM_isi, gM_ist, gM_xfd, gM_xiz, gM_exm, gM_fuel, gM_hot0, gM_hot1, List.getElem?_cons_zero, List.getElem?_cons_succ, List.set_cons_zero, List.set_cons_succ, decide_eq_true_eq, Bool.true_eq_false, Bool.false_eq_true, if_true, if_false, ite_true, ite_false, reduceIte, Int.reduceLE, Int.reduceLT, Int.reduceNeg, Int.reduceToNat, Int.reduceEq, Int.reduceNe, List.length_cons, List.length_nil, Nat.reduceAdd, Nat.reduceSub, Nat.reduceLT, List.length_map, true_and, and_true, decide_true, decide_false, Bool.not_true, Bool.not_false, wss_cons, wss_nil, a1, a2]
    exact key _ _ q
  by_cases a3 : v < 0
  · simp only [we_fold, wss_fold, wt_fold, we_non, we_bl, we_int, we_str, we_bty, we_var, we_glob, we_bin, we_un, wt_def, we_not, we_and, we_or, we_cmp, we_cmp2, we_ife, we_tup, we_lst, we_idx, we_sl, we_attr, we_call, we_make, we_meth, we_bi, we_bm, wes_nil, wes_cons, wo_none, wo_some, wi_e, wi_rng, we_lc, ws_expr, ws_ret, ws_retN, ws_pass, ws_brk, ws_cont, ws_asg, ws_sub, ws_fld, ws_aug, ws_iff, ws_for, ws_whl, ws_raise, ws_try, op_some, opD_some, br_some, binG_int, binI_add, binI_sub, binI_and, binI_or, binI_xor, binI_mod, binI_shr, cmpG_int, cmpB_lt, cmpB_le, cmpB_gt, cmpB_ge, cmpB_eq, cmpB_ne, cmpB_eqB, truthD_bl, truthD_int, truthD_non, truthD_tup, get_tup, get_rol, bi_len_tup, bi_len_rol, bi_int_int, bi_int_bl, bi_abs, asgP_name, op_ite, opL_some, get_ref, set_ref, bi_len_ref, bi_tuple_ref, bi_tuple_tup, bi_list_ref, bi_list_tup, bi_sum_ref, bi_sum_tup, bi_all_ref, bi_any_ref, bi_max, bi_min, truthD_ref, trO_lst, atI_pos, ixN_pos, bi_isi, gM_cf, gM_gl, gM_fld, gM_mth, gM_opo, gM_opi, gM_opu, gM_eqo, gM_isi, gM_ist, gM_xfd, gM_xiz, gM_exm, gM_fuel, gM_hot0, gM_hot1, List.getElem?_cons_zero, List.getElem?_cons_succ, List.set_cons_zero, List.set_cons_succ, decide_eq_true_eq, Bool.true_eq_false, Bool.false_eq_true, if_true, if_false, ite_true, ite_false, reduceIte, Int.reduceLE, Int.reduceLT, Int.reduceNeg, Int.reduceToNat, Int.reduceEq, Int.reduceNe, List.length_cons, List.length_nil, Nat.reduceAdd, Nat.reduceSub, Nat.reduceLT, List.length_map, true_and, and_true, decide_true, decide_false, Bool.not_true, Bool.not_false, wss_cons, wss_nil, a1, a2, a3]
    exact key _ _ q
  have a4 : v / 2 ^ w.toNat ≠ 0 := by
    have p0 : (0 : Int) < 2 ^ w.toNat := Int.pow_pos (by decide)
    have : 1 ≤ v / 2 ^ w.toNat := (Int.le_ediv_iff_mul_le p0).mpr (by rcases nw with z | z | z | z <;> omega)
    omega
  have a5 : 0 ≤ w := by omega
  simp only [we_fold, wss_fold, wt_fold, we_non, we_bl, we_int, we_str, we_bty, we_var, we_glob, we_bin, we_un, wt_def, we_not, we_and, we_or, we_cmp, we_cmp2, we_ife, we_tup, we_lst, we_idx, we_sl, we_attr, we_call, we_make, we_meth, we_bi, we_bm, wes_nil, wes_cons, wo_none, wo_some, wi_e, wi_rng, we_lc, ws_expr, ws_ret, ws_retN, ws_pass, ws_brk, ws_cont, ws_asg, ws_sub, ws_fld, ws_aug, ws_iff, ws_for, ws_whl, ws_raise, ws_try, op_some, opD_some, br_some, binG_int, binI_add, binI_sub, binI_and, binI_or, binI_xor, binI_mod, binI_shr, cmpG_int, cmpB_lt, cmpB_le, cmpB_gt, cmpB_ge, cmpB_eq, cmpB_ne, cmpB_eqB, truthD_bl, truthD_int, truthD_non, truthD_tup, get_tup, get_rol, bi_len_tup, bi_len_rol, bi_int_int, bi_int_bl, bi_abs, asgP_name, op_ite, opL_some, get_ref, set_ref, bi_len_ref, bi_tuple_ref, bi_tuple_tup, bi_list_ref, bi_list_tup, bi_sum_ref, bi_sum_tup, bi_all_ref, bi_any_ref, bi_max, bi_min, truthD_ref, trO_lst, atI_pos, ixN_pos, bi_isi, gM_cf, gM_gl, gM_fld, gM_mth, gM_opo, gM_opi, gM_opu, gM_eqo, gM_isi, gM_ist, gM_xfd, gM_xiz, gM_exm, gM_fuel, gM_hot0, gM_hot1, List.getElem?_cons_zero, List.getElem?_cons_succ, List.set_cons_zero, List.set_cons_succ, decide_eq_true_eq, Bool.true_eq_false, Bool.false_eq_true, if_true, if_false, ite_true, ite_false, reduceIte, Int.reduceLE, Int.reduceLT, Int.reduceNeg, Int.reduceToNat, Int.reduceEq, Int.reduceNe, List.length_cons, List.length_nil, Nat.reduceAdd, Nat.reduceSub, Nat.reduceLT, List.length_map, true_and, and_true, decide_true, decide_false, Bool.not_true, Bool.not_false, wss_cons, wss_nil, a1, a2, a3, a4, a5, ne_eq, not_false_eq_true, decide_true]
  exact key _ _ q
theorem make_ok (D : WordT T gb) (w0 : 0 ≤ w) (w1 : w ≤ 256) (v0 : 0 ≤ v) (v1 : v < 2 ^ w.toNat) : (mkI (gM T gb (k + 2) none) "Word" [.int w, .int v] h).wp (fun r h' => Kp0 h h' ∧ ∃ a, r = .ref a ∧ h.length ≤ a ∧ Wrd h' a w v) X := by
  rw [mkI_wp, gM_cm]
  refine (init_ok D (app_at _ _) w0 w1 v0 v1).imp fun r h' ⟨e, kp, at_⟩ => ?_
  subst e
  refine ⟨⟨Nat.le_trans (by simp) kp.len, fun i o e _ => kp.at_ i o ((Keep.app (N := fun _ => False) h _).at_ i o e id) ?_⟩, h.length, rfl, Nat.le_refl _, at_, w0, w1, v0, v1⟩
  have := getLt e
  omega
theorem make_bad (D : WordT T gb) (nw : NoWord w v) (bw : w.natAbs < 2 ^ 1000) (bv : v.natAbs < 2 ^ 1000) {Q : Ip.D → Hs → Prop} (q : ∀ h', Kp0 h h' → X "BadWord" (some [("number", .int v), ("size", .int w)]) h') : (mkI (gM T gb (k + 4) none) "Word" [.int w, .int v] h).wp Q X := by
  rw [mkI_wp, gM_cm]
  exact init_bad D nw bw bv (q _ (Keep.app _ _))
theorem full_ok (D : WordT T gb) (w0 : 0 ≤ w) (w1 : w ≤ 256) : (cal T gb m (k + 1) ("full_value", none) [.int w] h).wp (fun r h' => h' = h ∧ r = .int (2 ^ w.toNat - 1)) X := by
  refine cal_wp D.full rfl ?_
  simp only [Tx.f_full_value, we_fold, wss_fold, wt_fold, we_non, we_bl, we_int, we_str, we_bty, we_var, we_glob, we_bin, we_un, wt_def, we_not, we_and, we_or, we_cmp, we_cmp2, we_ife, we_tup, we_lst, we_idx, we_sl, we_attr, we_call, we_make, we_meth, we_bi, we_bm, wes_nil, wes_cons, wo_none, wo_some, wi_e, wi_rng, we_lc, ws_expr, ws_ret, ws_retN, ws_pass, ws_brk, ws_cont, ws_asg, ws_sub, ws_fld, ws_aug, ws_iff, ws_for, ws_whl, ws_raise, ws_try, op_some, opD_some, br_some, binG_int, binI_add, binI_sub, binI_and, binI_or, binI_xor, binI_mod, binI_shr, cmpG_int, cmpB_lt, cmpB_le, cmpB_gt, cmpB_ge, cmpB_eq, cmpB_ne, cmpB_eqB, truthD_bl, truthD_int, truthD_non, truthD_tup, get_tup, get_rol, bi_len_tup, bi_len_rol, bi_int_int, bi_int_bl, bi_abs, asgP_name, op_ite, opL_some, get_ref, set_ref, bi_len_ref, bi_tuple_ref, bi_tuple_tup, bi_list_ref, bi_list_tup, bi_sum_ref, bi_sum_tup, bi_all_ref, bi_any_ref, bi_max, bi_min, truthD_ref, trO_lst, atI_pos, ixN_pos, bi_isi, gM_cf, gM_gl, gM_fld, gM_mth, gM_opo, gM_opi, gM_opu, gM_eqo, gM_isi, gM_ist, gM_xfd, gM_xiz, gM_exm, gM_fuel, gM_hot0, gM_hot1, List.getElem?_cons_zero, List.getElem?_cons_succ, List.set_cons_zero, List.set_cons_succ, decide_eq_true_eq, Bool.true_eq_false, Bool.false_eq_true, if_true, if_false, ite_true, ite_false, reduceIte, Int.reduceLE, Int.reduceLT, Int.reduceNeg, Int.reduceToNat, Int.reduceEq, Int.reduceNe, List.length_cons, List.length_nil, Nat.reduceAdd, Nat.reduceSub, Nat.reduceLT, List.length_map, true_and, and_true, decide_true, decide_false, Bool.not_true, Bool.not_false, wss_cons, wss_nil, List.map_cons, List.map_nil, List.replicate, List.cons_append, List.nil_append, binI_shl1 w0 (show w ≤ 100000000 by omega)]
theorem attr_w (D : WordT T gb) (x : Wrd h a w v) {Q : Ip.D → Hs → Prop} {m : Option Hx} : (getattr (gM T gb k m) (.ref a) "width" h).wp Q X = Q (.int w) h := getattr_ins x.at_ (by rw [gM_fld]; exact D.fw) wfs_w
theorem attr_v (D : WordT T gb) (x : Wrd h a w v) {Q : Ip.D → Hs → Prop} {m : Option Hx} : (getattr (gM T gb k m) (.ref a) "value" h).wp Q X = Q (.int v) h := getattr_ins x.at_ (by rw [gM_fld]; exact D.fv) wfs_v
theorem attr_b (D : WordT T gb) (x : Wrd h a w v) {Q : Ip.D → Hs → Prop} {m : Option Hx} : (getattr (gM T gb k m) (.ref a) "bits" h).wp Q X = Q (.tup (((List.range w.toNat).map fun (i : Nat) => v / 2 ^ i % 2).map .int)) h := getattr_ins x.at_ (by rw [gM_fld]; exact D.fb) wfs_b
theorem chk_ok (D : WordT T gb) (p : Wrd h a w x) (q : Wrd h b w y) : (cal T gb m (k + 1) ("check_widths", none) [.ref a, .ref b] h).wp (fun r h' => h' = h ∧ r = .non) X := by
  refine cal_wp D.chk rfl ?_
  simp only [Tx.f_check_widths, we_fold, wss_fold, wt_fold, we_non, we_bl, we_int, we_str, we_bty, we_var, we_glob, we_bin, we_un, wt_def, we_not, we_and, we_or, we_cmp, we_cmp2, we_ife, we_tup, we_lst, we_idx, we_sl, we_attr, we_call, we_make, we_meth, we_bi, we_bm, wes_nil, wes_cons, wo_none, wo_some, wi_e, wi_rng, we_lc, ws_expr, ws_ret, ws_retN, ws_pass, ws_brk, ws_cont, ws_asg, ws_sub, ws_fld, ws_aug, ws_iff, ws_for, ws_whl, ws_raise, ws_try, op_some, opD_some, br_some, binG_int, binI_add, binI_sub, binI_and, binI_or, binI_xor, binI_mod, binI_shr, cmpG_int, cmpB_lt, cmpB_le, cmpB_gt, cmpB_ge, cmpB_eq, cmpB_ne, cmpB_eqB, truthD_bl, truthD_int, truthD_non, truthD_tup, get_tup, get_rol, bi_len_tup, bi_len_rol, bi_int_int, bi_int_bl, bi_abs, asgP_name, op_ite, opL_some, get_ref, set_ref, bi_len_ref, bi_tuple_ref, bi_tuple_tup, bi_list_ref, bi_list_tup, bi_sum_ref, bi_sum_tup, bi_all_ref, bi_any_ref, bi_max, bi_min, truthD_ref, trO_lst, atI_pos, ixN_pos, bi_isi, gM_cf, gM_gl, gM_fld, gM_mth, gM_opo, gM_opi, gM_opu, gM_eqo, gM_isi, gM_ist, gM_xfd, gM_xiz, gM_exm, gM_fuel, gM_hot0, gM_hot1, List.getElem?_cons_zero, List.getElem?_cons_succ, List.set_cons_zero, List.set_cons_succ, decide_eq_true_eq, Bool.true_eq_false, Bool.false_eq_true, if_true, if_false, ite_true, ite_false, reduceIte, Int.reduceLE, Int.reduceLT, Int.reduceNeg, Int.reduceToNat, Int.reduceEq, Int.reduceNe, List.length_cons, List.length_nil, Nat.reduceAdd, Nat.reduceSub, Nat.reduceLT, List.length_map, true_and, and_true, decide_true, decide_false, Bool.not_true, Bool.not_false, wss_cons, wss_nil, List.map_cons, List.map_nil, List.replicate, List.cons_append, List.nil_append, attr_w D p, attr_w D q]
  simp [wss_nil]
theorem chk_bad {w' : Int} (D : WordT T gb) (p : Wrd h a w x) (q : Wrd h b w' y) (ne : w ≠ w') {Q : Ip.D → Hs → Prop} (z : X "BadWidth" (some [("right", .int w'), ("left", .int w)]) h) : (cal T gb none (k + 3) ("check_widths", none) [.ref a, .ref b] h).wp Q X := by
  refine cal_wp D.chk rfl ?_
  simp only [Tx.f_check_widths, we_fold, wss_fold, wt_fold, we_non, we_bl, we_int, we_str, we_bty, we_var, we_glob, we_bin, we_un, wt_def, we_not, we_and, we_or, we_cmp, we_cmp2, we_ife, we_tup, we_lst, we_idx, we_sl, we_attr, we_call, we_make, we_meth, we_bi, we_bm, wes_nil, wes_cons, wo_none, wo_some, wi_e, wi_rng, we_lc, ws_expr, ws_ret, ws_retN, ws_pass, ws_brk, ws_cont, ws_asg, ws_sub, ws_fld, ws_aug, ws_iff, ws_for, ws_whl, ws_raise, ws_try, op_some, opD_some, br_some, binG_int, binI_add, binI_sub, binI_and, binI_or, binI_xor, binI_mod, binI_shr, cmpG_int, cmpB_lt, cmpB_le, cmpB_gt, cmpB_ge, cmpB_eq, cmpB_ne, cmpB_eqB, truthD_bl, truthD_int, truthD_non, truthD_tup, get_tup, get_rol, bi_len_tup, bi_len_rol, bi_int_int, bi_int_bl, bi_abs, asgP_name, op_ite, opL_some, get_ref, set_ref, bi_len_ref, bi_tuple_ref, bi_tuple_tup, bi_list_ref, bi_list_tup, bi_sum_ref, bi_sum_tup, bi_all_ref, bi_any_ref, bi_max, bi_min, truthD_ref, trO_lst, atI_pos, ixN_pos, bi_isi, gM_cf, gM_gl, gM_fld, gM_mth, gM_opo, gM_opi, gM_opu, gM_eqo, gM_isi, gM_ist, gM_xfd, gM_xiz, gM_exm, gM_fuel, gM_hot0, gM_hot1, List.getElem?_cons_zero, List.getElem?_cons_succ, List.set_cons_zero, List.set_cons_succ, decide_eq_true_eq, Bool.true_eq_false, Bool.false_eq_true, if_true, if_false, ite_true, ite_false, reduceIte, Int.reduceLE, Int.reduceLT, Int.reduceNeg, Int.reduceToNat, Int.reduceEq, Int.reduceNe, List.length_cons, List.length_nil, Nat.reduceAdd, Nat.reduceSub, Nat.reduceLT, List.length_map, true_and, and_true, decide_true, decide_false, Bool.not_true, Bool.not_false, wss_cons, wss_nil, List.map_cons, List.map_nil, List.replicate, List.cons_append, List.nil_append, attr_w D p, attr_w D q, ne, ne_eq, not_false_eq_true, decide_true]
  have bw : ∀ i : Int, 0 ≤ i → i ≤ 256 → i.natAbs < 2 ^ 1000 := fun i h0 h1 => Nat.lt_of_le_of_lt (show i.natAbs ≤ 256 by omega) (by decide +kernel)
  refine mkX_fstr ((congrFun gM_xc _).trans D.xd) rfl (by simp) (fun e he => ?_) z
  simp only [List.mem_cons, List.not_mem_nil, or_false] at he
  rcases he with rfl | rfl | rfl | rfl
  · exact .inl ⟨_, rfl, by decide⟩
  · exact .inr ⟨_, _, rfl, rfl, bw _ p.w0 p.w1⟩
  · exact .inl ⟨_, rfl, by decide⟩
  · exact .inr ⟨_, _, rfl, rfl, bw _ q.w0 q.w1⟩
end
end Ip
end
section
set_option Elab.async false
set_option linter.all false
set_option maxRecDepth 100000
set_option maxHeartbeats 1000000
/-! operators of Word -/
namespace Ip
open PySem L2
theorem binG_own {g : G} {a : Nat} {c : Str} {fs : List (Str × D)} {o : Operator} {y : D} {h : Hs} {Q : D → Hs → Prop} {X : Xp} (e : h[a]? = some (.ins c fs)) (ho : g.opo c o = true) (ht : tyOf g h y = some (.cls c)) : (binG g o (.ref a) y h).wp Q X = (g.cf (c, some (PySem.dunder o.info.2)) [.ref a, y] h).wp Q X := by
  unfold binG insOf
  dsimp only
  rw [e]
  dsimp only
  rw [if_pos]
  rw [ht, ho]
  simp [tyIs]
theorem unG_own {g : G} {a : Nat} {c : Str} {fs : List (Str × D)} {h : Hs} {Q : D → Hs → Prop} {X : Xp} (e : h[a]? = some (.ins c fs)) (ho : g.opu c = true) : (unG g .Invert (.ref a) h).wp Q X = (g.cf (c, some "__invert__") [.ref a] h).wp Q X := by
  unfold unG insOf
  dsimp only
  rw [e]
  dsimp only
  rw [if_pos]
  simp [ho]
theorem boolR_wp {r : R D} {Q : D → Hs → Prop} {X : Xp} (w : r.wp (fun v h' => ∃ b, v = .bl b ∧ Q (.bl b) h') X) : (boolR r).wp Q X := by
  cases r with
  | ok a h => obtain ⟨b, rfl, q⟩ := (show ∃ b, a = .bl b ∧ Q (.bl b) h from w); exact q
  | exc c fs h => exact w
  | bad => exact w
theorem negR_wp {r : R D} {Q : D → Hs → Prop} {X : Xp} (w : r.wp (fun v h' => ∃ b, v = .bl b ∧ Q (.bl !b) h') fun _ _ _ => False) : (negR r).wp Q X := by
  cases r with
  | ok a h => obtain ⟨b, rfl, q⟩ := (show ∃ b, a = .bl b ∧ Q (.bl !b) h from w); exact q
  | exc c fs h => exact (show False from w).elim
  | bad => exact w
theorem cmpG_eqO {g : G} {a : Nat} {c : Str} {fs : List (Str × D)} {y : D} {h : Hs} {Q : D → Hs → Prop} {X : Xp} (e : h[a]? = some (.ins c fs)) {t : D} (ht : tyOf g h y = some t) (hq : g.eqo c t = true) (w : (g.cf (c, some "__eq__") [.ref a, y] h).wp (fun v h' => ∃ b, v = .bl b ∧ Q (.bl b) h') X) : (cmpG g .Eq (.ref a) y h).wp Q X := by
  unfold cmpG insOf
  dsimp only
  rw [e]
  dsimp only
  rw [if_pos (by rw [ht]; exact hq)]
  exact boolR_wp w
theorem cmpG_neO {g : G} {a : Nat} {c : Str} {fs : List (Str × D)} {y : D} {h : Hs} {Q : D → Hs → Prop} {X : Xp} (e : h[a]? = some (.ins c fs)) {t : D} (ht : tyOf g h y = some t) (hq : g.eqo c t = true) (hh : g.hot = false) (w : (g.cm (c, some "__eq__") [.ref a, y] h).wp (fun v h' => ∃ b, v = .bl b ∧ Q (.bl !b) h') fun _ _ _ => False) : (cmpG g .NotEq (.ref a) y h).wp Q X := by
  unfold cmpG insOf
  dsimp only
  rw [e]
  dsimp only
  rw [if_pos (by rw [ht, hh]; exact hq)]
  exact negR_wp w
theorem getattr_prp {g : G} {a : Nat} {c f : Str} {fs : List (Str × D)} {h : Hs} {Q : D → Hs → Prop} {X : Xp} (e : h[a]? = some (.ins c fs)) (hf : g.fld c f = false) (hp : g.prp c f = true) (hh : g.hot = false) (w : (g.cm (c, some f) [.ref a] h).wp Q fun _ _ _ => False) : (getattr g (.ref a) f h).wp Q X := by
  unfold getattr
  dsimp only
  rw [e]
  dsimp only
  rw [if_neg (by simp [hf]), if_pos (by simp [hp, hh])]
  cases q : g.cm (c, some f) [.ref a] h with
  | ok v h' => rw [q] at w; exact w
  | exc _ _ _ => rw [q] at w; exact (show False from w).elim
  | bad => rw [q] at w; exact w
def opv (kind w x y : Int) : Int := if kind = 0 then (x + y) % 2 ^ w.toNat else if kind = 1 then (x - y) % 2 ^ w.toNat else if kind = 2 then Builtin.bitAnd x y else if kind = 3 then Builtin.bitOr x y else Builtin.bitXor x y
structure WordO (T : FKey → Option Fn) (gb : G) : Prop where
  ones : T ("Word", some "ones") = some Tx.m_Word_ones
  fo : gb.fld "Word" "ones" = false
  po : gb.prp "Word" "ones" = true
section
variable {T : FKey → Option Fn} {gb : G} {m : Option Hx} {k : Nat} {h : Hs} {X : Xp} {a b : Nat} {w v x y : Int}
def GiveW (h : Hs) (w v : Int) : Ip.D → Hs → Prop := fun r h' => Kp0 h h' ∧ ∃ c, r = .ref c ∧ Wrd h' c w v
theorem and_ok (D : WordT T gb) (p : Wrd h a w x) (q : Wrd h b w y) : (cal T gb none (k + 4) ("Word", some "__and__") [.ref a, .ref b] h).wp (GiveW h w (Builtin.bitAnd x y)) X := by
  refine cal_wp D.and_ rfl ?_
  simp only [Tx.m_Word_and, we_fold, wss_fold, wt_fold, we_non, we_bl, we_int, we_str, we_bty, we_var, we_glob, we_bin, we_un, wt_def, we_not, we_and, we_or, we_cmp, we_cmp2, we_ife, we_tup, we_lst, we_idx, we_sl, we_attr, we_call, we_make, we_meth, we_bi, we_bm, wes_nil, wes_cons, wo_none, wo_some, wi_e, wi_rng, we_lc, ws_expr, ws_ret, ws_retN, ws_pass, ws_brk, ws_cont, ws_asg, ws_sub, ws_fld, ws_aug, ws_iff, ws_for, ws_whl, ws_raise, ws_try, op_some, opD_some, br_some, binG_int, binI_add, binI_sub, binI_and, binI_or, binI_xor, binI_mod, binI_shr, cmpG_int, cmpB_lt, cmpB_le, cmpB_gt, cmpB_ge, cmpB_eq, cmpB_ne, cmpB_eqB, truthD_bl, truthD_int, truthD_non, truthD_tup, get_tup, get_rol, bi_len_tup, bi_len_rol, bi_int_int, bi_int_bl, bi_abs, asgP_name, op_ite, opL_some, get_ref, set_ref, bi_len_ref, bi_tuple_ref, bi_tuple_tup, bi_list_ref, bi_list_tup, bi_sum_ref, bi_sum_tup, bi_all_ref, bi_any_ref, bi_max, bi_min, truthD_ref, trO_lst, atI_pos, ixN_pos, bi_isi, gM_cf, gM_gl, gM_fld, gM_mth, gM_opo, gM_opi, gM_opu, gM_eqo, gM_isi, gM_ist, gM_xfd, gM_xiz, gM_exm, gM_fuel, gM_hot0, gM_hot1, List.getElem?_cons_zero, List.getElem?_cons_succ, List.set_cons_zero, List.set_cons_succ, decide_eq_true_eq, Bool.true_eq_false, Bool.false_eq_true, if_true, if_false, ite_true, ite_false, reduceIte, Int.reduceLE, Int.reduceLT, Int.reduceNeg, Int.reduceToNat, Int.reduceEq, Int.reduceNe, List.length_cons, List.length_nil, Nat.reduceAdd, Nat.reduceSub, Nat.reduceLT, List.length_map, true_and, and_true, decide_true, decide_false, Bool.not_true, Bool.not_false, wss_cons, wss_nil, List.map_cons, List.map_nil, List.replicate, List.cons_append, List.nil_append]
  refine (chk_ok D p q).imp fun r h1 ⟨e1, e2⟩ => ?_
  subst e1 e2
  simp only [we_fold, wss_fold, wt_fold, we_non, we_bl, we_int, we_str, we_bty, we_var, we_glob, we_bin, we_un, wt_def, we_not, we_and, we_or, we_cmp, we_cmp2, we_ife, we_tup, we_lst, we_idx, we_sl, we_attr, we_call, we_make, we_meth, we_bi, we_bm, wes_nil, wes_cons, wo_none, wo_some, wi_e, wi_rng, we_lc, ws_expr, ws_ret, ws_retN, ws_pass, ws_brk, ws_cont, ws_asg, ws_sub, ws_fld, ws_aug, ws_iff, ws_for, ws_whl, ws_raise, ws_try, op_some, opD_some, br_some, binG_int, binI_add, binI_sub, binI_and, binI_or, binI_xor, binI_mod, binI_shr, cmpG_int, cmpB_lt, cmpB_le, cmpB_gt, cmpB_ge, cmpB_eq, cmpB_ne, cmpB_eqB, truthD_bl, truthD_int, truthD_non, truthD_tup, get_tup, get_rol, bi_len_tup, bi_len_rol, bi_int_int, bi_int_bl, bi_abs, asgP_name, op_ite, opL_some, get_ref, set_ref, bi_len_ref, bi_tuple_ref, bi_tuple_tup, bi_list_ref, bi_list_tup, bi_sum_ref, bi_sum_tup, bi_all_ref, bi_any_ref, bi_max, bi_min, truthD_ref, trO_lst, atI_pos, ixN_pos, bi_isi, gM_cf, gM_gl, gM_fld, gM_mth, gM_opo, gM_opi, gM_opu, gM_eqo, gM_isi, gM_ist, gM_xfd, gM_xiz, gM_exm, gM_fuel, gM_hot0, gM_hot1, List.getElem?_cons_zero, List.getElem?_cons_succ, List.set_cons_zero, List.set_cons_succ, decide_eq_true_eq, Bool.true_eq_false, Bool.false_eq_true, if_true, if_false, ite_true, ite_false, reduceIte, Int.reduceLE, Int.reduceLT, Int.reduceNeg, Int.reduceToNat, Int.reduceEq, Int.reduceNe, List.length_cons, List.length_nil, Nat.reduceAdd, Nat.reduceSub, Nat.reduceLT, List.length_map, true_and, and_true, decide_true, decide_false, Bool.not_true, Bool.not_false, wss_cons, wss_nil, attr_w D p, attr_v D p, attr_v D q]
  have r := and_range p.v0 q.v0 q.v1
  exact (make_ok D p.w0 p.w1 r.1 r.2).imp fun r h' ⟨kp, c, e, _, W⟩ => ⟨kp, c, e, W⟩
theorem or_ok (D : WordT T gb) (p : Wrd h a w x) (q : Wrd h b w y) : (cal T gb none (k + 4) ("Word", some "__or__") [.ref a, .ref b] h).wp (GiveW h w (Builtin.bitOr x y)) X := by
  refine cal_wp D.or_ rfl ?_
  simp only [Tx.m_Word_or, we_fold, wss_fold, wt_fold, we_non, we_bl, we_int, we_str, we_bty, we_var, we_glob, we_bin, we_un, wt_def, we_not, we_and, we_or, we_cmp, we_cmp2, we_ife, we_tup, we_lst, we_idx, we_sl, we_attr, we_call, we_make, we_meth, we_bi, we_bm, wes_nil, wes_cons, wo_none, wo_some, wi_e, wi_rng, we_lc, ws_expr, ws_ret, ws_retN, ws_pass, ws_brk, ws_cont, ws_asg, ws_sub, ws_fld, ws_aug, ws_iff, ws_for, ws_whl, ws_raise, ws_try, op_some, opD_some, br_some, binG_int, binI_add, binI_sub, binI_and, binI_or, binI_xor, binI_mod, binI_shr, cmpG_int, cmpB_lt, cmpB_le, cmpB_gt, cmpB_ge, cmpB_eq, cmpB_ne, cmpB_eqB, truthD_bl, truthD_int, truthD_non, truthD_tup, get_tup, get_rol, bi_len_tup, bi_len_rol, bi_int_int, bi_int_bl, bi_abs, asgP_name, op_ite, opL_some, get_ref, set_ref, bi_len_ref, bi_tuple_ref, bi_tuple_tup, bi_list_ref, bi_list_tup, bi_sum_ref, bi_sum_tup, bi_all_ref, bi_any_ref, bi_max, bi_min, truthD_ref, trO_lst, atI_pos, ixN_pos, bi_isi, gM_cf, gM_gl, gM_fld, gM_mth, gM_opo, gM_opi, gM_opu, gM_eqo, gM_isi, gM_ist, gM_xfd, gM_xiz, gM_exm, gM_fuel, gM_hot0, gM_hot1, List.getElem?_cons_zero, List.getElem?_cons_succ, List.set_cons_zero, List.set_cons_succ, decide_eq_true_eq, Bool.true_eq_false, Bool.false_eq_true, if_true, if_false, ite_true, ite_false, reduceIte, Int.reduceLE, Int.reduceLT, Int.reduceNeg, Int.reduceToNat, Int.reduceEq, Int.reduceNe, List.length_cons, List.length_nil, Nat.reduceAdd, Nat.reduceSub, Nat.reduceLT, List.length_map, true_and, and_true, decide_true, decide_false, Bool.not_true, Bool.not_false, wss_cons, wss_nil, List.map_cons, List.map_nil, List.replicate, List.cons_append, List.nil_append]
  refine (chk_ok D p q).imp fun r h1 ⟨e1, e2⟩ => ?_
  subst e1 e2
  simp only [we_fold, wss_fold, wt_fold, we_non, we_bl, we_int, we_str, we_bty, we_var, we_glob, we_bin, we_un, wt_def, we_not, we_and, we_or, we_cmp, we_cmp2, we_ife, we_tup, we_lst, we_idx, we_sl, we_attr, we_call, we_make, we_meth, we_bi, we_bm, wes_nil, wes_cons, wo_none, wo_some, wi_e, wi_rng, we_lc, ws_expr, ws_ret, ws_retN, ws_pass, ws_brk, ws_cont, ws_asg, ws_sub, ws_fld, ws_aug, ws_iff, ws_for, ws_whl, ws_raise, ws_try, op_some, opD_some, br_some, binG_int, binI_add, binI_sub, binI_and, binI_or, binI_xor, binI_mod, binI_shr, cmpG_int, cmpB_lt, cmpB_le, cmpB_gt, cmpB_ge, cmpB_eq, cmpB_ne, cmpB_eqB, truthD_bl, truthD_int, truthD_non, truthD_tup, get_tup, get_rol, bi_len_tup, bi_len_rol, bi_int_int, bi_int_bl, bi_abs, asgP_name, op_ite, opL_some, get_ref, set_ref, bi_len_ref, bi_tuple_ref, bi_tuple_tup, bi_list_ref, bi_list_tup, bi_sum_ref, bi_sum_tup, bi_all_ref, bi_any_ref, bi_max, bi_min, truthD_ref, trO_lst, atI_pos, ixN_pos, bi_isi, gM_cf, gM_gl, gM_fld, gM_mth, gM_opo, gM_opi, gM_opu, gM_eqo, gM_isi, gM_ist, gM_xfd, gM_xiz, gM_exm, gM_fuel, gM_hot0, gM_hot1, List.getElem?_cons_zero, List.getElem?_cons_succ, List.set_cons_zero, List.set_cons_succ, decide_eq_true_eq, Bool.true_eq_false, Bool.false_eq_true, if_true, if_false, ite_true, ite_false, reduceIte, Int.reduceLE, Int.reduceLT, Int.reduceNeg, Int.reduceToNat, Int.reduceEq, Int.reduceNe, List.length_cons, List.length_nil, Nat.reduceAdd, Nat.reduceSub, Nat.reduceLT, List.length_map, true_and, and_true, decide_true, decide_false, Bool.not_true, Bool.not_false, wss_cons, wss_nil, attr_w D p, attr_v D p, attr_v D q]
  have r := or_range p.v0 p.v1 q.v0 q.v1
  exact (make_ok D p.w0 p.w1 r.1 r.2).imp fun r h' ⟨kp, c, e, _, W⟩ => ⟨kp, c, e, W⟩
theorem xor_ok (D : WordT T gb) (p : Wrd h a w x) (q : Wrd h b w y) : (cal T gb none (k + 4) ("Word", some "__xor__") [.ref a, .ref b] h).wp (GiveW h w (Builtin.bitXor x y)) X := by
  refine cal_wp D.xor_ rfl ?_
  simp only [Tx.m_Word_xor, we_fold, wss_fold, wt_fold, we_non, we_bl, we_int, we_str, we_bty, we_var, we_glob, we_bin, we_un, wt_def, we_not, we_and, we_or, we_cmp, we_cmp2, we_ife, we_tup, we_lst, we_idx, we_sl, we_attr, we_call, we_make, we_meth, we_bi, we_bm, wes_nil, wes_cons, wo_none, wo_some, wi_e, wi_rng, we_lc, ws_expr, ws_ret, ws_retN, ws_pass, ws_brk, ws_cont, ws_asg, ws_sub, ws_fld, ws_aug, ws_iff, ws_for, ws_whl, ws_raise, ws_try, op_some, opD_some, br_some, binG_int, binI_add, binI_sub, binI_and, binI_or, binI_xor, binI_mod, binI_shr, cmpG_int, cmpB_lt, cmpB_le, cmpB_gt, cmpB_ge, cmpB_eq, cmpB_ne, cmpB_eqB, truthD_bl, truthD_int, truthD_non, truthD_tup, get_tup, get_rol, bi_len_tup, bi_len_rol, bi_int_int, bi_int_bl, bi_abs, asgP_name, op_ite, opL_some, get_ref, set_ref, bi_len_ref, bi_tuple_ref, bi_tuple_tup, bi_list_ref, bi_list_tup, bi_sum_ref, bi_sum_tup, bi_all_ref, bi_any_ref, bi_max, bi_min, truthD_ref, trO_lst, atI_pos, ixN_pos, bi_isi, gM_cf, gM_gl, gM_fld, gM_mth, gM_opo, gM_opi, gM_opu, gM_eqo, gM_isi, gM_ist, gM_xfd, gM_xiz, gM_exm, gM_fuel, gM_hot0, gM_hot1, List.getElem?_cons_zero, List.getElem?_cons_succ, List.set_cons_zero, List.set_cons_succ, decide_eq_true_eq, Bool.true_eq_false, Bool.false_eq_true, if_true, if_false, ite_true, ite_false, reduceIte, Int.reduceLE, Int.reduceLT, Int.reduceNeg, Int.reduceToNat, Int.reduceEq, Int.reduceNe, List.length_cons, List.length_nil, Nat.reduceAdd, Nat.reduceSub, Nat.reduceLT, List.length_map, true_and, and_true, decide_true, decide_false, Bool.not_true, Bool.not_false, wss_cons, wss_nil, List.map_cons, List.map_nil, List.replicate, List.cons_append, List.nil_append]
  refine (chk_ok D p q).imp fun r h1 ⟨e1, e2⟩ => ?_
  subst e1 e2
  simp only [we_fold, wss_fold, wt_fold, we_non, we_bl, we_int, we_str, we_bty, we_var, we_glob, we_bin, we_un, wt_def, we_not, we_and, we_or, we_cmp, we_cmp2, we_ife, we_tup, we_lst, we_idx, we_sl, we_attr, we_call, we_make, we_meth, we_bi, we_bm, wes_nil, wes_cons, wo_none, wo_some, wi_e, wi_rng, we_lc, ws_expr, ws_ret, ws_retN, ws_pass, ws_brk, ws_cont, ws_asg, ws_sub, ws_fld, ws_aug, ws_iff, ws_for, ws_whl, ws_raise, ws_try, op_some, opD_some, br_some, binG_int, binI_add, binI_sub, binI_and, binI_or, binI_xor, binI_mod, binI_shr, cmpG_int, cmpB_lt, cmpB_le, cmpB_gt, cmpB_ge, cmpB_eq, cmpB_ne, cmpB_eqB, truthD_bl, truthD_int, truthD_non, truthD_tup, get_tup, get_rol, bi_len_tup, bi_len_rol, bi_int_int, bi_int_bl, bi_abs, asgP_name, op_ite, opL_some, get_ref, set_ref, bi_len_ref, bi_tuple_ref, bi_tuple_tup, bi_list_ref, bi_list_tup, bi_sum_ref, bi_sum_tup, bi_all_ref, bi_any_ref, bi_max, bi_min, truthD_ref, trO_lst, atI_pos, ixN_pos, bi_isi, gM_cf, gM_gl, gM_fld, gM_mth, gM_opo, gM_opi, gM_opu, gM_eqo, gM_isi, gM_ist, gM_xfd, gM_xiz, gM_exm, gM_fuel, gM_hot0, gM_hot1, List.getElem?_cons_zero, List.getElem?_cons_succ, List.set_cons_zero, List.set_cons_succ, decide_eq_true_eq, Bool.true_eq_false, Bool.false_eq_true, if_true, if_false, ite_true, ite_false, reduceIte, Int.reduceLE, Int.reduceLT, Int.reduceNeg, Int.reduceToNat, Int.reduceEq, Int.reduceNe, List.length_cons, List.length_nil, Nat.reduceAdd, Nat.reduceSub, Nat.reduceLT, List.length_map, true_and, and_true, decide_true, decide_false, Bool.not_true, Bool.not_false, wss_cons, wss_nil, attr_w D p, attr_v D p, attr_v D q]
  have r := xor_range p.v0 p.v1 q.v0 q.v1
  exact (make_ok D p.w0 p.w1 r.1 r.2).imp fun r h' ⟨kp, c, e, _, W⟩ => ⟨kp, c, e, W⟩
theorem pow_pos2 {n : Nat} : (0 : Int) < 2 ^ n := Int.pow_pos (by decide)
theorem mod_rng {z : Int} {n : Nat} : 0 ≤ z % 2 ^ n ∧ z % 2 ^ n < 2 ^ n := ⟨Int.emod_nonneg _ (Int.ne_of_gt pow_pos2), Int.emod_lt_of_pos _ pow_pos2⟩
theorem add_ok (D : WordT T gb) (p : Wrd h a w x) (q : Wrd h b w y) : (cal T gb none (k + 4) ("Word", some "__add__") [.ref a, .ref b] h).wp (GiveW h w ((x + y) % 2 ^ w.toNat)) X := by
  refine cal_wp D.add_ rfl ?_
  simp only [Tx.m_Word_add, we_fold, wss_fold, wt_fold, we_non, we_bl, we_int, we_str, we_bty, we_var, we_glob, we_bin, we_un, wt_def, we_not, we_and, we_or, we_cmp, we_cmp2, we_ife, we_tup, we_lst, we_idx, we_sl, we_attr, we_call, we_make, we_meth, we_bi, we_bm, wes_nil, wes_cons, wo_none, wo_some, wi_e, wi_rng, we_lc, ws_expr, ws_ret, ws_retN, ws_pass, ws_brk, ws_cont, ws_asg, ws_sub, ws_fld, ws_aug, ws_iff, ws_for, ws_whl, ws_raise, ws_try, op_some, opD_some, br_some, binG_int, binI_add, binI_sub, binI_and, binI_or, binI_xor, binI_mod, binI_shr, cmpG_int, cmpB_lt, cmpB_le, cmpB_gt, cmpB_ge, cmpB_eq, cmpB_ne, cmpB_eqB, truthD_bl, truthD_int, truthD_non, truthD_tup, get_tup, get_rol, bi_len_tup, bi_len_rol, bi_int_int, bi_int_bl, bi_abs, asgP_name, op_ite, opL_some, get_ref, set_ref, bi_len_ref, bi_tuple_ref, bi_tuple_tup, bi_list_ref, bi_list_tup, bi_sum_ref, bi_sum_tup, bi_all_ref, bi_any_ref, bi_max, bi_min, truthD_ref, trO_lst, atI_pos, ixN_pos, bi_isi, gM_cf, gM_gl, gM_fld, gM_mth, gM_opo, gM_opi, gM_opu, gM_eqo, gM_isi, gM_ist, gM_xfd, gM_xiz, gM_exm, gM_fuel, gM_hot0, gM_hot1, List.getElem?_cons_zero, List.getElem?_cons_succ, List.set_cons_zero, List.set_cons_succ, decide_eq_true_eq, Bool.true_eq_false, Bool.false_eq_true, if_true, if_false, ite_true, ite_false, reduceIte, Int.reduceLE, Int.reduceLT, Int.reduceNeg, Int.reduceToNat, Int.reduceEq, Int.reduceNe, List.length_cons, List.length_nil, Nat.reduceAdd, Nat.reduceSub, Nat.reduceLT, List.length_map, true_and, and_true, decide_true, decide_false, Bool.not_true, Bool.not_false, wss_cons, wss_nil, List.map_cons, List.map_nil, List.replicate, List.cons_append, List.nil_append]
  refine (chk_ok D p q).imp fun r h1 ⟨e1, e2⟩ => ?_
  subst e1 e2
  simp only [we_fold, wss_fold, wt_fold, we_non, we_bl, we_int, we_str, we_bty, we_var, we_glob, we_bin, we_un, wt_def, we_not, we_and, we_or, we_cmp, we_cmp2, we_ife, we_tup, we_lst, we_idx, we_sl, we_attr, we_call, we_make, we_meth, we_bi, we_bm, wes_nil, wes_cons, wo_none, wo_some, wi_e, wi_rng, we_lc, ws_expr, ws_ret, ws_retN, ws_pass, ws_brk, ws_cont, ws_asg, ws_sub, ws_fld, ws_aug, ws_iff, ws_for, ws_whl, ws_raise, ws_try, op_some, opD_some, br_some, binG_int, binI_add, binI_sub, binI_and, binI_or, binI_xor, binI_mod, binI_shr, cmpG_int, cmpB_lt, cmpB_le, cmpB_gt, cmpB_ge, cmpB_eq, cmpB_ne, cmpB_eqB, truthD_bl, truthD_int, truthD_non, truthD_tup, get_tup, get_rol, bi_len_tup, bi_len_rol, bi_int_int, bi_int_bl, bi_abs, asgP_name, op_ite, opL_some, get_ref, set_ref, bi_len_ref, bi_tuple_ref, bi_tuple_tup, bi_list_ref, bi_list_tup, bi_sum_ref, bi_sum_tup, bi_all_ref, bi_any_ref, bi_max, bi_min, truthD_ref, trO_lst, atI_pos, ixN_pos, bi_isi, gM_cf, gM_gl, gM_fld, gM_mth, gM_opo, gM_opi, gM_opu, gM_eqo, gM_isi, gM_ist, gM_xfd, gM_xiz, gM_exm, gM_fuel, gM_hot0, gM_hot1, List.getElem?_cons_zero, List.getElem?_cons_succ, List.set_cons_zero, List.set_cons_succ, decide_eq_true_eq, Bool.true_eq_false, Bool.false_eq_true, if_true, if_false, ite_true, ite_false, reduceIte, Int.reduceLE, Int.reduceLT, Int.reduceNeg, Int.reduceToNat, Int.reduceEq, Int.reduceNe, List.length_cons, List.length_nil, Nat.reduceAdd, Nat.reduceSub, Nat.reduceLT, List.length_map, true_and, and_true, decide_true, decide_false, Bool.not_true, Bool.not_false, wss_cons, wss_nil, attr_w D p, attr_v D p, attr_v D q]
  refine (full_ok D p.w0 p.w1).imp fun r h1 ⟨e1, e2⟩ => ?_
  subst e1 e2
  simp only [we_fold, wss_fold, wt_fold, we_non, we_bl, we_int, we_str, we_bty, we_var, we_glob, we_bin, we_un, wt_def, we_not, we_and, we_or, we_cmp, we_cmp2, we_ife, we_tup, we_lst, we_idx, we_sl, we_attr, we_call, we_make, we_meth, we_bi, we_bm, wes_nil, wes_cons, wo_none, wo_some, wi_e, wi_rng, we_lc, ws_expr, ws_ret, ws_retN, ws_pass, ws_brk, ws_cont, ws_asg, ws_sub, ws_fld, ws_aug, ws_iff, ws_for, ws_whl, ws_raise, ws_try, op_some, opD_some, br_some, binG_int, binI_add, binI_sub, binI_and, binI_or, binI_xor, binI_mod, binI_shr, cmpG_int, cmpB_lt, cmpB_le, cmpB_gt, cmpB_ge, cmpB_eq, cmpB_ne, cmpB_eqB, truthD_bl, truthD_int, truthD_non, truthD_tup, get_tup, get_rol, bi_len_tup, bi_len_rol, bi_int_int, bi_int_bl, bi_abs, asgP_name, op_ite, opL_some, get_ref, set_ref, bi_len_ref, bi_tuple_ref, bi_tuple_tup, bi_list_ref, bi_list_tup, bi_sum_ref, bi_sum_tup, bi_all_ref, bi_any_ref, bi_max, bi_min, truthD_ref, trO_lst, atI_pos, ixN_pos, bi_isi, gM_cf, gM_gl, gM_fld, gM_mth, gM_opo, gM_opi, gM_opu, gM_eqo, gM_isi, gM_ist, gM_xfd, gM_xiz, gM_exm, gM_fuel, gM_hot0, gM_hot1, List.getElem?_cons_zero, List.getElem?_cons_succ, List.set_cons_zero, List.set_cons_succ, decide_eq_true_eq, Bool.true_eq_false, Bool.false_eq_true, if_true, if_false, ite_true, ite_false, reduceIte, Int.reduceLE, Int.reduceLT, Int.reduceNeg, Int.reduceToNat, Int.reduceEq, Int.reduceNe, List.length_cons, List.length_nil, Nat.reduceAdd, Nat.reduceSub, Nat.reduceLT, List.length_map, true_and, and_true, decide_true, decide_false, Bool.not_true, Bool.not_false, wss_cons, wss_nil, PySem.W.kbt_mask]
  exact (make_ok D p.w0 p.w1 mod_rng.1 mod_rng.2).imp fun r h' ⟨kp, c, e, _, W⟩ => ⟨kp, c, e, W⟩
theorem sub_ok (D : WordT T gb) (p : Wrd h a w x) (q : Wrd h b w y) : (cal T gb none (k + 4) ("Word", some "__sub__") [.ref a, .ref b] h).wp (GiveW h w ((x - y) % 2 ^ w.toNat)) X := by
  refine cal_wp D.sub_ rfl ?_
  simp only [Tx.m_Word_sub, we_fold, wss_fold, wt_fold, we_non, we_bl, we_int, we_str, we_bty, we_var, we_glob, we_bin, we_un, wt_def, we_not, we_and, we_or, we_cmp, we_cmp2, we_ife, we_tup, we_lst, we_idx, we_sl, we_attr, we_call, we_make, we_meth, we_bi, we_bm, wes_nil, wes_cons, wo_none, wo_some, wi_e, wi_rng, we_lc, ws_expr, ws_ret, ws_retN, ws_pass, ws_brk, ws_cont, ws_asg, ws_sub, ws_fld, ws_aug, ws_iff, ws_for, ws_whl, ws_raise, ws_try, op_some, opD_some, br_some, binG_int, binI_add, binI_sub, binI_and, binI_or, binI_xor, binI_mod, binI_shr, cmpG_int, cmpB_lt, cmpB_le, cmpB_gt, cmpB_ge, cmpB_eq, cmpB_ne, cmpB_eqB, truthD_bl, truthD_int, truthD_non, truthD_tup, get_tup, get_rol, bi_len_tup, bi_len_rol, bi_int_int, bi_int_bl, bi_abs, asgP_name, op_ite, opL_some, get_ref, set_ref, bi_len_ref, bi_tuple_ref, bi_tuple_tup, bi_list_ref, bi_list_tup, bi_sum_ref, bi_sum_tup, bi_all_ref, bi_any_ref, bi_max, bi_min, truthD_ref, trO_lst, atI_pos, ixN_pos, bi_isi, gM_cf, gM_gl, gM_fld, gM_mth, gM_opo, gM_opi, gM_opu, gM_eqo, gM_isi, gM_ist, gM_xfd, gM_xiz, gM_exm, gM_fuel, gM_hot0, gM_hot1, List.getElem?_cons_zero, List.getElem?_cons_succ, List.set_cons_zero, List.set_cons_succ, decide_eq_true_eq, Bool.true_eq_false, Bool.false_eq_true, if_true, if_false, ite_true, ite_false, reduceIte, Int.reduceLE, Int.reduceLT, Int.reduceNeg, Int.reduceToNat, Int.reduceEq, Int.reduceNe, List.length_cons, List.length_nil, Nat.reduceAdd, Nat.reduceSub, Nat.reduceLT, List.length_map, true_and, and_true, decide_true, decide_false, Bool.not_true, Bool.not_false, wss_cons, wss_nil, List.map_cons, List.map_nil, List.replicate, List.cons_append, List.nil_append]
  refine (chk_ok D p q).imp fun r h1 ⟨e1, e2⟩ => ?_
  subst e1 e2
  simp only [we_fold, wss_fold, wt_fold, we_non, we_bl, we_int, we_str, we_bty, we_var, we_glob, we_bin, we_un, wt_def, we_not, we_and, we_or, we_cmp, we_cmp2, we_ife, we_tup, we_lst, we_idx, we_sl, we_attr, we_call, we_make, we_meth, we_bi, we_bm, wes_nil, wes_cons, wo_none, wo_some, wi_e, wi_rng, we_lc, ws_expr, ws_ret, ws_retN, ws_pass, ws_brk, ws_cont, ws_asg, ws_sub, ws_fld, ws_aug, ws_iff, ws_for, ws_whl, ws_raise, ws_try, op_some, opD_some, br_some, binG_int, binI_add, binI_sub, binI_and, binI_or, binI_xor, binI_mod, binI_shr, cmpG_int, cmpB_lt, cmpB_le, cmpB_gt, cmpB_ge, cmpB_eq, cmpB_ne, cmpB_eqB, truthD_bl, truthD_int, truthD_non, truthD_tup, get_tup, get_rol, bi_len_tup, bi_len_rol, bi_int_int, bi_int_bl, bi_abs, asgP_name, op_ite, opL_some, get_ref, set_ref, bi_len_ref, bi_tuple_ref, bi_tuple_tup, bi_list_ref, bi_list_tup, bi_sum_ref, bi_sum_tup, bi_all_ref, bi_any_ref, bi_max, bi_min, truthD_ref, trO_lst, atI_pos, ixN_pos, bi_isi, gM_cf, gM_gl, gM_fld, gM_mth, gM_opo, gM_opi, gM_opu, gM_eqo, gM_isi, gM_ist, gM_xfd, gM_xiz, gM_exm, gM_fuel, gM_hot0, gM_hot1, List.getElem?_cons_zero, List.getElem?_cons_succ, List.set_cons_zero, List.set_cons_succ, decide_eq_true_eq, Bool.true_eq_false, Bool.false_eq_true, if_true, if_false, ite_true, ite_false, reduceIte, Int.reduceLE, Int.reduceLT, Int.reduceNeg, Int.reduceToNat, Int.reduceEq, Int.reduceNe, List.length_cons, List.length_nil, Nat.reduceAdd, Nat.reduceSub, Nat.reduceLT, List.length_map, true_and, and_true, decide_true, decide_false, Bool.not_true, Bool.not_false, wss_cons, wss_nil, attr_w D p, attr_v D p, attr_v D q]
  refine (full_ok D p.w0 p.w1).imp fun r h1 ⟨e1, e2⟩ => ?_
  subst e1 e2
  simp only [we_fold, wss_fold, wt_fold, we_non, we_bl, we_int, we_str, we_bty, we_var, we_glob, we_bin, we_un, wt_def, we_not, we_and, we_or, we_cmp, we_cmp2, we_ife, we_tup, we_lst, we_idx, we_sl, we_attr, we_call, we_make, we_meth, we_bi, we_bm, wes_nil, wes_cons, wo_none, wo_some, wi_e, wi_rng, we_lc, ws_expr, ws_ret, ws_retN, ws_pass, ws_brk, ws_cont, ws_asg, ws_sub, ws_fld, ws_aug, ws_iff, ws_for, ws_whl, ws_raise, ws_try, op_some, opD_some, br_some, binG_int, binI_add, binI_sub, binI_and, binI_or, binI_xor, binI_mod, binI_shr, cmpG_int, cmpB_lt, cmpB_le, cmpB_gt, cmpB_ge, cmpB_eq, cmpB_ne, cmpB_eqB, truthD_bl, truthD_int, truthD_non, truthD_tup, get_tup, get_rol, bi_len_tup, bi_len_rol, bi_int_int, bi_int_bl, bi_abs, asgP_name, op_ite, opL_some, get_ref, set_ref, bi_len_ref, bi_tuple_ref, bi_tuple_tup, bi_list_ref, bi_list_tup, bi_sum_ref, bi_sum_tup, bi_all_ref, bi_any_ref, bi_max, bi_min, truthD_ref, trO_lst, atI_pos, ixN_pos, bi_isi, gM_cf, gM_gl, gM_fld, gM_mth, gM_opo, gM_opi, gM_opu, gM_eqo, gM_isi, gM_ist, gM_xfd, gM_xiz, gM_exm, gM_fuel, gM_hot0, gM_hot1, List.getElem?_cons_zero, List.getElem?_cons_succ, List.set_cons_zero, List.set_cons_succ, decide_eq_true_eq, Bool.true_eq_false, Bool.false_eq_true, if_true, if_false, ite_true, ite_false, reduceIte, Int.reduceLE, Int.reduceLT, Int.reduceNeg, Int.reduceToNat, Int.reduceEq, Int.reduceNe, List.length_cons, List.length_nil, Nat.reduceAdd, Nat.reduceSub, Nat.reduceLT, List.length_map, true_and, and_true, decide_true, decide_false, Bool.not_true, Bool.not_false, wss_cons, wss_nil, PySem.W.kbt_mask]
  exact (make_ok D p.w0 p.w1 mod_rng.1 mod_rng.2).imp fun r h' ⟨kp, c, e, _, W⟩ => ⟨kp, c, e, W⟩
theorem inv_val {n : Nat} (h0 : 0 ≤ x) (h1 : x < 2 ^ n) : Builtin.bitXor x (2 ^ n - 1) = 2 ^ n - 1 - x := by
  rw [PyProof.Rows.bitXor_and, PySem.W.kbt_mask, Int.emod_eq_of_lt h0 h1]
  omega
theorem inv_ok (D : WordT T gb) (p : Wrd h a w x) : (cal T gb none (k + 4) ("Word", some "__invert__") [.ref a] h).wp (GiveW h w (2 ^ w.toNat - 1 - x)) X := by
  refine cal_wp D.inv_ rfl ?_
  simp only [Tx.m_Word_invert, we_fold, wss_fold, wt_fold, we_non, we_bl, we_int, we_str, we_bty, we_var, we_glob, we_bin, we_un, wt_def, we_not, we_and, we_or, we_cmp, we_cmp2, we_ife, we_tup, we_lst, we_idx, we_sl, we_attr, we_call, we_make, we_meth, we_bi, we_bm, wes_nil, wes_cons, wo_none, wo_some, wi_e, wi_rng, we_lc, ws_expr, ws_ret, ws_retN, ws_pass, ws_brk, ws_cont, ws_asg, ws_sub, ws_fld, ws_aug, ws_iff, ws_for, ws_whl, ws_raise, ws_try, op_some, opD_some, br_some, binG_int, binI_add, binI_sub, binI_and, binI_or, binI_xor, binI_mod, binI_shr, cmpG_int, cmpB_lt, cmpB_le, cmpB_gt, cmpB_ge, cmpB_eq, cmpB_ne, cmpB_eqB, truthD_bl, truthD_int, truthD_non, truthD_tup, get_tup, get_rol, bi_len_tup, bi_len_rol, bi_int_int, bi_int_bl, bi_abs, asgP_name, op_ite, opL_some, get_ref, set_ref, bi_len_ref, bi_tuple_ref, bi_tuple_tup, bi_list_ref, bi_list_tup, bi_sum_ref, bi_sum_tup, bi_all_ref, bi_any_ref, bi_max, bi_min, truthD_ref, trO_lst, atI_pos, ixN_pos, bi_isi, gM_cf, gM_gl, gM_fld, gM_mth, gM_opo, gM_opi, gM_opu, gM_eqo, gM_isi, gM_ist, gM_xfd, gM_xiz, gM_exm, gM_fuel, gM_hot0, gM_hot1, List.getElem?_cons_zero, List.getElem?_cons_succ, List.set_cons_zero, List.set_cons_succ, decide_eq_true_eq, Bool.true_eq_false, Bool.false_eq_true, if_true, if_false, ite_true, ite_false, reduceIte, Int.reduceLE, Int.reduceLT, Int.reduceNeg, Int.reduceToNat, Int.reduceEq, Int.reduceNe, List.length_cons, List.length_nil, Nat.reduceAdd, Nat.reduceSub, Nat.reduceLT, List.length_map, true_and, and_true, decide_true, decide_false, Bool.not_true, Bool.not_false, wss_cons, wss_nil, List.map_cons, List.map_nil, List.replicate, List.cons_append, List.nil_append, attr_w D p, attr_v D p]
  refine (full_ok D p.w0 p.w1).imp fun r h1 ⟨e1, e2⟩ => ?_
  subst e1 e2
  simp only [we_fold, wss_fold, wt_fold, we_non, we_bl, we_int, we_str, we_bty, we_var, we_glob, we_bin, we_un, wt_def, we_not, we_and, we_or, we_cmp, we_cmp2, we_ife, we_tup, we_lst, we_idx, we_sl, we_attr, we_call, we_make, we_meth, we_bi, we_bm, wes_nil, wes_cons, wo_none, wo_some, wi_e, wi_rng, we_lc, ws_expr, ws_ret, ws_retN, ws_pass, ws_brk, ws_cont, ws_asg, ws_sub, ws_fld, ws_aug, ws_iff, ws_for, ws_whl, ws_raise, ws_try, op_some, opD_some, br_some, binG_int, binI_add, binI_sub, binI_and, binI_or, binI_xor, binI_mod, binI_shr, cmpG_int, cmpB_lt, cmpB_le, cmpB_gt, cmpB_ge, cmpB_eq, cmpB_ne, cmpB_eqB, truthD_bl, truthD_int, truthD_non, truthD_tup, get_tup, get_rol, bi_len_tup, bi_len_rol, bi_int_int, bi_int_bl, bi_abs, asgP_name, op_ite, opL_some, get_ref, set_ref, bi_len_ref, bi_tuple_ref, bi_tuple_tup, bi_list_ref, bi_list_tup, bi_sum_ref, bi_sum_tup, bi_all_ref, bi_any_ref, bi_max, bi_min, truthD_ref, trO_lst, atI_pos, ixN_pos, bi_isi, gM_cf, gM_gl, gM_fld, gM_mth, gM_opo, gM_opi, gM_opu, gM_eqo, gM_isi, gM_ist, gM_xfd, gM_xiz, gM_exm, gM_fuel, gM_hot0, gM_hot1, List.getElem?_cons_zero, List.getElem?_cons_succ, List.set_cons_zero, List.set_cons_succ, decide_eq_true_eq, Bool.true_eq_false, Bool.false_eq_true, if_true, if_false, ite_true, ite_false, reduceIte, Int.reduceLE, Int.reduceLT, Int.reduceNeg, Int.reduceToNat, Int.reduceEq, Int.reduceNe, List.length_cons, List.length_nil, Nat.reduceAdd, Nat.reduceSub, Nat.reduceLT, List.length_map, true_and, and_true, decide_true, decide_false, Bool.not_true, Bool.not_false, wss_cons, wss_nil, inv_val p.v0 p.v1]
  have := p.v0
  have := p.v1
  exact (make_ok D p.w0 p.w1 (by omega) (by omega)).imp fun r h' ⟨kp, c, e, _, W⟩ => ⟨kp, c, e, W⟩
/-- words of unlike widths are refused -/
theorem ops_bad {w' : Int} (D : WordT T gb) (p : Wrd h a w x) (q : Wrd h b w' y) (ne : w ≠ w') {Q : Ip.D → Hs → Prop} (z : X "BadWidth" (some [("right", .int w'), ("left", .int w)]) h) : (cal T gb none (k + 4) ("Word", some "__and__") [.ref a, .ref b] h).wp Q X ∧ (cal T gb none (k + 4) ("Word", some "__or__") [.ref a, .ref b] h).wp Q X ∧ (cal T gb none (k + 4) ("Word", some "__xor__") [.ref a, .ref b] h).wp Q X ∧ (cal T gb none (k + 4) ("Word", some "__add__") [.ref a, .ref b] h).wp Q X ∧ (cal T gb none (k + 4) ("Word", some "__sub__") [.ref a, .ref b] h).wp Q X := by
  refine ⟨?_, ?_, ?_, ?_, ?_⟩
  · refine cal_wp D.and_ rfl ?_
    simp only [Tx.m_Word_and, we_fold, wss_fold, wt_fold, we_non, we_bl, we_int, we_str, we_bty, we_var, we_glob, we_bin, we_un, wt_def, we_not, we_and, we_or, we_cmp, we_cmp2, we_ife, we_tup, we_lst, we_idx, we_sl, we_attr, we_call, we_make, we_meth, we_bi, we_bm, wes_nil, wes_cons, wo_none, wo_some, wi_e, wi_rng, we_lc, ws_expr, ws_ret, ws_retN, ws_pass, ws_brk, ws_cont, ws_asg, ws_sub, ws_fld, ws_aug, ws_iff, ws_for, ws_whl, ws_raise, ws_try, op_some, opD_some, br_some, binG_int, binI_add, binI_sub, binI_and, binI_or, binI_xor, binI_mod, binI_shr, cmpG_int, cmpB_lt, cmpB_le, cmpB_gt, cmpB_ge, cmpB_eq, cmpB_ne, cmpB_eqB, truthD_bl, truthD_int, truthD_non, truthD_tup, get_tup, get_rol, bi_len_tup, bi_len_rol, bi_int_int, bi_int_bl, bi_abs, asgP_name, op_ite, opL_some, get_ref, set_ref, bi_len_ref, bi_tuple_ref, bi_tuple_tup, bi_list_ref, bi_list_tup, bi_sum_ref, bi_sum_tup, bi_all_ref, bi_any_ref, bi_max, bi_min, truthD_ref, trO_lst, atI_pos, ixN_pos, bi_isi, gM_cf, gM_gl, gM_fld, gM_mth, gM_opo, gM_opi, gM_opu, gM_eqo, gM_isi, gM_ist, gM_xfd, gM_xiz, gM_exm, gM_fuel, gM_hot0, gM_hot1, List.getElem?_cons_zero, List.getElem?_cons_succ, List.set_cons_zero, List.set_cons_succ, decide_eq_true_eq, Bool.true_eq_false, Bool.false_eq_true, if_true, if_false, ite_true, ite_false, reduceIte, Int.reduceLE, Int.reduceLT, Int.reduceNeg, Int.reduceToNat, Int.reduceEq, Int.reduceNe, List.length_cons, List.length_nil, Nat.reduceAdd, Nat.reduceSub, Nat.reduceLT, List.length_map, true_and, and_true, decide_true, decide_false, Bool.not_true, Bool.not_false, wss_cons, wss_nil, List.map_cons, List.map_nil, List.replicate, List.cons_append, List.nil_append]
    exact chk_bad D p q ne z
  · refine cal_wp D.or_ rfl ?_
    simp only [Tx.m_Word_or, we_fold, wss_fold, wt_fold, we_non, we_bl, we_int, we_str, we_bty, we_var, we_glob, we_bin, we_un, wt_def, we_not, we_and, we_or, we_cmp, we_cmp2, we_ife, we_tup, we_lst, we_idx, we_sl, we_attr, we_call, we_make, we_meth, we_bi, we_bm, wes_nil, wes_cons, wo_none, wo_some, wi_e, wi_rng, we_lc, ws_expr, ws_ret, ws_retN, ws_pass, ws_brk, ws_cont, ws_asg, ws_sub, ws_fld, ws_aug, ws_iff, ws_for, ws_whl, ws_raise, ws_try, op_some, opD_some, br_some, binG_int, binI_add, binI_sub, binI_and, binI_or, binI_xor, binI_mod, binI_shr, cmpG_int, cmpB_lt, cmpB_le, cmpB_gt, cmpB_ge, cmpB_eq, cmpB_ne, cmpB_eqB, truthD_bl, truthD_int, truthD_non, truthD_tup, get_tup, get_rol, bi_len_tup, bi_len_rol, bi_int_int, bi_int_bl, bi_abs, asgP_name, op_ite, opL_some, get_ref, set_ref, bi_len_ref, bi_tuple_ref, bi_tuple_tup, bi_list_ref, bi_list_tup, bi_sum_ref, bi_sum_tup, bi_all_ref, bi_any_ref, bi_max, bi_min, truthD_ref, trO_lst, atI_pos, ixN_pos, bi_isi, gM_cf, gM_gl, gM_fld, gM_mth, gM_opo, gM_opi, gM_opu, gM_eqo, gM_isi, gM_ist, gM_xfd, gM_xiz, gM_exm, gM_fuel, gM_hot0, gM_hot1, List.getElem?_cons_zero, List.getElem?_cons_succ, List.set_cons_zero, List.set_cons_succ, decide_eq_true_eq, Bool.true_eq_false, Bool.false_eq_true, if_true, if_false, ite_true, ite_false, reduceIte, Int.reduceLE, Int.reduceLT, Int.reduceNeg, Int.reduceToNat, Int.reduceEq, Int.reduceNe, List.length_cons, List.length_nil, Nat.reduceAdd, Nat.reduceSub, Nat.reduceLT, List.length_map, true_and, and_true, decide_true, decide_false, Bool.not_true, Bool.not_false, wss_cons, wss_nil, List.map_cons, List.map_nil, List.replicate, List.cons_append, List.nil_append]
    exact chk_bad D p q ne z
  · refine cal_wp D.xor_ rfl ?_
    simp only [Tx.m_Word_xor, we_fold, wss_fold, wt_fold, we_non, we_bl, we_int, we_str, we_bty, we_var, we_glob, we_bin, we_un, wt_def, we_not, we_and, we_or, we_cmp, we_cmp2, we_ife, we_tup, we_lst, we_idx, we_sl, we_attr, we_call, we_make, we_meth, we_bi, we_bm, wes_nil, wes_cons, wo_none, wo_some, wi_e, wi_rng, we_lc, ws_expr, ws_ret, ws_retN, ws_pass, ws_brk, ws_cont, ws_asg, ws_sub, ws_fld, ws_aug, ws_iff, ws_for, ws_whl, ws_raise, ws_try, op_some, opD_some, br_some, binG_int, binI_add, binI_sub, binI_and, binI_or, binI_xor, binI_mod, binI_shr, cmpG_int, cmpB_lt, cmpB_le, cmpB_gt, cmpB_ge, cmpB_eq, cmpB_ne, cmpB_eqB, truthD_bl, truthD_int, truthD_non, truthD_tup, get_tup, get_rol, bi_len_tup, bi_len_rol, bi_int_int, bi_int_bl, bi_abs, asgP_name, op_ite, opL_some, get_ref, set_ref, bi_len_ref, bi_tuple_ref, bi_tuple_tup, bi_list_ref, bi_list_tup, bi_sum_ref, bi_sum_tup, bi_all_ref, bi_any_ref, bi_max, bi_min, truthD_ref, trO_lst, atI_pos, ixN_pos, bi_isi, gM_cf, gM_gl, gM_fld, gM_mth, gM_opo, gM_opi, gM_opu, gM_eqo, gM_isi, gM_ist, gM_xfd, gM_xiz, gM_exm, gM_fuel, gM_hot0, gM_hot1, List.getElem?_cons_zero, List.getElem?_cons_succ, List.set_cons_zero, List.set_cons_succ, decide_eq_true_eq, Bool.true_eq_false, Bool.false_eq_true, if_true, if_false, ite_true, ite_false, reduceIte, Int.reduceLE, Int.reduceLT, Int.reduceNeg, Int.reduceToNat, Int.reduceEq, Int.reduceNe, List.length_cons, List.length_nil, Nat.reduceAdd, Nat.reduceSub, Nat.reduceLT, List.length_map, true_and, and_true, decide_true, decide_false, Bool.not_true, Bool.not_false, wss_cons, wss_nil, List.map_cons, List.map_nil, List.replicate, List.cons_append, List.nil_append]
    exact chk_bad D p q ne z
  · refine cal_wp D.add_ rfl ?_
    simp only [Tx.m_Word_add, we_fold, wss_fold, wt_fold, we_non, we_bl, we_int, we_str, we_bty, we_var, we_glob, we_bin, we_un, wt_def, we_not, we_and, we_or, we_cmp, we_cmp2, we_ife, we_tup, we_lst, we_idx, we_sl, we_attr, we_call, we_make, we_meth, we_bi, we_bm, wes_nil, wes_cons, wo_none, wo_some, wi_e, wi_rng, we_lc, ws_expr, ws_ret, ws_retN, ws_pass, ws_brk, ws_cont, ws_asg, ws_sub, ws_fld, ws_aug, ws_iff, ws_for, ws_whl, ws_raise, ws_try, op_some, opD_some, br_some, binG_int, binI_add, binI_sub, binI_and, binI_or, binI_xor, binI_mod, binI_shr, cmpG_int, cmpB_lt, cmpB_le, cmpB_gt, cmpB_ge, cmpB_eq, cmpB_ne, cmpB_eqB, truthD_bl, truthD_int, truthD_non, truthD_tup, get_tup, get_rol, bi_len_tup, bi_len_rol, bi_int_int, bi_int_bl, bi_abs, asgP_name, op_ite, opL_some, get_ref, set_ref, bi_len_ref, bi_tuple_ref, bi_tuple_tup, bi_list_ref, bi_list_tup, bi_sum_ref, bi_sum_tup, bi_all_ref, bi_any_ref, bi_max, bi_min, truthD_ref, trO_lst, atI_pos, ixN_pos, bi_isi, gM_cf, gM_gl, gM_fld, gM_mth, gM_opo, gM_opi, gM_opu, gM_eqo, gM_isi, gM_ist, gM_xfd, gM_xiz, gM_exm, gM_fuel, gM_hot0, gM_hot1, List.getElem?_cons_zero, List.getElem?_cons_succ, List.set_cons_zero, List.set_cons_succ, decide_eq_true_eq, Bool.true_eq_false, Bool.false_eq_true, if_true, if_false, ite_true, ite_false, reduceIte, Int.reduceLE, Int.reduceLT, Int.reduceNeg, Int.reduceToNat, Int.reduceEq, Int.reduceNe, List.length_cons, List.length_nil, Nat.reduceAdd, Nat.reduceSub, Nat.reduceLT, List.length_map, true_and, and_true, decide_true, decide_false, Bool.not_true, Bool.not_false, wss_cons, wss_nil, List.map_cons, List.map_nil, List.replicate, List.cons_append, List.nil_append]
    exact chk_bad D p q ne z
  · refine cal_wp D.sub_ rfl ?_
    simp only [Tx.m_Word_sub, we_fold, wss_fold, wt_fold, we_non, we_bl, we_int, we_str, we_bty, we_var, we_glob, we_bin, we_un, wt_def, we_not, we_and, we_or, we_cmp, we_cmp2, we_ife, we_tup, we_lst, we_idx, we_sl, we_attr, we_call, we_make, we_meth, we_bi, we_bm, wes_nil, wes_cons, wo_none, wo_some, wi_e, wi_rng, we_lc, ws_expr, ws_ret, ws_retN, ws_pass, ws_brk, ws_cont, ws_asg, ws_sub, ws_fld, ws_aug, ws_iff, ws_for, ws_whl, ws_raise, ws_try, op_some, opD_some, br_some, binG_int, binI_add, binI_sub, binI_and, binI_or, binI_xor, binI_mod, binI_shr, cmpG_int, cmpB_lt, cmpB_le, cmpB_gt, cmpB_ge, cmpB_eq, cmpB_ne, cmpB_eqB, truthD_bl, truthD_int, truthD_non, truthD_tup, get_tup, get_rol, bi_len_tup, bi_len_rol, bi_int_int, bi_int_bl, bi_abs, asgP_name, op_ite, opL_some, get_ref, set_ref, bi_len_ref, bi_tuple_ref, bi_tuple_tup, bi_list_ref, bi_list_tup, bi_sum_ref, bi_sum_tup, bi_all_ref, bi_any_ref, bi_max, bi_min, truthD_ref, trO_lst, atI_pos, ixN_pos, bi_isi, gM_cf, gM_gl, gM_fld, gM_mth, gM_opo, gM_opi, gM_opu, gM_eqo, gM_isi, gM_ist, gM_xfd, gM_xiz, gM_exm, gM_fuel, gM_hot0, gM_hot1, List.getElem?_cons_zero, List.getElem?_cons_succ, List.set_cons_zero, List.set_cons_succ, decide_eq_true_eq, Bool.true_eq_false, Bool.false_eq_true, if_true, if_false, ite_true, ite_false, reduceIte, Int.reduceLE, Int.reduceLT, Int.reduceNeg, Int.reduceToNat, Int.reduceEq, Int.reduceNe, List.length_cons, List.length_nil, Nat.reduceAdd, Nat.reduceSub, Nat.reduceLT, List.length_map, true_and, and_true, decide_true, decide_false, Bool.not_true, Bool.not_false, wss_cons, wss_nil, List.map_cons, List.map_nil, List.replicate, List.cons_append, List.nil_append]
    exact chk_bad D p q ne z
theorem ty_word (D : WordT T gb) (p : Wrd h a w x) {m : Option Hx} : tyOf (gM T gb k m) h (.ref a) = some (.cls "Word") := tyOf_ins p.at_ (by rw [gM_ist]; exact D.ist)
theorem eq_word {w' : Int} (D : WordT T gb) (p : Wrd h a w x) (q : Wrd h b w' y) : (cal T gb m (k + 1) ("Word", some "__eq__") [.ref a, .ref b] h).wp (fun r h' => h' = h ∧ r = .bl (decide (w = w' ∧ x = y))) X := by
  refine cal_wp D.eq_ rfl ?_
  simp only [Tx.m_Word_eq, we_fold, wss_fold, wt_fold, we_non, we_bl, we_int, we_str, we_bty, we_var, we_glob, we_bin, we_un, wt_def, we_not, we_and, we_or, we_cmp, we_cmp2, we_ife, we_tup, we_lst, we_idx, we_sl, we_attr, we_call, we_make, we_meth, we_bi, we_bm, wes_nil, wes_cons, wo_none, wo_some, wi_e, wi_rng, we_lc, ws_expr, ws_ret, ws_retN, ws_pass, ws_brk, ws_cont, ws_asg, ws_sub, ws_fld, ws_aug, ws_iff, ws_for, ws_whl, ws_raise, ws_try, op_some, opD_some, br_some, binG_int, binI_add, binI_sub, binI_and, binI_or, binI_xor, binI_mod, binI_shr, cmpG_int, cmpB_lt, cmpB_le, cmpB_gt, cmpB_ge, cmpB_eq, cmpB_ne, cmpB_eqB, truthD_bl, truthD_int, truthD_non, truthD_tup, get_tup, get_rol, bi_len_tup, bi_len_rol, bi_int_int, bi_int_bl, bi_abs, asgP_name, op_ite, opL_some, get_ref, set_ref, bi_len_ref, bi_tuple_ref, bi_tuple_tup, bi_list_ref, bi_list_tup, bi_sum_ref, bi_sum_tup, bi_all_ref, bi_any_ref, bi_max, bi_min, truthD_ref, trO_lst, atI_pos, ixN_pos, bi_isi, gM_cf, gM_gl, gM_fld, gM_mth, gM_opo, gM_opi, gM_opu, gM_eqo, gM_isi, gM_ist, gM_xfd, gM_xiz, gM_exm, gM_fuel, gM_hot0, gM_hot1, List.getElem?_cons_zero, List.getElem?_cons_succ, List.set_cons_zero, List.set_cons_succ, decide_eq_true_eq, Bool.true_eq_false, Bool.false_eq_true, if_true, if_false, ite_true, ite_false, reduceIte, Int.reduceLE, Int.reduceLT, Int.reduceNeg, Int.reduceToNat, Int.reduceEq, Int.reduceNe, List.length_cons, List.length_nil, Nat.reduceAdd, Nat.reduceSub, Nat.reduceLT, List.length_map, true_and, and_true, decide_true, decide_false, Bool.not_true, Bool.not_false, wss_cons, wss_nil, List.map_cons, List.map_nil, List.replicate, List.cons_append, List.nil_append, attr_w D p, attr_v D p, attr_w D q, attr_v D q, ty_word D q, D.gw, isiD_cls, Option.bind_some, D.i_w]
  by_cases e : w = w'
  · simp [e]
  · simp [e]
theorem eq_oth (D : WordT T gb) (p : Wrd h a w x) {d : Ip.D} {t : Ip.D} (ht : ∀ g : G, tyOf g h d = some t) (hi : gb.isi t (.cls "Word") = some false) : (cal T gb m (k + 1) ("Word", some "__eq__") [.ref a, d] h).wp (fun r h' => h' = h ∧ r = .bl false) X := by
  refine cal_wp D.eq_ rfl ?_
  simp only [Tx.m_Word_eq, we_fold, wss_fold, wt_fold, we_non, we_bl, we_int, we_str, we_bty, we_var, we_glob, we_bin, we_un, wt_def, we_not, we_and, we_or, we_cmp, we_cmp2, we_ife, we_tup, we_lst, we_idx, we_sl, we_attr, we_call, we_make, we_meth, we_bi, we_bm, wes_nil, wes_cons, wo_none, wo_some, wi_e, wi_rng, we_lc, ws_expr, ws_ret, ws_retN, ws_pass, ws_brk, ws_cont, ws_asg, ws_sub, ws_fld, ws_aug, ws_iff, ws_for, ws_whl, ws_raise, ws_try, op_some, opD_some, br_some, binG_int, binI_add, binI_sub, binI_and, binI_or, binI_xor, binI_mod, binI_shr, cmpG_int, cmpB_lt, cmpB_le, cmpB_gt, cmpB_ge, cmpB_eq, cmpB_ne, cmpB_eqB, truthD_bl, truthD_int, truthD_non, truthD_tup, get_tup, get_rol, bi_len_tup, bi_len_rol, bi_int_int, bi_int_bl, bi_abs, asgP_name, op_ite, opL_some, get_ref, set_ref, bi_len_ref, bi_tuple_ref, bi_tuple_tup, bi_list_ref, bi_list_tup, bi_sum_ref, bi_sum_tup, bi_all_ref, bi_any_ref, bi_max, bi_min, truthD_ref, trO_lst, atI_pos, ixN_pos, bi_isi, gM_cf, gM_gl, gM_fld, gM_mth, gM_opo, gM_opi, gM_opu, gM_eqo, gM_isi, gM_ist, gM_xfd, gM_xiz, gM_exm, gM_fuel, gM_hot0, gM_hot1, List.getElem?_cons_zero, List.getElem?_cons_succ, List.set_cons_zero, List.set_cons_succ, decide_eq_true_eq, Bool.true_eq_false, Bool.false_eq_true, if_true, if_false, ite_true, ite_false, reduceIte, Int.reduceLE, Int.reduceLT, Int.reduceNeg, Int.reduceToNat, Int.reduceEq, Int.reduceNe, List.length_cons, List.length_nil, Nat.reduceAdd, Nat.reduceSub, Nat.reduceLT, List.length_map, true_and, and_true, decide_true, decide_false, Bool.not_true, Bool.not_false, wss_cons, wss_nil, List.map_cons, List.map_nil, List.replicate, List.cons_append, List.nil_append, D.gw, isiD_cls, ht, Option.bind_some, hi]
theorem ones_ok (D : WordT T gb) (O : WordO T gb) (p : Wrd h a w x) : (cal T gb none (k + 1) ("Word", some "ones") [.ref a] h).wp (fun r h' => h' = h ∧ r = .int ((List.range w.toNat).map fun (i : Nat) => x / 2 ^ i % 2).sum) X := by
  refine cal_wp O.ones rfl ?_
  simp only [Tx.m_Word_ones, we_fold, wss_fold, wt_fold, we_non, we_bl, we_int, we_str, we_bty, we_var, we_glob, we_bin, we_un, wt_def, we_not, we_and, we_or, we_cmp, we_cmp2, we_ife, we_tup, we_lst, we_idx, we_sl, we_attr, we_call, we_make, we_meth, we_bi, we_bm, wes_nil, wes_cons, wo_none, wo_some, wi_e, wi_rng, we_lc, ws_expr, ws_ret, ws_retN, ws_pass, ws_brk, ws_cont, ws_asg, ws_sub, ws_fld, ws_aug, ws_iff, ws_for, ws_whl, ws_raise, ws_try, op_some, opD_some, br_some, binG_int, binI_add, binI_sub, binI_and, binI_or, binI_xor, binI_mod, binI_shr, cmpG_int, cmpB_lt, cmpB_le, cmpB_gt, cmpB_ge, cmpB_eq, cmpB_ne, cmpB_eqB, truthD_bl, truthD_int, truthD_non, truthD_tup, get_tup, get_rol, bi_len_tup, bi_len_rol, bi_int_int, bi_int_bl, bi_abs, asgP_name, op_ite, opL_some, get_ref, set_ref, bi_len_ref, bi_tuple_ref, bi_tuple_tup, bi_list_ref, bi_list_tup, bi_sum_ref, bi_sum_tup, bi_all_ref, bi_any_ref, bi_max, bi_min, truthD_ref, trO_lst, atI_pos, ixN_pos, bi_isi, gM_cf, gM_gl, gM_fld, gM_mth, gM_opo, gM_opi, gM_opu, gM_eqo, gM_isi, gM_ist, gM_xfd, gM_xiz, gM_exm, gM_fuel, gM_hot0, gM_hot1, List.getElem?_cons_zero, List.getElem?_cons_succ, List.set_cons_zero, List.set_cons_succ, decide_eq_true_eq, Bool.true_eq_false, Bool.false_eq_true, if_true, if_false, ite_true, ite_false, reduceIte, Int.reduceLE, Int.reduceLT, Int.reduceNeg, Int.reduceToNat, Int.reduceEq, Int.reduceNe, List.length_cons, List.length_nil, Nat.reduceAdd, Nat.reduceSub, Nat.reduceLT, List.length_map, true_and, and_true, decide_true, decide_false, Bool.not_true, Bool.not_false, wss_cons, wss_nil, List.map_cons, List.map_nil, List.replicate, List.cons_append, List.nil_append, attr_b D p, intsD_map]
theorem attr_ones (D : WordT T gb) (O : WordO T gb) (p : Wrd h a w x) {Q : Ip.D → Hs → Prop} (q : Q (.int ((List.range w.toNat).map fun (i : Nat) => x / 2 ^ i % 2).sum) h) : (getattr (gM T gb (k + 2) none) (.ref a) "ones" h).wp Q X := by
  refine getattr_prp p.at_ (by rw [gM_fld]; exact O.fo) (by rw [gM_prp]; exact O.po) rfl ?_
  rw [gM_cm]
  refine (ones_ok D O p).imp fun r h' ⟨e1, e2⟩ => ?_
  subst e1 e2
  exact q
end
end Ip
end
section
set_option Elab.async false
set_option linter.all false
set_option maxRecDepth 100000
set_option maxHeartbeats 1000000
/-! what the laws of words share -/
namespace Ip
open PySem L2
structure Errs (gb : G) : Prop where
  x_BadIndex_BadIndex : gb.isi (.cls "BadIndex") (.cls "BadIndex") = some true
  x_BadIndex_BadRow : gb.isi (.cls "BadIndex") (.cls "BadRow") = some false
  x_BadIndex_BadTable : gb.isi (.cls "BadIndex") (.cls "BadTable") = some false
  x_BadIndex_BadText : gb.isi (.cls "BadIndex") (.cls "BadText") = some false
  x_BadIndex_BadWidth : gb.isi (.cls "BadIndex") (.cls "BadWidth") = some false
  x_BadIndex_BadWord : gb.isi (.cls "BadIndex") (.cls "BadWord") = some false
  x_BadIndex_Mismatch : gb.isi (.cls "BadIndex") (.cls "Mismatch") = some false
  x_BadIndex_TooLarge : gb.isi (.cls "BadIndex") (.cls "TooLarge") = some false
  x_BadIndex_WireError : gb.isi (.cls "BadIndex") (.cls "WireError") = some true
  x_BadRow_BadIndex : gb.isi (.cls "BadRow") (.cls "BadIndex") = some false
  x_BadRow_BadRow : gb.isi (.cls "BadRow") (.cls "BadRow") = some true
  x_BadRow_BadTable : gb.isi (.cls "BadRow") (.cls "BadTable") = some false
  x_BadRow_BadText : gb.isi (.cls "BadRow") (.cls "BadText") = some false
  x_BadRow_BadWidth : gb.isi (.cls "BadRow") (.cls "BadWidth") = some false
  x_BadRow_BadWord : gb.isi (.cls "BadRow") (.cls "BadWord") = some false
  x_BadRow_Mismatch : gb.isi (.cls "BadRow") (.cls "Mismatch") = some false
  x_BadRow_TooLarge : gb.isi (.cls "BadRow") (.cls "TooLarge") = some false
  x_BadRow_WireError : gb.isi (.cls "BadRow") (.cls "WireError") = some true
  x_BadTable_BadIndex : gb.isi (.cls "BadTable") (.cls "BadIndex") = some false
  x_BadTable_BadRow : gb.isi (.cls "BadTable") (.cls "BadRow") = some false
  x_BadTable_BadTable : gb.isi (.cls "BadTable") (.cls "BadTable") = some true
  x_BadTable_BadText : gb.isi (.cls "BadTable") (.cls "BadText") = some false
  x_BadTable_BadWidth : gb.isi (.cls "BadTable") (.cls "BadWidth") = some false
  x_BadTable_BadWord : gb.isi (.cls "BadTable") (.cls "BadWord") = some false
  x_BadTable_Mismatch : gb.isi (.cls "BadTable") (.cls "Mismatch") = some false
  x_BadTable_TooLarge : gb.isi (.cls "BadTable") (.cls "TooLarge") = some false
  x_BadTable_WireError : gb.isi (.cls "BadTable") (.cls "WireError") = some true
  x_BadText_BadIndex : gb.isi (.cls "BadText") (.cls "BadIndex") = some false
  x_BadText_BadRow : gb.isi (.cls "BadText") (.cls "BadRow") = some false
  x_BadText_BadTable : gb.isi (.cls "BadText") (.cls "BadTable") = some false
  x_BadText_BadText : gb.isi (.cls "BadText") (.cls "BadText") = some true
  x_BadText_BadWidth : gb.isi (.cls "BadText") (.cls "BadWidth") = some false
  x_BadText_BadWord : gb.isi (.cls "BadText") (.cls "BadWord") = some false
  x_BadText_Mismatch : gb.isi (.cls "BadText") (.cls "Mismatch") = some false
  x_BadText_TooLarge : gb.isi (.cls "BadText") (.cls "TooLarge") = some false
  x_BadText_WireError : gb.isi (.cls "BadText") (.cls "WireError") = some true
  x_BadWidth_BadIndex : gb.isi (.cls "BadWidth") (.cls "BadIndex") = some false
  x_BadWidth_BadRow : gb.isi (.cls "BadWidth") (.cls "BadRow") = some false
  x_BadWidth_BadTable : gb.isi (.cls "BadWidth") (.cls "BadTable") = some false
  x_BadWidth_BadText : gb.isi (.cls "BadWidth") (.cls "BadText") = some false
  x_BadWidth_BadWidth : gb.isi (.cls "BadWidth") (.cls "BadWidth") = some true
  x_BadWidth_BadWord : gb.isi (.cls "BadWidth") (.cls "BadWord") = some false
  x_BadWidth_Mismatch : gb.isi (.cls "BadWidth") (.cls "Mismatch") = some false
  x_BadWidth_TooLarge : gb.isi (.cls "BadWidth") (.cls "TooLarge") = some false
  x_BadWidth_WireError : gb.isi (.cls "BadWidth") (.cls "WireError") = some true
  x_BadWord_BadIndex : gb.isi (.cls "BadWord") (.cls "BadIndex") = some false
  x_BadWord_BadRow : gb.isi (.cls "BadWord") (.cls "BadRow") = some false
  x_BadWord_BadTable : gb.isi (.cls "BadWord") (.cls "BadTable") = some false
  x_BadWord_BadText : gb.isi (.cls "BadWord") (.cls "BadText") = some false
  x_BadWord_BadWidth : gb.isi (.cls "BadWord") (.cls "BadWidth") = some false
  x_BadWord_BadWord : gb.isi (.cls "BadWord") (.cls "BadWord") = some true
  x_BadWord_Mismatch : gb.isi (.cls "BadWord") (.cls "Mismatch") = some false
  x_BadWord_TooLarge : gb.isi (.cls "BadWord") (.cls "TooLarge") = some false
  x_BadWord_WireError : gb.isi (.cls "BadWord") (.cls "WireError") = some true
  x_Mismatch_BadIndex : gb.isi (.cls "Mismatch") (.cls "BadIndex") = some false
  x_Mismatch_BadRow : gb.isi (.cls "Mismatch") (.cls "BadRow") = some false
  x_Mismatch_BadTable : gb.isi (.cls "Mismatch") (.cls "BadTable") = some false
  x_Mismatch_BadText : gb.isi (.cls "Mismatch") (.cls "BadText") = some false
  x_Mismatch_BadWidth : gb.isi (.cls "Mismatch") (.cls "BadWidth") = some false
  x_Mismatch_BadWord : gb.isi (.cls "Mismatch") (.cls "BadWord") = some false
  x_Mismatch_Mismatch : gb.isi (.cls "Mismatch") (.cls "Mismatch") = some true
  x_Mismatch_TooLarge : gb.isi (.cls "Mismatch") (.cls "TooLarge") = some false
  x_Mismatch_WireError : gb.isi (.cls "Mismatch") (.cls "WireError") = some true
  x_TooLarge_BadIndex : gb.isi (.cls "TooLarge") (.cls "BadIndex") = some false
  x_TooLarge_BadRow : gb.isi (.cls "TooLarge") (.cls "BadRow") = some false
  x_TooLarge_BadTable : gb.isi (.cls "TooLarge") (.cls "BadTable") = some false
  x_TooLarge_BadText : gb.isi (.cls "TooLarge") (.cls "BadText") = some false
  x_TooLarge_BadWidth : gb.isi (.cls "TooLarge") (.cls "BadWidth") = some false
  x_TooLarge_BadWord : gb.isi (.cls "TooLarge") (.cls "BadWord") = some false
  x_TooLarge_Mismatch : gb.isi (.cls "TooLarge") (.cls "Mismatch") = some false
  x_TooLarge_TooLarge : gb.isi (.cls "TooLarge") (.cls "TooLarge") = some true
  x_TooLarge_WireError : gb.isi (.cls "TooLarge") (.cls "WireError") = some true
  g_BadIndex : gb.gl "BadIndex" = some (.cls "BadIndex")
  g_BadRow : gb.gl "BadRow" = some (.cls "BadRow")
  g_BadTable : gb.gl "BadTable" = some (.cls "BadTable")
  g_BadText : gb.gl "BadText" = some (.cls "BadText")
  g_BadWidth : gb.gl "BadWidth" = some (.cls "BadWidth")
  g_BadWord : gb.gl "BadWord" = some (.cls "BadWord")
  g_Mismatch : gb.gl "Mismatch" = some (.cls "Mismatch")
  g_TooLarge : gb.gl "TooLarge" = some (.cls "TooLarge")
  g_WireError : gb.gl "WireError" = some (.cls "WireError")
  z_BadIndex : gb.xiz "BadIndex" = true
  z_BadRow : gb.xiz "BadRow" = true
  z_BadTable : gb.xiz "BadTable" = true
  z_BadText : gb.xiz "BadText" = true
  z_BadWidth : gb.xiz "BadWidth" = true
  z_BadWord : gb.xiz "BadWord" = true
  z_Mismatch : gb.xiz "Mismatch" = true
  z_TooLarge : gb.xiz "TooLarge" = true
  f_left : gb.xfd "BadWidth" "left" = true
  f_right : gb.xfd "BadWidth" "right" = true
  f_size : gb.xfd "BadWord" "size" = true
  f_number : gb.xfd "BadWord" "number" = true
  f_index : gb.xfd "BadIndex" "index" = true
/-- a statement, then the rest -/
theorem wss_cut {g : G} {s : S} {ss : List S} {δ : Sl} {h : Hs} {P : Pk} (I : Sl → Hs → Prop) (w : Ws g s δ h { P with nx := I }) (z : ∀ δ1 h1, I δ1 h1 → Wss g ss δ1 h1 P) : Wss g (s :: ss) δ h P := by
  rw [wss_cons]
  exact RS.wp.mono w z (fun _ _ q => q) (fun _ _ q => q) (fun _ _ q => q) fun _ _ _ _ q => q
section
variable {T : FKey → Option Fn} {gb : G} {m : Option Hx} {k : Nat} {h : Hs} {X : Xp} {a b c : Nat} {w v x y kind : Int}
theorem bin_own (W : WordT T gb) (p : Wrd h a w x) {w' : Int} (q : Wrd h b w' y) {o : Operator} {n : Str} (hn : PySem.dunder o.info.2 = n) (ho : gb.opo "Word" o = true) {Q : Ip.D → Hs → Prop} : (binG (gM T gb k m) o (.ref a) (.ref b) h).wp Q X = (cal T gb m k ("Word", some n) [.ref a, .ref b] h).wp Q X := by
  rw [binG_own p.at_ (by rw [gM_opo]; exact ho) (ty_word W q), gM_cf, hn]
theorem bools_true (n : Nat) : boolsD ((List.range n).map fun _ => Ip.D.bl true) = some (List.replicate n true) := by
  have : ∀ l : List Nat, boolsD (l.map fun _ => Ip.D.bl true) = some (List.replicate l.length true) := by
    intro l
    induction l with
    | nil => rfl
    | cons a l ih => simp [boolsD, ih, List.replicate]
  rw [this]; simp
theorem all_true (n : Nat) : (List.replicate n true).all id = true := by simp
theorem sm_true (i : Int) : decide (i = i) = true := by simp
theorem evalC_1 {g : G} {δ : Sl} {e : E} {Q : Bool → Hs → Prop} : (evalC g [e] δ h).wp Q X = Wt g e δ h Q X := by
  unfold Wt
  rw [evalC, wp_bnd]
  congr
  funext b h1
  cases b with
  | true => rw [evalC]; rfl
  | false => rfl
/-- [f(k) for k in range(j) if p(k)], nothing changes -/
theorem comp_filter {j n : Nat} {pr : Nat → Bool} {f : Nat → Ip.D} {asg : Ip.D → Sl → Option Sl} {tst : Sl → M Bool} {elt : Sl → M Ip.D} {δ0 : Sl} {Q : List Ip.D → Hs → Prop} (hn : j < n) (hz : j ≤ 16777216)
    (step : ∀ i, i < j → Op (asg (.int i) δ0) fun δ1 => (tst δ1 h).wp (fun b h' => h' = h ∧ b = pr i) (fun _ _ _ => False) ∧ (elt δ1 h).wp (fun y h' => h' = h ∧ y = f i) fun _ _ _ => False) (hQ : Q (((List.range j).filter pr).map f) h) :
    (compN (.vals ((List.range j).map fun (k : Nat) => D.int (k : Int))) asg tst elt δ0 n 0 [] h).wp Q X := by
  have hs : sizeLine = 16777216 := by decide
  refine comp_vals (fun i acc h' => i ≤ j ∧ h' = h ∧ acc = ((List.range i).filter pr).map f) (by simpa using hn) ⟨by omega, rfl, by simp⟩ (fun i d acc h' e ⟨_, e1, e2⟩ => ?_) fun acc h' ⟨_, e1, e2⟩ => ?_
  · have hi : i < j := by simpa using getLt e
    have ed : d = .int i := by
      rw [List.getElem?_map, List.getElem?_range hi] at e
      cases e; rfl
    subst ed e1 e2
    have := step i hi
    cases q : asg (.int i) δ0 with
    | none => rw [q] at this; exact this
    | some δ1 =>
      rw [q] at this
      simp only [op_some] at this ⊢
      refine this.1.mono (fun b h2 ⟨e1, e2⟩ => ?_) fun _ _ _ z => z
      subst e1 e2
      cases q2 : pr i with
      | true =>
        simp only [if_true]
        refine this.2.mono (fun y h3 ⟨e1, e3⟩ => ⟨?_, hi, e1, ?_⟩) fun _ _ _ z => z
        · have := List.length_filter_le pr (List.range i)
          simp at this ⊢
          omega
        · rw [List.range_succ, List.filter_append, List.map_append, e3]
          simp [q2]
      | false =>
        simp only [Bool.false_eq_true, if_false]
        refine ⟨hi, trivial, ?_⟩
        rw [List.range_succ, List.filter_append, List.map_append]
        simp [q2]
  · subst e1 e2
    simp only [List.length_map, List.length_range]
    exact hQ
theorem count_bits (n : Nat) (z : Int) : (((List.range n).filter fun i => decide (z / 2 ^ i % 2 = 1)).length : Int) = ((List.range n).map fun (i : Nat) => z / 2 ^ i % 2).sum := by
  induction n with
  | zero => rfl
  | succ n ih =>
    rw [List.range_succ, List.filter_append, List.map_append, List.length_append, List.sum_append, Int.natCast_add, ih]
    congr 1
    by_cases e : z / 2 ^ n % 2 = 1
    · simp [e]
    · have : z / 2 ^ n % 2 = 0 := by omega
      simp [this]
theorem un_own (W : WordT T gb) (p : Wrd h a w x) {Q : Ip.D → Hs → Prop} : (unG (gM T gb k m) .Invert (.ref a) h).wp Q X = (cal T gb m k ("Word", some "__invert__") [.ref a] h).wp Q X := by
  rw [unG_own p.at_ (by rw [gM_opu]; exact W.o_inv), gM_cf]
theorem eq_at {w' : Int} (W : WordT T gb) (p : Wrd h a w x) (q : Wrd h b w' y) {Q : Ip.D → Hs → Prop} (z : Q (.bl (decide (w = w' ∧ x = y))) h) : (cmpG (gM T gb (k + 1) m) .Eq (.ref a) (.ref b) h).wp Q X := by
  refine cmpG_eqO p.at_ (ty_word W q) (by rw [gM_eqo]; exact W.e_w) ?_
  rw [gM_cf]
  refine (eq_word W p q).imp fun r h' ⟨e1, e2⟩ => ?_
  subst e1 e2
  exact ⟨_, rfl, z⟩
theorem ne_at {w' : Int} (W : WordT T gb) (p : Wrd h a w x) (q : Wrd h b w' y) {Q : Ip.D → Hs → Prop} (z : Q (.bl (!decide (w = w' ∧ x = y))) h) : (cmpG (gM T gb (k + 2) none) .NotEq (.ref a) (.ref b) h).wp Q X := by
  refine cmpG_neO p.at_ (ty_word W q) (by rw [gM_eqo]; exact W.e_w) rfl ?_
  rw [gM_cm]
  refine (eq_word W p q).imp fun r h' ⟨e1, e2⟩ => ?_
  subst e1 e2
  exact ⟨_, rfl, z⟩
theorem eq_at0 (W : WordT T gb) (p : Wrd h a w x) {d t : Ip.D} (ht : ∀ g : G, tyOf g h d = some t) (hi : gb.isi t (.cls "Word") = some false) (he : gb.eqo "Word" t = true) {Q : Ip.D → Hs → Prop} (z : Q (.bl false) h) : (cmpG (gM T gb (k + 1) m) .Eq (.ref a) d h).wp Q X := by
  refine cmpG_eqO p.at_ (ht _) (by rw [gM_eqo]; exact he) ?_
  rw [gM_cf]
  refine (eq_oth W p ht hi).imp fun r h' ⟨e1, e2⟩ => ?_
  subst e1 e2
  exact ⟨_, rfl, z⟩
theorem ne_at0 (W : WordT T gb) (p : Wrd h a w x) {d t : Ip.D} (ht : ∀ g : G, tyOf g h d = some t) (hi : gb.isi t (.cls "Word") = some false) (he : gb.eqo "Word" t = true) {Q : Ip.D → Hs → Prop} (z : Q (.bl true) h) : (cmpG (gM T gb (k + 2) none) .NotEq (.ref a) d h).wp Q X := by
  refine cmpG_neO p.at_ (ht _) (by rw [gM_eqo]; exact he) rfl ?_
  rw [gM_cm]
  refine (eq_oth W p ht hi).imp fun r h' ⟨e1, e2⟩ => ?_
  subst e1 e2
  exact ⟨_, rfl, z⟩
theorem sb_true (i : Bool) : decide (i = i) = true := by simp
end
end Ip
end
section
set_option Elab.async false
set_option linter.all false
set_option maxRecDepth 100000
set_option maxHeartbeats 1000000
/-! shifts of words -/
namespace Ip
open PySem L2
/-! ### bits -/
theorem pow_split {i j : Nat} (h : i ≤ j) : (2 : Int) ^ j = 2 ^ i * 2 ^ (j - i) := by
  rw [← Int.pow_add]; congr 1; omega
theorem mod_bit {z : Int} {n i : Nat} (h : i < n) : z % 2 ^ n / 2 ^ i % 2 = z / 2 ^ i % 2 := by
  have e : (2 : Int) ^ n = 2 ^ i * (2 * 2 ^ (n - i - 1)) := by
    rw [pow_split (Nat.le_of_lt h), show n - i = n - i - 1 + 1 by omega, Int.pow_succ, Int.mul_comm (2 ^ (n - i - 1)) 2]
    simp
  have h1 := Int.mul_ediv_add_emod z (2 ^ n)
  have h2 : z = z % 2 ^ n + 2 ^ i * (2 * 2 ^ (n - i - 1) * (z / 2 ^ n)) := by
    rw [← Int.mul_assoc, ← e]; omega
  have h3 : z / 2 ^ i = z % 2 ^ n / 2 ^ i + 2 * 2 ^ (n - i - 1) * (z / 2 ^ n) := by
    conv => lhs; rw [h2]
    rw [Int.add_mul_ediv_left _ _ (Int.ne_of_gt pow_pos2)]
  rw [h3, Int.mul_assoc]
  omega
theorem mul_bit {x : Int} {n i : Nat} : x * 2 ^ n / 2 ^ i % 2 = if n ≤ i then x / 2 ^ (i - n) % 2 else 0 := by
  split <;> rename_i h
  · rw [pow_split h, Int.mul_comm x, Int.mul_ediv_mul_of_pos _ _ pow_pos2]
  · rw [show n = i + (n - i - 1 + 1) by omega, Int.pow_add, Int.mul_comm x, Int.mul_assoc, Int.mul_ediv_cancel_left _ (Int.ne_of_gt pow_pos2), Int.pow_succ]
    rw [show (2 : Int) ^ (n - i - 1) * 2 * x = 2 * (2 ^ (n - i - 1) * x) by rw [Int.mul_comm (2 ^ (n - i - 1)) 2, Int.mul_assoc]]
    omega
theorem div_bit {x : Int} {n i : Nat} : x / 2 ^ n / 2 ^ i % 2 = x / 2 ^ (n + i) % 2 := by
  rw [Int.ediv_ediv_of_nonneg (Int.le_of_lt pow_pos2), ← Int.pow_add]
theorem big_bit {x : Int} {n i : Nat} (h0 : 0 ≤ x) (h : x < 2 ^ n) (hi : n ≤ i) : x / 2 ^ i = 0 :=
  Int.ediv_eq_zero_of_lt h0 (Int.lt_of_lt_of_le h (pow_le2 hi))
/-- a number is the sum of its bits -/
theorem sum_bits {x : Int} : ∀ {n : Nat}, 0 ≤ x → x < 2 ^ n → ((List.range n).map fun (i : Nat) => x / 2 ^ i % 2 * 2 ^ i).sum = x := by
  intro n
  have key : ∀ n : Nat, ((List.range n).map fun (i : Nat) => x / 2 ^ i % 2 * 2 ^ i).sum = x % 2 ^ n := by
    intro n
    induction n with
    | zero => simp [Int.emod_one]
    | succ n ih =>
      rw [List.range_succ, List.map_append, List.sum_append, ih]
      simp only [List.map_cons, List.map_nil, List.sum_cons, List.sum_nil, Int.add_zero]
      have h1 := Int.mul_ediv_add_emod x (2 ^ n)
      have h2 := Int.mul_ediv_add_emod x (2 ^ (n + 1))
      have h3 := Int.mul_ediv_add_emod (x / 2 ^ n) 2
      have h4 : x / 2 ^ n / 2 = x / 2 ^ (n + 1) := by
        rw [Int.ediv_ediv_of_nonneg (Int.le_of_lt pow_pos2), Int.pow_succ]
      rw [h4] at h3
      have h5 : x = 2 ^ n * (2 * (x / 2 ^ (n + 1)) + x / 2 ^ n % 2) + x % 2 ^ n := by rw [h3]; exact h1.symm
      rw [Int.mul_add, ← Int.mul_assoc, Int.mul_comm (2 ^ n) 2] at h5
      rw [Int.pow_succ, Int.mul_comm (2 ^ n) 2] at h2 ⊢
      rw [Int.pow_succ, Int.mul_comm (2 ^ n) 2] at h5
      rw [Int.mul_comm (x / 2 ^ n % 2)]
      omega
  intro h0 h1
  rw [key, Int.emod_eq_of_lt h0 h1]
theorem sum_filter {α : Type} (p : α → Bool) (f : α → Int) : ∀ l : List α, ((l.filter p).map f).sum = (l.map fun i => if p i = true then f i else 0).sum
  | [] => rfl
  | a :: l => by
    rw [List.filter_cons]
    split <;> rename_i h
    · simp [h, sum_filter p f l]
    · simp [h, sum_filter p f l]
/-- the bits tell the number -/
theorem eq_bits {z : Int} {n : Nat} (h0 : 0 ≤ z) (h1 : z < 2 ^ n) (p : Nat → Bool) (f : Nat → Int) (h : ∀ i, i < n → z / 2 ^ i % 2 = if p i = true then f i else 0) : (((List.range n).filter p).map fun i => f i * 2 ^ i).sum = z := by
  rw [sum_filter, ← sum_bits h0 h1]
  congr 1
  apply List.map_congr_left
  intro i hi
  have := h i (by simpa using hi)
  show (if p i = true then f i * 2 ^ i else 0) = z / 2 ^ i % 2 * 2 ^ i
  rw [this]
  split <;> simp
def shv (up : Bool) (w x n : Int) : Int := if up = true then x * 2 ^ n.toNat % 2 ^ w.toNat else x / 2 ^ n.toNat
theorem shv_rng {up : Bool} {w x n : Int} (h0 : 0 ≤ x) (h1 : x < 2 ^ w.toNat) : 0 ≤ shv up w x n ∧ shv up w x n < 2 ^ w.toNat := by
  unfold shv
  split
  · exact mod_rng
  · exact ⟨Int.ediv_nonneg h0 (Int.le_of_lt pow_pos2), Int.lt_of_le_of_lt (Int.ediv_le_self _ h0) h1⟩
def bitAt (x w j : Int) : Int := if 0 ≤ j ∧ j < w then x / 2 ^ j.toNat % 2 else 0
theorem shv_bit {up : Bool} {w x n : Int} {i : Nat} (w0 : 0 ≤ w) (n0 : 0 ≤ n) (h0 : 0 ≤ x) (h1 : x < 2 ^ w.toNat) (hi : i < w.toNat) : shv up w x n / 2 ^ i % 2 = bitAt x w (i + if up = true then 0 - n else n) := by
  unfold shv bitAt
  cases up with
  | true =>
    simp only [if_true]
    rw [mod_bit hi, mul_bit]
    by_cases a : n.toNat ≤ i
    · rw [if_pos a, if_pos (by omega)]
      congr 3
      omega
    · rw [if_neg a, if_neg (by omega)]
  | false =>
    simp only [Bool.false_eq_true, if_false]
    rw [div_bit]
    by_cases a : (i : Int) + n < w
    · rw [if_pos (by omega)]
      congr 3
      omega
    · rw [if_neg (by omega), big_bit h0 h1 (by omega)]
      rfl
theorem shv_two {up : Bool} {w x n m : Int} (n0 : 0 ≤ n) (m0 : 0 ≤ m) : shv up w (shv up w x n) m = shv up w x (n + m) := by
  unfold shv
  have e : (n + m).toNat = n.toNat + m.toNat := by omega
  cases up with
  | true =>
    simp only [if_true]
    rw [e, Int.pow_add, ← Int.mul_assoc, Int.mul_emod, Int.emod_emod, ← Int.mul_emod]
  | false =>
    simp only [Bool.false_eq_true, if_false]
    rw [e, Int.pow_add, Int.ediv_ediv_of_nonneg (Int.le_of_lt pow_pos2)]
theorem shv_back {up : Bool} {w x n : Int} {i : Nat} (w0 : 0 ≤ w) (n0 : 0 ≤ n) (h0 : 0 ≤ x) (h1 : x < 2 ^ w.toNat) (hi : i < w.toNat) : shv (!up) w (shv up w x n) n / 2 ^ i % 2 = if ((up && decide ((i : Int) < w - n)) || (!up && decide (n ≤ (i : Int)))) = true then x / 2 ^ i % 2 else 0 := by
  have r := shv_rng (up := up) (n := n) h0 h1
  rw [shv_bit w0 n0 r.1 r.2 hi]
  unfold bitAt
  cases up with
  | true =>
    simp only [Bool.not_true, Bool.false_eq_true, if_false, Bool.true_and, Bool.false_and, Bool.or_false, decide_eq_true_eq]
    by_cases a : (i : Int) < w - n
    · rw [if_pos (by omega), if_pos a, shv_bit (i := ((i : Int) + n).toNat) w0 n0 h0 h1 (by omega)]
      unfold bitAt
      rw [if_pos rfl, if_pos (by omega)]
      congr 3
      omega
    · rw [if_neg (by omega), if_neg a]
  | false =>
    simp only [Bool.not_false, if_true, Bool.true_and, Bool.false_and, Bool.false_or, decide_eq_true_eq]
    by_cases a : n ≤ (i : Int)
    · rw [if_pos (by omega), if_pos a, shv_bit (i := ((i : Int) + (0 - n)).toNat) w0 n0 h0 h1 (by omega)]
      unfold bitAt
      simp only [Bool.false_eq_true, if_false]
      rw [if_pos (by omega)]
      congr 3
      omega
    · rw [if_neg (by omega), if_neg a]
/-! ### the operators -/
theorem binG_ownI {g : G} {a : Nat} {c : Str} {fs : List (Str × D)} {o : Operator} {n : Int} {h : Hs} {Q : D → Hs → Prop} {X : Xp} (e : h[a]? = some (.ins c fs)) (ho : g.opi c o = true) : (binG g o (.ref a) (.int n) h).wp Q X = (g.cf (c, some (PySem.dunder o.info.2)) [.ref a, .int n] h).wp Q X := by
  unfold binG insOf
  dsimp only
  rw [e]
  dsimp only
  rw [if_pos]
  rw [ho]
  simp [isInt]
structure WordS (T : FKey → Option Fn) (gb : G) : Prop where
  w : WordT T gb
  lsh : T ("Word", some "__lshift__") = some Tx.m_Word_lshift
  rsh : T ("Word", some "__rshift__") = some Tx.m_Word_rshift
  o_lsh : gb.opi "Word" .LShift = true
  o_rsh : gb.opi "Word" .RShift = true
  xi : gb.xc "BadIndex" = some (([("index" : Str)] : List Str), (E.fstr [(.str "index or count out of range: "), (.fmt (.var 1))]))
section
variable {T : FKey → Option Fn} {gb : G} {m : Option Hx} {k : Nat} {h : Hs} {X : Xp} {a b c : Nat} {w v x y n : Int}
theorem raise_index (S : WordS T gb) (bn : n.natAbs < 2 ^ 1000) (δ : Sl) (P : Pk) (p : P.ex "BadIndex" (some [("index", .int n)]) δ h) : (mkX (gM T gb (k + 2) none) "BadIndex" [.int n] δ h).wp P := by
  refine mkX_fstr ((congrFun gM_xc _).trans S.xi) rfl (by simp) (fun e he => ?_) p
  simp only [List.mem_cons, List.not_mem_nil, or_false] at he
  rcases he with rfl | rfl
  · exact .inl ⟨_, rfl, by decide⟩
  · exact .inr ⟨_, _, rfl, rfl, bn⟩
theorem nat_lt {x : Int} {j : Nat} (h0 : 0 ≤ x) (h : x < 2 ^ j) : x.natAbs < 2 ^ j := by
  have := toNat_lt h0 h
  omega
theorem lsh_ok (S : WordS T gb) (p : Wrd h a w x) (n0 : 0 ≤ n) (n1 : n ≤ 100000) : (cal T gb none (k + 4) ("Word", some "__lshift__") [.ref a, .int n] h).wp (GiveW h w (shv true w x n)) X := by
  have W := S.w
  refine cal_wp S.lsh rfl ?_
  have hx := nat_lt (j := 256) p.v0 (Int.lt_of_lt_of_le p.v1 (pow_le2 (by have := p.w1; omega)))
  simp only [Tx.m_Word_lshift, we_fold, wss_fold, wt_fold, we_non, we_bl, we_int, we_str, we_bty, we_var, we_glob, we_bin, we_un, wt_def, we_not, we_and, we_or, we_cmp, we_cmp2, we_ife, we_tup, we_lst, we_idx, we_sl, we_attr, we_call, we_make, we_meth, we_bi, we_bm, wes_nil, wes_cons, wo_none, wo_some, wi_e, wi_rng, we_lc, ws_expr, ws_ret, ws_retN, ws_pass, ws_brk, ws_cont, ws_asg, ws_sub, ws_fld, ws_aug, ws_iff, ws_for, ws_whl, ws_raise, ws_try, op_some, opD_some, br_some, binG_int, binI_add, binI_sub, binI_and, binI_or, binI_xor, binI_mod, binI_shr, cmpG_int, cmpB_lt, cmpB_le, cmpB_gt, cmpB_ge, cmpB_eq, cmpB_ne, cmpB_eqB, truthD_bl, truthD_int, truthD_non, truthD_tup, get_tup, get_rol, bi_len_tup, bi_len_rol, bi_int_int, bi_int_bl, bi_abs, asgP_name, op_ite, opL_some, get_ref, set_ref, bi_len_ref, bi_tuple_ref, bi_tuple_tup, bi_list_ref, bi_list_tup, bi_sum_ref, bi_sum_tup, bi_all_ref, bi_any_ref, bi_max, bi_min, truthD_ref, trO_lst, atI_pos, ixN_pos, bi_isi, gM_cf, gM_gl, gM_fld, gM_mth, gM_opo, gM_opi, gM_opu, gM_eqo, gM_isi, gM_ist, gM_xfd, gM_xiz, gM_exm, gM_fuel, gM_hot0, gM_hot1, List.getElem?_cons_zero, List.getElem?_cons_succ, List.set_cons_zero, List.set_cons_succ, decide_eq_true_eq, Bool.true_eq_false, Bool.false_eq_true, if_true, if_false, ite_true, ite_false, reduceIte, Int.reduceLE, Int.reduceLT, Int.reduceNeg, Int.reduceToNat, Int.reduceEq, Int.reduceNe, List.length_cons, List.length_nil, Nat.reduceAdd, Nat.reduceSub, Nat.reduceLT, List.length_map, true_and, and_true, decide_true, decide_false, Bool.not_true, Bool.not_false, wss_cons, wss_nil, List.map_cons, List.map_nil, List.replicate, List.cons_append, List.nil_append, show ¬ n < 0 by omega, attr_w W p, attr_v W p, binI_shl n0 hx (show ((256 : Nat) : Int) + n ≤ 134217728 by omega)]
  refine (full_ok W p.w0 p.w1).imp fun r h1 ⟨e1, e2⟩ => ?_
  subst e1 e2
  simp only [we_fold, wss_fold, wt_fold, we_non, we_bl, we_int, we_str, we_bty, we_var, we_glob, we_bin, we_un, wt_def, we_not, we_and, we_or, we_cmp, we_cmp2, we_ife, we_tup, we_lst, we_idx, we_sl, we_attr, we_call, we_make, we_meth, we_bi, we_bm, wes_nil, wes_cons, wo_none, wo_some, wi_e, wi_rng, we_lc, ws_expr, ws_ret, ws_retN, ws_pass, ws_brk, ws_cont, ws_asg, ws_sub, ws_fld, ws_aug, ws_iff, ws_for, ws_whl, ws_raise, ws_try, op_some, opD_some, br_some, binG_int, binI_add, binI_sub, binI_and, binI_or, binI_xor, binI_mod, binI_shr, cmpG_int, cmpB_lt, cmpB_le, cmpB_gt, cmpB_ge, cmpB_eq, cmpB_ne, cmpB_eqB, truthD_bl, truthD_int, truthD_non, truthD_tup, get_tup, get_rol, bi_len_tup, bi_len_rol, bi_int_int, bi_int_bl, bi_abs, asgP_name, op_ite, opL_some, get_ref, set_ref, bi_len_ref, bi_tuple_ref, bi_tuple_tup, bi_list_ref, bi_list_tup, bi_sum_ref, bi_sum_tup, bi_all_ref, bi_any_ref, bi_max, bi_min, truthD_ref, trO_lst, atI_pos, ixN_pos, bi_isi, gM_cf, gM_gl, gM_fld, gM_mth, gM_opo, gM_opi, gM_opu, gM_eqo, gM_isi, gM_ist, gM_xfd, gM_xiz, gM_exm, gM_fuel, gM_hot0, gM_hot1, List.getElem?_cons_zero, List.getElem?_cons_succ, List.set_cons_zero, List.set_cons_succ, decide_eq_true_eq, Bool.true_eq_false, Bool.false_eq_true, if_true, if_false, ite_true, ite_false, reduceIte, Int.reduceLE, Int.reduceLT, Int.reduceNeg, Int.reduceToNat, Int.reduceEq, Int.reduceNe, List.length_cons, List.length_nil, Nat.reduceAdd, Nat.reduceSub, Nat.reduceLT, List.length_map, true_and, and_true, decide_true, decide_false, Bool.not_true, Bool.not_false, wss_cons, wss_nil, PySem.W.kbt_mask]
  exact (make_ok W p.w0 p.w1 mod_rng.1 mod_rng.2).imp fun r h' ⟨kp, c, e, _, W⟩ => ⟨kp, c, e, W⟩
theorem rsh_ok (S : WordS T gb) (p : Wrd h a w x) (n0 : 0 ≤ n) : (cal T gb none (k + 4) ("Word", some "__rshift__") [.ref a, .int n] h).wp (GiveW h w (shv false w x n)) X := by
  have W := S.w
  refine cal_wp S.rsh rfl ?_
  simp only [Tx.m_Word_rshift, we_fold, wss_fold, wt_fold, we_non, we_bl, we_int, we_str, we_bty, we_var, we_glob, we_bin, we_un, wt_def, we_not, we_and, we_or, we_cmp, we_cmp2, we_ife, we_tup, we_lst, we_idx, we_sl, we_attr, we_call, we_make, we_meth, we_bi, we_bm, wes_nil, wes_cons, wo_none, wo_some, wi_e, wi_rng, we_lc, ws_expr, ws_ret, ws_retN, ws_pass, ws_brk, ws_cont, ws_asg, ws_sub, ws_fld, ws_aug, ws_iff, ws_for, ws_whl, ws_raise, ws_try, op_some, opD_some, br_some, binG_int, binI_add, binI_sub, binI_and, binI_or, binI_xor, binI_mod, binI_shr, cmpG_int, cmpB_lt, cmpB_le, cmpB_gt, cmpB_ge, cmpB_eq, cmpB_ne, cmpB_eqB, truthD_bl, truthD_int, truthD_non, truthD_tup, get_tup, get_rol, bi_len_tup, bi_len_rol, bi_int_int, bi_int_bl, bi_abs, asgP_name, op_ite, opL_some, get_ref, set_ref, bi_len_ref, bi_tuple_ref, bi_tuple_tup, bi_list_ref, bi_list_tup, bi_sum_ref, bi_sum_tup, bi_all_ref, bi_any_ref, bi_max, bi_min, truthD_ref, trO_lst, atI_pos, ixN_pos, bi_isi, gM_cf, gM_gl, gM_fld, gM_mth, gM_opo, gM_opi, gM_opu, gM_eqo, gM_isi, gM_ist, gM_xfd, gM_xiz, gM_exm, gM_fuel, gM_hot0, gM_hot1, List.getElem?_cons_zero, List.getElem?_cons_succ, List.set_cons_zero, List.set_cons_succ, decide_eq_true_eq, Bool.true_eq_false, Bool.false_eq_true, if_true, if_false, ite_true, ite_false, reduceIte, Int.reduceLE, Int.reduceLT, Int.reduceNeg, Int.reduceToNat, Int.reduceEq, Int.reduceNe, List.length_cons, List.length_nil, Nat.reduceAdd, Nat.reduceSub, Nat.reduceLT, List.length_map, true_and, and_true, decide_true, decide_false, Bool.not_true, Bool.not_false, wss_cons, wss_nil, List.map_cons, List.map_nil, List.replicate, List.cons_append, List.nil_append, show ¬ n < 0 by omega, n0, attr_w W p, attr_v W p]
  have r := shv_rng (up := false) (n := n) p.v0 p.v1
  exact (make_ok W p.w0 p.w1 r.1 r.2).imp fun r h' ⟨kp, c, e, _, W⟩ => ⟨kp, c, e, W⟩
theorem sh_bad (S : WordS T gb) (n0 : n < 0) (bn : n.natAbs < 2 ^ 1000) {Q : Ip.D → Hs → Prop} (z : X "BadIndex" (some [("index", .int n)]) h) : (cal T gb none (k + 4) ("Word", some "__lshift__") [.ref a, .int n] h).wp Q X ∧ (cal T gb none (k + 4) ("Word", some "__rshift__") [.ref a, .int n] h).wp Q X := by
  refine ⟨?_, ?_⟩
  · refine cal_wp S.lsh rfl ?_
    simp only [Tx.m_Word_lshift, we_fold, wss_fold, wt_fold, we_non, we_bl, we_int, we_str, we_bty, we_var, we_glob, we_bin, we_un, wt_def, we_not, we_and, we_or, we_cmp, we_cmp2, we_ife, we_tup, we_lst, we_idx, we_sl, we_attr, we_call, we_make, we_meth, we_bi, we_bm, wes_nil, wes_cons, wo_none, wo_some, wi_e, wi_rng, we_lc, ws_expr, ws_ret, ws_retN, ws_pass, ws_brk, ws_cont, ws_asg, ws_sub, ws_fld, ws_aug, ws_iff, ws_for, ws_whl, ws_raise, ws_try, op_some, opD_some, br_some, binG_int, binI_add, binI_sub, binI_and, binI_or, binI_xor, binI_mod, binI_shr, cmpG_int, cmpB_lt, cmpB_le, cmpB_gt, cmpB_ge, cmpB_eq, cmpB_ne, cmpB_eqB, truthD_bl, truthD_int, truthD_non, truthD_tup, get_tup, get_rol, bi_len_tup, bi_len_rol, bi_int_int, bi_int_bl, bi_abs, asgP_name, op_ite, opL_some, get_ref, set_ref, bi_len_ref, bi_tuple_ref, bi_tuple_tup, bi_list_ref, bi_list_tup, bi_sum_ref, bi_sum_tup, bi_all_ref, bi_any_ref, bi_max, bi_min, truthD_ref, trO_lst, atI_pos, ixN_pos, bi_isi, gM_cf, gM_gl, gM_fld, gM_mth, gM_opo, gM_opi, gM_opu, gM_eqo, gM_isi, gM_ist, gM_xfd, gM_xiz, gM_exm, gM_fuel, gM_hot0, gM_hot1, List.getElem?_cons_zero, List.getElem?_cons_succ, List.set_cons_zero, List.set_cons_succ, decide_eq_true_eq, Bool.true_eq_false, Bool.false_eq_true, if_true, if_false, ite_true, ite_false, reduceIte, Int.reduceLE, Int.reduceLT, Int.reduceNeg, Int.reduceToNat, Int.reduceEq, Int.reduceNe, List.length_cons, List.length_nil, Nat.reduceAdd, Nat.reduceSub, Nat.reduceLT, List.length_map, true_and, and_true, decide_true, decide_false, Bool.not_true, Bool.not_false, wss_cons, wss_nil, List.map_cons, List.map_nil, List.replicate, List.cons_append, List.nil_append, n0]
    exact raise_index S bn _ _ z
  · refine cal_wp S.rsh rfl ?_
    simp only [Tx.m_Word_rshift, we_fold, wss_fold, wt_fold, we_non, we_bl, we_int, we_str, we_bty, we_var, we_glob, we_bin, we_un, wt_def, we_not, we_and, we_or, we_cmp, we_cmp2, we_ife, we_tup, we_lst, we_idx, we_sl, we_attr, we_call, we_make, we_meth, we_bi, we_bm, wes_nil, wes_cons, wo_none, wo_some, wi_e, wi_rng, we_lc, ws_expr, ws_ret, ws_retN, ws_pass, ws_brk, ws_cont, ws_asg, ws_sub, ws_fld, ws_aug, ws_iff, ws_for, ws_whl, ws_raise, ws_try, op_some, opD_some, br_some, binG_int, binI_add, binI_sub, binI_and, binI_or, binI_xor, binI_mod, binI_shr, cmpG_int, cmpB_lt, cmpB_le, cmpB_gt, cmpB_ge, cmpB_eq, cmpB_ne, cmpB_eqB, truthD_bl, truthD_int, truthD_non, truthD_tup, get_tup, get_rol, bi_len_tup, bi_len_rol, bi_int_int, bi_int_bl, bi_abs, asgP_name, op_ite, opL_some, get_ref, set_ref, bi_len_ref, bi_tuple_ref, bi_tuple_tup, bi_list_ref, bi_list_tup, bi_sum_ref, bi_sum_tup, bi_all_ref, bi_any_ref, bi_max, bi_min, truthD_ref, trO_lst, atI_pos, ixN_pos, bi_isi, gM_cf, gM_gl, gM_fld, gM_mth, gM_opo, gM_opi, gM_opu, gM_eqo, gM_isi, gM_ist, gM_xfd, gM_xiz, gM_exm, gM_fuel, gM_hot0, gM_hot1, List.getElem?_cons_zero, List.getElem?_cons_succ, List.set_cons_zero, List.set_cons_succ, decide_eq_true_eq, Bool.true_eq_false, Bool.false_eq_true, if_true, if_false, ite_true, ite_false, reduceIte, Int.reduceLE, Int.reduceLT, Int.reduceNeg, Int.reduceToNat, Int.reduceEq, Int.reduceNe, List.length_cons, List.length_nil, Nat.reduceAdd, Nat.reduceSub, Nat.reduceLT, List.length_map, true_and, and_true, decide_true, decide_false, Bool.not_true, Bool.not_false, wss_cons, wss_nil, List.map_cons, List.map_nil, List.replicate, List.cons_append, List.nil_append, n0]
    exact raise_index S bn _ _ z
theorem bin_ownI (S : WordS T gb) (p : Wrd h a w x) {o : Operator} {nm : Str} (hn : PySem.dunder o.info.2 = nm) (ho : gb.opi "Word" o = true) {Q : Ip.D → Hs → Prop} : (binG (gM T gb k m) o (.ref a) (.int n) h).wp Q X = (cal T gb m k ("Word", some nm) [.ref a, .int n] h).wp Q X := by
  rw [binG_ownI p.at_ (by rw [gM_opi]; exact ho), gM_cf, hn]
/-- a comprehension over a list, nothing changes -/
theorem comp_src {src : Src} {l : List Ip.D} {nn : Nat} {g : G} {f : Ip.D → Ip.D} {asg : Ip.D → Sl → Option Sl} {elt : Sl → M Ip.D} {δ0 : Sl} {Q : List Ip.D → Hs → Prop} (hs : ∀ i, src.at i h = some l[i]?) (hn : l.length < nn) (hz : l.length ≤ 16777216)
    (step : ∀ d, d ∈ l → Op (asg d δ0) fun δ1 => (elt δ1 h).wp (fun y h' => h' = h ∧ y = f d) fun _ _ _ => False) (hQ : Q (l.map f) h) :
    (compN src asg (fun δ1 => evalC g [] δ1) elt δ0 nn 0 [] h).wp Q X := by
  have hsz : sizeLine = 16777216 := by decide
  have key : ∀ nn i acc, i ≤ l.length → l.length - i < nn → acc = (l.take i).map f → (compN src asg (fun δ1 => evalC g [] δ1) elt δ0 nn i acc h).wp Q X := by
    intro nn
    induction nn with
    | zero => intro i acc _ hl; omega
    | succ nn ih =>
      intro i acc hi hl ha
      unfold compN
      rw [hs]
      cases e : l[i]? with
      | none =>
        have hi' := List.getElem?_eq_none_iff.mp e
        have : i = l.length := by omega
        subst this ha
        rw [List.take_length]
        exact hQ
      | some d =>
        have hlt := getLt e
        have st := step d (List.mem_of_getElem? e)
        dsimp only
        cases q : asg d δ0 with
        | none => rw [q] at st; exact st.elim
        | some δ1 =>
          rw [q] at st
          dsimp only
          rw [evalC_nil]
          show R.wp (match elt δ1 h with
            | .ok y h3 => if acc.length < sizeLine then compN src asg (fun δ1 => evalC g [] δ1) elt δ0 nn (i + 1) (acc ++ [y]) h3 else .bad
            | _ => .bad) Q X
          have st : R.wp (elt δ1 h) (fun y h' => h' = h ∧ y = f d) fun _ _ _ => False := st
          cases b : elt δ1 h with
          | ok y h3 =>
            rw [b] at st
            obtain ⟨e1, e2⟩ : h3 = h ∧ y = f d := st
            subst e1 e2
            dsimp only
            rw [if_pos (by rw [ha]; simp; omega)]
            refine ih (i + 1) _ hlt (by omega) ?_
            rw [List.take_add_one, e, List.map_append, ha]
            rfl
          | exc c fs h2 => rw [b] at st; exact (show False from st).elim
          | bad => rw [b] at st; exact (show False from st).elim
  exact key nn 0 [] (Nat.zero_le _) (by omega) rfl
theorem at_live {a : Nat} {l : List Ip.D} (e : h[a]? = some (.lst l)) (i : Nat) : Src.at (.live a) i h = some l[i]? := by
  show (match h[a]? with
    | some (.lst l) => some l[i]?
    | _ => none) = _
  rw [e]
theorem src_ref {a : Nat} {l : List Ip.D} (e : h[a]? = some (.lst l)) : srcOf h (.ref a) = some (.live a) := by
  unfold srcOf
  dsimp only
  rw [e]
end
end Ip
end
section
set_option Elab.async false
set_option linter.all false
set_option maxRecDepth 100000
set_option maxHeartbeats 0
/-! the law k01: the machine's text of its defs, what the head says -/
namespace Lk01
open PySem L2 Ip
def top (i : Nat) : Stmt := PySem.Challenge.pw_wirewatch_k01_words_shift.main.body.getD i (.Pass ⟨0, 0, 0, 0⟩)
def cls (s : Stmt) (j : Nat) : Stmt := match s with
  | .ClassDef _ _ _ b _ _ _ _ _ _ _ => b.getD j (.Pass ⟨0, 0, 0, 0⟩)
  | _ => .Pass ⟨0, 0, 0, 0⟩
def f__law_shift : Fn := ⟨["_law_store_here", "_law_width_here"], ["_law_store_here", "_law_width_here"], [.iff (.call "_law_chance" [(.var 0), (.int 4)]) [.ret (.call "_law_pick" [(.var 0), (.lst [(.bin .Sub (.int 0) (.int 1)), (.bin .Sub (.int 0) (.int 2)), (.bin .Sub (.bin .Sub (.int 0) (.var 1)) (.int 1)), (.bin .Sub (.int 0) (.int 1000)), (.bin .Sub (.int 0) (.call "_law_great" [(.var 0)]))])])] [], .iff (.call "_law_chance" [(.var 0), (.int 3)]) [.ret (.call "_law_pick" [(.var 0), (.lst [(.int 0), (.int 1), (.bi .max [(.int 0), (.bin .Sub (.var 1) (.int 1))]), (.var 1), (.bin .Add (.var 1) (.int 1)), (.int 64), (.int 999), (.int 1000)])])] [], .ret (.call "_law_pick" [(.var 0), (.lst [(.call "_law_take" [(.var 0), (.bin .Add (.var 1) (.int 1))]), (.call "_law_take" [(.var 0), (.int 1001)])])])]⟩
def f__law_shifted : Fn := ⟨["_law_word", "_law_count", "_law_up"], ["_law_word", "_law_count", "_law_up"], [.iff (.var 2) [.ret (.bin .LShift (.var 0) (.var 1))] [], .ret (.bin .RShift (.var 0) (.var 1))]⟩
def f__law_bit : Fn := ⟨["_law_number", "_law_width_here", "_law_index"], ["_law_number", "_law_width_here", "_law_index"], [.iff (.not (.cmp2 .LtE .Lt (.int 0) (.var 2) (.var 1))) [.ret (.int 0)] [], .ret (.bin .BitAnd (.bin .RShift (.var 0) (.var 2)) (.int 1))]⟩
def f__law_is_moved : Fn := ⟨["_law_actual", "_law_width_here", "_law_value_here", "_law_move"], ["_law_actual", "_law_width_here", "_law_value_here", "_law_move", "_law_number", "_law_k"], [.iff (.or (.not (.bi .isi [(.var 0), (.glob "Word")])) (.or (.not (.call "_law_same" [(.attr (.var 0) "width"), (.var 1)])) (.not (.call "_law_is_whole" [(.attr (.var 0) "value")])))) [.ret (.bl false)] [], .asg (.name 4) (.attr (.var 0) "value"), .iff (.not (.cmp2 .LtE .Lt (.int 0) (.var 4) (.bin .LShift (.int 1) (.var 1)))) [.ret (.bl false)] [], .ret (.bi .all [(.lc (.cmp .Eq (.call "_law_bit" [(.var 4), (.var 1), (.var 5)]) (.call "_law_bit" [(.var 2), (.var 1), (.bin .Add (.var 5) (.var 3))])) (.name 5) [5] (.rng [(.var 1)]) [])])]⟩
def f__law_is_word : Fn := ⟨["_law_word", "_law_width_here", "_law_value_here"], ["_law_word", "_law_width_here", "_law_value_here"], [.ret (.and (.bi .isi [(.var 0), (.glob "Word")]) (.and (.call "_law_same" [(.attr (.var 0) "width"), (.var 1)]) (.call "_law_same" [(.attr (.var 0) "value"), (.var 2)])))]⟩
def f__law_refuses : Fn := ⟨["_law_word", "_law_count", "_law_up"], ["_law_word", "_law_count", "_law_up", "e"], [.try_ [.expr (.call "_law_shifted" [(.var 0), (.var 1), (.var 2)])] (.cons "BadIndex" (some 3) [.iff (.bi .isi [(.var 3), (.tup [(.glob "BadRow"), (.glob "BadTable"), (.glob "BadText"), (.glob "BadWidth"), (.glob "BadWord"), (.glob "Mismatch"), (.glob "TooLarge")])]) [.ret (.bl false)] [], .ret (.and (.bi .isi [(.var 3), (.glob "WireError")]) (.call "_law_same" [(.attr (.var 3) "index"), (.var 1)]))] .nil), .ret (.bl false)]⟩
def f__law_one_shift : Fn := ⟨["_law_word", "_law_width_here", "_law_value_here", "_law_count", "_law_up"], ["_law_word", "_law_width_here", "_law_value_here", "_law_count", "_law_up", "_law_move"], [.iff (.cmp .Lt (.var 3) (.int 0)) [.ret (.and (.call "_law_refuses" [(.var 0), (.var 3), (.var 4)]) (.call "_law_is_word" [(.var 0), (.var 1), (.var 2)]))] [], .asg (.name 5) (.var 3), .iff (.var 4) [.asg (.name 5) (.bin .Sub (.int 0) (.var 3))] [], .ret (.and (.call "_law_is_moved" [(.call "_law_shifted" [(.var 0), (.var 3), (.var 4)]), (.var 1), (.var 2), (.var 5)]) (.call "_law_is_word" [(.var 0), (.var 1), (.var 2)]))]⟩
def f__law_two_shifts : Fn := ⟨["_law_word", "_law_width_here", "_law_value_here", "_law_count", "_law_more", "_law_up"], ["_law_word", "_law_width_here", "_law_value_here", "_law_count", "_law_more", "_law_up", "_law_twice", "_law_back", "_law_kept", "_law_due", "_law_k"], [.iff (.or (.not (.cmp2 .LtE .LtE (.int 0) (.var 3) (.int 1000))) (.not (.cmp2 .LtE .LtE (.int 0) (.var 4) (.bin .Sub (.int 1000) (.var 3))))) [.ret (.bl true)] [], .asg (.name 6) (.call "_law_shifted" [(.call "_law_shifted" [(.var 0), (.var 3), (.var 5)]), (.var 4), (.var 5)]), .iff (.or (.not (.bi .isi [(.var 6), (.glob "Word")])) (.not (.call "_law_same" [(.cmp .Eq (.var 6) (.call "_law_shifted" [(.var 0), (.bin .Add (.var 3) (.var 4)), (.var 5)])), (.bl true)]))) [.ret (.bl false)] [], .asg (.name 7) (.call "_law_shifted" [(.call "_law_shifted" [(.var 0), (.var 3), (.var 5)]), (.var 3), (.not (.var 5))]), .asg (.name 8) (.lc (.var 10) (.name 10) [10] (.rng [(.var 1)]) [(.or (.and (.var 5) (.cmp .Lt (.var 10) (.bin .Sub (.var 1) (.var 3)))) (.and (.not (.var 5)) (.cmp .GtE (.var 10) (.var 3))))]), .asg (.name 9) (.bi .sum [(.lc (.bin .LShift (.bin .BitAnd (.bin .RShift (.var 2) (.var 10)) (.int 1)) (.var 10)) (.name 10) [10] (.e (.var 8)) [])]), .ret (.call "_law_is_word" [(.var 7), (.var 1), (.var 9)])]⟩
def f_law : Fn := ⟨["_law_script"], ["_law_script", "_law_store_here", "_law_width_here", "_law_value_here", "_law_wide", "_law_extra", "_law_count", "_law_more", "_law_word", "_law_other", "_law_up"], [.asg (.name 1) (.call "_law_store" [(.var 0)]), .asg (.name 2) (.call "_law_width" [(.var 1)]), .asg (.name 3) (.call "_law_value" [(.var 1), (.var 2)]), .asg (.name 4) (.call "_law_width" [(.var 1)]), .asg (.name 5) (.call "_law_value" [(.var 1), (.var 4)]), .asg (.name 6) (.call "_law_shift" [(.var 1), (.var 2)]), .asg (.name 7) (.call "_law_shift" [(.var 1), (.var 2)]), .asg (.name 8) (.make "Word" [(.var 2), (.var 3)]), .asg (.name 9) (.make "Word" [(.var 4), (.var 5)]), .for_ (.name 10) (.e (.lst [(.bl true), (.bl false), (.bl true)])) [.iff (.or (.not (.call "_law_one_shift" [(.var 8), (.var 2), (.var 3), (.var 6), (.var 10)])) (.not (.call "_law_one_shift" [(.var 9), (.var 4), (.var 5), (.var 7), (.var 10)]))) [.ret (.bl false)] [], .iff (.or (.not (.call "_law_one_shift" [(.var 8), (.var 2), (.var 3), (.var 7), (.var 10)])) (.not (.call "_law_one_shift" [(.var 8), (.var 2), (.var 3), (.int 0), (.var 10)]))) [.ret (.bl false)] [], .iff (.or (.not (.call "_law_one_shift" [(.var 8), (.var 2), (.var 3), (.var 6), (.not (.var 10))])) (.not (.call "_law_refuses" [(.var 9), (.bin .Sub (.bin .Sub (.int 0) (.int 1)) (.var 4)), (.var 10)]))) [.ret (.bl false)] [], .iff (.not (.call "_law_two_shifts" [(.var 8), (.var 2), (.var 3), (.var 6), (.var 7), (.var 10)])) [.ret (.bl false)] []], .ret (.and (.call "_law_is_word" [(.var 8), (.var 2), (.var 3)]) (.call "_law_is_word" [(.var 9), (.var 4), (.var 5)]))]⟩
def S : Spc where
  dfs := [
    ⟨("full_value", none), "full_value", "full_value", (top 13), Tx.f_full_value⟩, 
    ⟨("check_widths", none), "check_widths", "check_widths", (top 14), Tx.f_check_widths⟩, 
    ⟨("Word", some "__init__"), "__init__", "Word.__init__", (cls (top 15) 0), Tx.m_Word_init⟩, 
    ⟨("Word", some "__eq__"), "__eq__", "Word.__eq__", (cls (top 15) 3), Tx.m_Word_eq⟩, 
    ⟨("Word", some "__and__"), "__and__", "Word.__and__", (cls (top 15) 4), Tx.m_Word_and⟩, 
    ⟨("Word", some "__or__"), "__or__", "Word.__or__", (cls (top 15) 5), Tx.m_Word_or⟩, 
    ⟨("Word", some "__xor__"), "__xor__", "Word.__xor__", (cls (top 15) 6), Tx.m_Word_xor⟩, 
    ⟨("Word", some "__add__"), "__add__", "Word.__add__", (cls (top 15) 7), Tx.m_Word_add⟩, 
    ⟨("Word", some "__sub__"), "__sub__", "Word.__sub__", (cls (top 15) 8), Tx.m_Word_sub⟩, 
    ⟨("Word", some "__invert__"), "__invert__", "Word.__invert__", (cls (top 15) 9), Tx.m_Word_invert⟩, 
    ⟨("Word", some "__lshift__"), "__lshift__", "Word.__lshift__", (cls (top 15) 10), Tx.m_Word_lshift⟩, 
    ⟨("Word", some "__rshift__"), "__rshift__", "Word.__rshift__", (cls (top 15) 11), Tx.m_Word_rshift⟩, 
    ⟨("Word", some "__len__"), "__len__", "Word.__len__", (cls (top 15) 12), Tx.m_Word_len⟩, 
    ⟨("Word", some "__getitem__"), "__getitem__", "Word.__getitem__", (cls (top 15) 13), Tx.m_Word_getitem⟩, 
    ⟨("_law_mix", none), "_law_mix", "_law_mix", (top 17), Tx.f__law_mix⟩, 
    ⟨("_law_store", none), "_law_store", "_law_store", (top 18), Tx.f__law_store⟩, 
    ⟨("_law_take", none), "_law_take", "_law_take", (top 19), Tx.f__law_take⟩, 
    ⟨("_law_pick", none), "_law_pick", "_law_pick", (top 20), Tx.f__law_pick⟩, 
    ⟨("_law_chance", none), "_law_chance", "_law_chance", (top 21), Tx.f__law_chance⟩, 
    ⟨("_law_great", none), "_law_great", "_law_great", (top 22), Tx.f__law_great⟩, 
    ⟨("_law_row_of", none), "_law_row_of", "_law_row_of", (top 23), Tx.f__law_row_of⟩, 
    ⟨("_law_number_of", none), "_law_number_of", "_law_number_of", (top 24), Tx.f__law_number_of⟩, 
    ⟨("_law_row", none), "_law_row", "_law_row", (top 25), Tx.f__law_row⟩, 
    ⟨("_law_long_row", none), "_law_long_row", "_law_long_row", (top 26), Tx.f__law_long_row⟩, 
    ⟨("_law_is_whole", none), "_law_is_whole", "_law_is_whole", (top 27), Tx.f__law_is_whole⟩, 
    ⟨("_law_same", none), "_law_same", "_law_same", (top 28), Tx.f__law_same⟩, 
    ⟨("_law_width", none), "_law_width", "_law_width", (top 29), Tx.f__law_width⟩, 
    ⟨("_law_value", none), "_law_value", "_law_value", (top 30), Tx.f__law_value⟩, 
    ⟨("_law_shift", none), "_law_shift", "_law_shift", (top 31), f__law_shift⟩, 
    ⟨("_law_shifted", none), "_law_shifted", "_law_shifted", (top 32), f__law_shifted⟩, 
    ⟨("_law_bit", none), "_law_bit", "_law_bit", (top 33), f__law_bit⟩, 
    ⟨("_law_is_moved", none), "_law_is_moved", "_law_is_moved", (top 34), f__law_is_moved⟩, 
    ⟨("_law_is_word", none), "_law_is_word", "_law_is_word", (top 35), f__law_is_word⟩, 
    ⟨("_law_refuses", none), "_law_refuses", "_law_refuses", (top 36), f__law_refuses⟩, 
    ⟨("_law_one_shift", none), "_law_one_shift", "_law_one_shift", (top 37), f__law_one_shift⟩, 
    ⟨("_law_two_shifts", none), "_law_two_shifts", "_law_two_shifts", (top 38), f__law_two_shifts⟩, 
    ⟨("law", none), "law", "law", (top 39), f_law⟩]
  xfs := [
    ⟨"BadIndex", "BadIndex.__init__", (cls (top 3) 0), ["index"], (.fstr [(.str "index or count out of range: "), (.fmt (.var 1))])⟩, 
    ⟨"BadWord", "BadWord.__init__", (cls (top 4) 0), ["size", "number"], (.fstr [(.str "no word has the width "), (.fmt (.var 1)), (.str " and the value "), (.fmt (.var 2))])⟩, 
    ⟨"BadWidth", "BadWidth.__init__", (cls (top 5) 0), ["left", "right"], (.fstr [(.str "words of the widths "), (.fmt (.var 1)), (.str " and "), (.fmt (.var 2))])⟩, 
    ⟨"BadTable", "BadTable.__init__", (cls (top 6) 0), ["size"], (.fstr [(.str "a word of the width "), (.fmt (.var 1)), (.str " is no table")])⟩, 
    ⟨"BadRow", "BadRow.__init__", (cls (top 7) 0), ["row"], (.str "a row has a wrong length or a wrong item")⟩, 
    ⟨"BadText", "BadText.__init__", (cls (top 8) 0), ["line", "column", "code"], (.fstr [(.str "line "), (.fmt (.var 1)), (.str ", column "), (.fmt (.var 2)), (.str ": "), (.fmt (.var 3))])⟩, 
    ⟨"Mismatch", "Mismatch.__init__", (cls (top 9) 0), ["what"], (.fstr [(.str "the "), (.fmt (.var 1)), (.str " do not fit together")])⟩, 
    ⟨"TooLarge", "TooLarge.__init__", (cls (top 10) 0), ["what", "most"], (.fstr [(.fmt (.var 1)), (.str ": the limit is "), (.fmt (.var 2))])⟩]
  fns := ["full_value", "check_widths", "_law_mix", "_law_store", "_law_take", "_law_pick", "_law_chance", "_law_great", "_law_row_of", "_law_number_of", "_law_row", "_law_long_row", "_law_is_whole", "_law_same", "_law_width", "_law_value", "_law_shift", "_law_shifted", "_law_bit", "_law_is_moved", "_law_is_word", "_law_refuses", "_law_one_shift", "_law_two_shifts", "law"]
  mks := ["Word"]
  gls := [("WireError", (.cls "WireError")), ("BadIndex", (.cls "BadIndex")), ("BadWord", (.cls "BadWord")), ("BadWidth", (.cls "BadWidth")), ("BadTable", (.cls "BadTable")), ("BadRow", (.cls "BadRow")), ("BadText", (.cls "BadText")), ("Mismatch", (.cls "Mismatch")), ("TooLarge", (.cls "TooLarge")), ("Word", (.cls "Word")), ("MOST_BITS", (.int 256))]
  frees := ["len", "int", "str", "tuple", "list", "abs", "max", "sum", "all", "int", "str", "tuple", "list", "dict", "bool", "set", "frozenset", "bytes", "float", "object", "type", "isinstance", "range"]
  xns := [("BadIndex", none)]
  flds := [("Word", "width"), ("Word", "value"), ("Word", "bits")]
  mths := []
  prps := []
  opo := [("Word", .BitAnd), ("Word", .BitOr), ("Word", .BitXor), ("Word", .Add), ("Word", .Sub), ("Word", .LShift), ("Word", .RShift)]
  opi := [("Word", .LShift), ("Word", .RShift)]
  opu := ["Word"]
  eqo := [("Word", .ty "NoneType"), ("Word", .ty "bool"), ("Word", .ty "int"), ("Word", .ty "str"), ("Word", .ty "tuple"), ("Word", .ty "list"), ("Word", .ty "dict"), ("Word", .cls "Word")]
  isi := [((.ty "NoneType", .cls "BadIndex"), false), ((.ty "NoneType", .cls "BadRow"), false), ((.ty "NoneType", .cls "BadTable"), false), ((.ty "NoneType", .cls "BadText"), false), ((.ty "NoneType", .cls "BadWidth"), false), ((.ty "NoneType", .cls "BadWord"), false), ((.ty "NoneType", .cls "Mismatch"), false), ((.ty "NoneType", .cls "TooLarge"), false), ((.ty "NoneType", .cls "WireError"), false), ((.ty "NoneType", .cls "Word"), false), ((.ty "NoneType", .ty "bool"), false), ((.ty "NoneType", .ty "dict"), false), ((.ty "NoneType", .ty "int"), false), ((.ty "NoneType", .ty "list"), false), ((.ty "NoneType", .ty "str"), false), ((.ty "NoneType", .ty "tuple"), false), ((.ty "bool", .cls "BadIndex"), false), ((.ty "bool", .cls "BadRow"), false), ((.ty "bool", .cls "BadTable"), false), ((.ty "bool", .cls "BadText"), false), ((.ty "bool", .cls "BadWidth"), false), ((.ty "bool", .cls "BadWord"), false), ((.ty "bool", .cls "Mismatch"), false), ((.ty "bool", .cls "TooLarge"), false), ((.ty "bool", .cls "WireError"), false), ((.ty "bool", .cls "Word"), false), ((.ty "bool", .ty "bool"), true), ((.ty "bool", .ty "dict"), false), ((.ty "bool", .ty "int"), true), ((.ty "bool", .ty "list"), false), ((.ty "bool", .ty "str"), false), ((.ty "bool", .ty "tuple"), false), ((.ty "int", .cls "BadIndex"), false), ((.ty "int", .cls "BadRow"), false), ((.ty "int", .cls "BadTable"), false), ((.ty "int", .cls "BadText"), false), ((.ty "int", .cls "BadWidth"), false), ((.ty "int", .cls "BadWord"), false), ((.ty "int", .cls "Mismatch"), false), ((.ty "int", .cls "TooLarge"), false), ((.ty "int", .cls "WireError"), false), ((.ty "int", .cls "Word"), false), ((.ty "int", .ty "bool"), false), ((.ty "int", .ty "dict"), false), ((.ty "int", .ty "int"), true), ((.ty "int", .ty "list"), false), ((.ty "int", .ty "str"), false), ((.ty "int", .ty "tuple"), false), ((.ty "str", .cls "BadIndex"), false), ((.ty "str", .cls "BadRow"), false), ((.ty "str", .cls "BadTable"), false), ((.ty "str", .cls "BadText"), false), ((.ty "str", .cls "BadWidth"), false), ((.ty "str", .cls "BadWord"), false), ((.ty "str", .cls "Mismatch"), false), ((.ty "str", .cls "TooLarge"), false), ((.ty "str", .cls "WireError"), false), ((.ty "str", .cls "Word"), false), ((.ty "str", .ty "bool"), false), ((.ty "str", .ty "dict"), false), ((.ty "str", .ty "int"), false), ((.ty "str", .ty "list"), false), ((.ty "str", .ty "str"), true), ((.ty "str", .ty "tuple"), false), ((.ty "tuple", .cls "BadIndex"), false), ((.ty "tuple", .cls "BadRow"), false), ((.ty "tuple", .cls "BadTable"), false), ((.ty "tuple", .cls "BadText"), false), ((.ty "tuple", .cls "BadWidth"), false), ((.ty "tuple", .cls "BadWord"), false), ((.ty "tuple", .cls "Mismatch"), false), ((.ty "tuple", .cls "TooLarge"), false), ((.ty "tuple", .cls "WireError"), false), ((.ty "tuple", .cls "Word"), false), ((.ty "tuple", .ty "bool"), false), ((.ty "tuple", .ty "dict"), false), ((.ty "tuple", .ty "int"), false), ((.ty "tuple", .ty "list"), false), ((.ty "tuple", .ty "str"), false), ((.ty "tuple", .ty "tuple"), true), ((.ty "list", .cls "BadIndex"), false), ((.ty "list", .cls "BadRow"), false), ((.ty "list", .cls "BadTable"), false), ((.ty "list", .cls "BadText"), false), ((.ty "list", .cls "BadWidth"), false), ((.ty "list", .cls "BadWord"), false), ((.ty "list", .cls "Mismatch"), false), ((.ty "list", .cls "TooLarge"), false), ((.ty "list", .cls "WireError"), false), ((.ty "list", .cls "Word"), false), ((.ty "list", .ty "bool"), false), ((.ty "list", .ty "dict"), false), ((.ty "list", .ty "int"), false), ((.ty "list", .ty "list"), true), ((.ty "list", .ty "str"), false), ((.ty "list", .ty "tuple"), false), ((.ty "dict", .cls "BadIndex"), false), ((.ty "dict", .cls "BadRow"), false), ((.ty "dict", .cls "BadTable"), false), ((.ty "dict", .cls "BadText"), false), ((.ty "dict", .cls "BadWidth"), false), ((.ty "dict", .cls "BadWord"), false), ((.ty "dict", .cls "Mismatch"), false), ((.ty "dict", .cls "TooLarge"), false), ((.ty "dict", .cls "WireError"), false), ((.ty "dict", .cls "Word"), false), ((.ty "dict", .ty "bool"), false), ((.ty "dict", .ty "dict"), true), ((.ty "dict", .ty "int"), false), ((.ty "dict", .ty "list"), false), ((.ty "dict", .ty "str"), false), ((.ty "dict", .ty "tuple"), false), ((.cls "Word", .cls "BadIndex"), false), ((.cls "Word", .cls "BadRow"), false), ((.cls "Word", .cls "BadTable"), false), ((.cls "Word", .cls "BadText"), false), ((.cls "Word", .cls "BadWidth"), false), ((.cls "Word", .cls "BadWord"), false), ((.cls "Word", .cls "Mismatch"), false), ((.cls "Word", .cls "TooLarge"), false), ((.cls "Word", .cls "WireError"), false), ((.cls "Word", .cls "Word"), true), ((.cls "Word", .ty "bool"), false), ((.cls "Word", .ty "dict"), false), ((.cls "Word", .ty "int"), false), ((.cls "Word", .ty "list"), false), ((.cls "Word", .ty "str"), false), ((.cls "Word", .ty "tuple"), false), ((.cls "BadIndex", .cls "BadIndex"), true), ((.cls "BadIndex", .cls "BadRow"), false), ((.cls "BadIndex", .cls "BadTable"), false), ((.cls "BadIndex", .cls "BadText"), false), ((.cls "BadIndex", .cls "BadWidth"), false), ((.cls "BadIndex", .cls "BadWord"), false), ((.cls "BadIndex", .cls "Mismatch"), false), ((.cls "BadIndex", .cls "TooLarge"), false), ((.cls "BadIndex", .cls "WireError"), true), ((.cls "BadIndex", .cls "Word"), false), ((.cls "BadIndex", .ty "bool"), false), ((.cls "BadIndex", .ty "dict"), false), ((.cls "BadIndex", .ty "int"), false), ((.cls "BadIndex", .ty "list"), false), ((.cls "BadIndex", .ty "str"), false), ((.cls "BadIndex", .ty "tuple"), false), ((.cls "BadWord", .cls "BadIndex"), false), ((.cls "BadWord", .cls "BadRow"), false), ((.cls "BadWord", .cls "BadTable"), false), ((.cls "BadWord", .cls "BadText"), false), ((.cls "BadWord", .cls "BadWidth"), false), ((.cls "BadWord", .cls "BadWord"), true), ((.cls "BadWord", .cls "Mismatch"), false), ((.cls "BadWord", .cls "TooLarge"), false), ((.cls "BadWord", .cls "WireError"), true), ((.cls "BadWord", .cls "Word"), false), ((.cls "BadWord", .ty "bool"), false), ((.cls "BadWord", .ty "dict"), false), ((.cls "BadWord", .ty "int"), false), ((.cls "BadWord", .ty "list"), false), ((.cls "BadWord", .ty "str"), false), ((.cls "BadWord", .ty "tuple"), false), ((.cls "BadWidth", .cls "BadIndex"), false), ((.cls "BadWidth", .cls "BadRow"), false), ((.cls "BadWidth", .cls "BadTable"), false), ((.cls "BadWidth", .cls "BadText"), false), ((.cls "BadWidth", .cls "BadWidth"), true), ((.cls "BadWidth", .cls "BadWord"), false), ((.cls "BadWidth", .cls "Mismatch"), false), ((.cls "BadWidth", .cls "TooLarge"), false), ((.cls "BadWidth", .cls "WireError"), true), ((.cls "BadWidth", .cls "Word"), false), ((.cls "BadWidth", .ty "bool"), false), ((.cls "BadWidth", .ty "dict"), false), ((.cls "BadWidth", .ty "int"), false), ((.cls "BadWidth", .ty "list"), false), ((.cls "BadWidth", .ty "str"), false), ((.cls "BadWidth", .ty "tuple"), false), ((.cls "BadTable", .cls "BadIndex"), false), ((.cls "BadTable", .cls "BadRow"), false), ((.cls "BadTable", .cls "BadTable"), true), ((.cls "BadTable", .cls "BadText"), false), ((.cls "BadTable", .cls "BadWidth"), false), ((.cls "BadTable", .cls "BadWord"), false), ((.cls "BadTable", .cls "Mismatch"), false), ((.cls "BadTable", .cls "TooLarge"), false), ((.cls "BadTable", .cls "WireError"), true), ((.cls "BadTable", .cls "Word"), false), ((.cls "BadTable", .ty "bool"), false), ((.cls "BadTable", .ty "dict"), false), ((.cls "BadTable", .ty "int"), false), ((.cls "BadTable", .ty "list"), false), ((.cls "BadTable", .ty "str"), false), ((.cls "BadTable", .ty "tuple"), false), ((.cls "BadRow", .cls "BadIndex"), false), ((.cls "BadRow", .cls "BadRow"), true), ((.cls "BadRow", .cls "BadTable"), false), ((.cls "BadRow", .cls "BadText"), false), ((.cls "BadRow", .cls "BadWidth"), false), ((.cls "BadRow", .cls "BadWord"), false), ((.cls "BadRow", .cls "Mismatch"), false), ((.cls "BadRow", .cls "TooLarge"), false), ((.cls "BadRow", .cls "WireError"), true), ((.cls "BadRow", .cls "Word"), false), ((.cls "BadRow", .ty "bool"), false), ((.cls "BadRow", .ty "dict"), false), ((.cls "BadRow", .ty "int"), false), ((.cls "BadRow", .ty "list"), false), ((.cls "BadRow", .ty "str"), false), ((.cls "BadRow", .ty "tuple"), false), ((.cls "BadText", .cls "BadIndex"), false), ((.cls "BadText", .cls "BadRow"), false), ((.cls "BadText", .cls "BadTable"), false), ((.cls "BadText", .cls "BadText"), true), ((.cls "BadText", .cls "BadWidth"), false), ((.cls "BadText", .cls "BadWord"), false), ((.cls "BadText", .cls "Mismatch"), false), ((.cls "BadText", .cls "TooLarge"), false), ((.cls "BadText", .cls "WireError"), true), ((.cls "BadText", .cls "Word"), false), ((.cls "BadText", .ty "bool"), false), ((.cls "BadText", .ty "dict"), false), ((.cls "BadText", .ty "int"), false), ((.cls "BadText", .ty "list"), false), ((.cls "BadText", .ty "str"), false), ((.cls "BadText", .ty "tuple"), false), ((.cls "Mismatch", .cls "BadIndex"), false), ((.cls "Mismatch", .cls "BadRow"), false), ((.cls "Mismatch", .cls "BadTable"), false), ((.cls "Mismatch", .cls "BadText"), false), ((.cls "Mismatch", .cls "BadWidth"), false), ((.cls "Mismatch", .cls "BadWord"), false), ((.cls "Mismatch", .cls "Mismatch"), true), ((.cls "Mismatch", .cls "TooLarge"), false), ((.cls "Mismatch", .cls "WireError"), true), ((.cls "Mismatch", .cls "Word"), false), ((.cls "Mismatch", .ty "bool"), false), ((.cls "Mismatch", .ty "dict"), false), ((.cls "Mismatch", .ty "int"), false), ((.cls "Mismatch", .ty "list"), false), ((.cls "Mismatch", .ty "str"), false), ((.cls "Mismatch", .ty "tuple"), false), ((.cls "TooLarge", .cls "BadIndex"), false), ((.cls "TooLarge", .cls "BadRow"), false), ((.cls "TooLarge", .cls "BadTable"), false), ((.cls "TooLarge", .cls "BadText"), false), ((.cls "TooLarge", .cls "BadWidth"), false), ((.cls "TooLarge", .cls "BadWord"), false), ((.cls "TooLarge", .cls "Mismatch"), false), ((.cls "TooLarge", .cls "TooLarge"), true), ((.cls "TooLarge", .cls "WireError"), true), ((.cls "TooLarge", .cls "Word"), false), ((.cls "TooLarge", .ty "bool"), false), ((.cls "TooLarge", .ty "dict"), false), ((.cls "TooLarge", .ty "int"), false), ((.cls "TooLarge", .ty "list"), false), ((.cls "TooLarge", .ty "str"), false), ((.cls "TooLarge", .ty "tuple"), false)]
  ist := ["Word"]
  xfd := [("BadIndex", "index"), ("BadWord", "size"), ("BadWord", "number"), ("BadWidth", "left"), ("BadWidth", "right"), ("BadTable", "size"), ("BadRow", "row"), ("BadText", "line"), ("BadText", "column"), ("BadText", "code"), ("Mismatch", "what"), ("TooLarge", "what"), ("TooLarge", "most")]
  xiz := ["BadIndex", "BadWord", "BadWidth", "BadTable", "BadRow", "BadText", "Mismatch", "TooLarge"]
  exm := [(("BadIndex", "BadIndex"), true), (("BadWord", "BadIndex"), false), (("BadWidth", "BadIndex"), false), (("BadTable", "BadIndex"), false), (("BadRow", "BadIndex"), false), (("BadText", "BadIndex"), false), (("Mismatch", "BadIndex"), false), (("TooLarge", "BadIndex"), false)]
  fuel := 2 ^ 64
def names0 : List PySem.Str := [.ofString "_wall", .ofString "WireError", .ofString "BadIndex", .ofString "BadWord", .ofString "BadWidth", .ofString "BadTable", .ofString "BadRow", .ofString "BadText", .ofString "Mismatch", .ofString "TooLarge", .ofString "MOST_BITS", .ofString "full_value", .ofString "check_widths", .ofString "Word", .ofString "_law_mix", .ofString "_law_store", .ofString "_law_take", .ofString "_law_pick", .ofString "_law_chance", .ofString "_law_great", .ofString "_law_row_of", .ofString "_law_number_of", .ofString "_law_row", .ofString "_law_long_row", .ofString "_law_is_whole", .ofString "_law_same", .ofString "_law_width", .ofString "_law_value", .ofString "_law_shift", .ofString "_law_shifted", .ofString "_law_bit", .ofString "_law_is_moved", .ofString "_law_is_word", .ofString "_law_refuses", .ofString "_law_one_shift"]
def names1 : List PySem.Str := [.ofString "_law_two_shifts"]
def names : List PySem.Str := names0 ++ names1
def file : Str := "/claim/cut.py"
theorem stat : S.stat = true := by decide +kernel
abbrev R : PySem.W.OpenRow := PySem.W.OpenLaw.row PySem.Challenge.rw_wirewatch_k01_words_shift
abbrev qv : Program := PySem.W.view R.prog [39]
def ob (s : PySem.W.SharedT) : Spc.Al := S.obsG file 5 (HandSHeadRun.getT s)
theorem ob_eq (s : PySem.W.SharedT) : ob s = (S.hook file 5).obs s.abs := Spc.obsG_eq (HandSHeadRun.getT_eq s)
theorem run (w : World) : HandSHeadRun.RunEq R qv (S.hook file 5) ob 20000 names w := by
  intro os
  kernel_rfl
end Lk01
end
section
set_option Elab.async false
set_option linter.all false
set_option maxRecDepth 100000
set_option maxHeartbeats 0
namespace Lk01
open PySem L2 Ip
structure K01 (T : FKey → Option Fn) (gb : G) : Prop where
  d : DrawsW T gb
  s : Same T gb
  w : WordS T gb
  e : Errs gb
  m_index : gb.exm "BadIndex" "BadIndex" = some true
  shift : T ("_law_shift", none) = some f__law_shift
  shifted : T ("_law_shifted", none) = some f__law_shifted
  bit : T ("_law_bit", none) = some f__law_bit
  moved : T ("_law_is_moved", none) = some f__law_is_moved
  isw : T ("_law_is_word", none) = some f__law_is_word
  refuses : T ("_law_refuses", none) = some f__law_refuses
  one : T ("_law_one_shift", none) = some f__law_one_shift
  two : T ("_law_two_shifts", none) = some f__law_two_shifts
section
variable {T : FKey → Option Fn} {gb : G} {m : Option Hx} {k : Nat} {h : Hs} {X : Xp} {a b c : Nat} {w v x y n : Int} {s : Nat × Nat} {up : Bool}
/-- a count for a shift -/
def Cnt (n : Int) : Prop := n ≤ 1000 ∧ n.natAbs < 2 ^ 1000
theorem cnt_of (h0 : -100000 ≤ n) (h1 : n ≤ 1000) : Cnt n := ⟨h1, Nat.lt_of_le_of_lt (show n.natAbs ≤ 2 ^ 20 by omega) (by decide +kernel)⟩
theorem shift_ok (K : K01 T gb) (st : Sto h s) (w0 : 0 ≤ w) (w1 : w ≤ 256) : (cal T gb none (k + 5) ("_law_shift", none) [.ref s.1, .int w] h).wp (fun r h' => Fr s h h' ∧ ∃ n, r = .int n ∧ Cnt n) X := by
  have D := K.d
  have hz : sizeLine = 16777216 := by decide
  refine cal_wp K.shift rfl ?_
  simp only [f__law_shift, List.map_cons, List.map_nil, List.replicate, List.cons_append, List.nil_append, we_fold, wss_fold, wt_fold, we_non, we_bl, we_int, we_str, we_bty, we_var, we_glob, we_bin, we_un, wt_def, we_not, we_and, we_or, we_cmp, we_cmp2, we_ife, we_tup, we_lst, we_idx, we_sl, we_attr, we_call, we_make, we_meth, we_bi, we_bm, wes_nil, wes_cons, wo_none, wo_some, wi_e, wi_rng, we_lc, ws_expr, ws_ret, ws_retN, ws_pass, ws_brk, ws_cont, ws_asg, ws_sub, ws_fld, ws_aug, ws_iff, ws_for, ws_whl, ws_raise, ws_try, op_some, opD_some, br_some, binG_int, binI_add, binI_sub, binI_and, binI_or, binI_xor, binI_mod, binI_shr, cmpG_int, cmpB_lt, cmpB_le, cmpB_gt, cmpB_ge, cmpB_eq, cmpB_ne, cmpB_eqB, truthD_bl, truthD_int, truthD_non, truthD_tup, get_tup, get_rol, bi_len_tup, bi_len_rol, bi_int_int, bi_int_bl, bi_abs, asgP_name, op_ite, opL_some, get_ref, set_ref, bi_len_ref, bi_tuple_ref, bi_tuple_tup, bi_list_ref, bi_list_tup, bi_sum_ref, bi_sum_tup, bi_all_ref, bi_any_ref, bi_max, bi_min, truthD_ref, trO_lst, atI_pos, ixN_pos, bi_isi, gM_cf, gM_gl, gM_fld, gM_mth, gM_opo, gM_opi, gM_opu, gM_eqo, gM_isi, gM_ist, gM_xfd, gM_xiz, gM_exm, gM_fuel, gM_hot0, gM_hot1, List.getElem?_cons_zero, List.getElem?_cons_succ, List.set_cons_zero, List.set_cons_succ, decide_eq_true_eq, Bool.true_eq_false, Bool.false_eq_true, if_true, if_false, ite_true, ite_false, reduceIte, Int.reduceLE, Int.reduceLT, Int.reduceNeg, Int.reduceToNat, Int.reduceEq, Int.reduceNe, List.length_cons, List.length_nil, Nat.reduceAdd, Nat.reduceSub, Nat.reduceLT, List.length_map, true_and, and_true, decide_true, decide_false, Bool.not_true, Bool.not_false]
  rw [wss_cons]
  try simp only [we_fold, wss_fold, wt_fold, we_non, we_bl, we_int, we_str, we_bty, we_var, we_glob, we_bin, we_un, wt_def, we_not, we_and, we_or, we_cmp, we_cmp2, we_ife, we_tup, we_lst, we_idx, we_sl, we_attr, we_call, we_make, we_meth, we_bi, we_bm, wes_nil, wes_cons, wo_none, wo_some, wi_e, wi_rng, we_lc, ws_expr, ws_ret, ws_retN, ws_pass, ws_brk, ws_cont, ws_asg, ws_sub, ws_fld, ws_aug, ws_iff, ws_for, ws_whl, ws_raise, ws_try, op_some, opD_some, br_some, binG_int, binI_add, binI_sub, binI_and, binI_or, binI_xor, binI_mod, binI_shr, cmpG_int, cmpB_lt, cmpB_le, cmpB_gt, cmpB_ge, cmpB_eq, cmpB_ne, cmpB_eqB, truthD_bl, truthD_int, truthD_non, truthD_tup, get_tup, get_rol, bi_len_tup, bi_len_rol, bi_int_int, bi_int_bl, bi_abs, asgP_name, op_ite, opL_some, get_ref, set_ref, bi_len_ref, bi_tuple_ref, bi_tuple_tup, bi_list_ref, bi_list_tup, bi_sum_ref, bi_sum_tup, bi_all_ref, bi_any_ref, bi_max, bi_min, truthD_ref, trO_lst, atI_pos, ixN_pos, bi_isi, gM_cf, gM_gl, gM_fld, gM_mth, gM_opo, gM_opi, gM_opu, gM_eqo, gM_isi, gM_ist, gM_xfd, gM_xiz, gM_exm, gM_fuel, gM_hot0, gM_hot1, List.getElem?_cons_zero, List.getElem?_cons_succ, List.set_cons_zero, List.set_cons_succ, decide_eq_true_eq, Bool.true_eq_false, Bool.false_eq_true, if_true, if_false, ite_true, ite_false, reduceIte, Int.reduceLE, Int.reduceLT, Int.reduceNeg, Int.reduceToNat, Int.reduceEq, Int.reduceNe, List.length_cons, List.length_nil, Nat.reduceAdd, Nat.reduceSub, Nat.reduceLT, List.length_map, true_and, and_true, decide_true, decide_false, Bool.not_true, Bool.not_false]
  refine (chance_ok D.toDraws st _ (by omega)).imp fun r h1 ⟨f1, b, e⟩ => ?_
  subst e
  have hs1 := f1.st.lt
  cases b with
  | true =>
    try simp only [we_fold, wss_fold, wt_fold, we_non, we_bl, we_int, we_str, we_bty, we_var, we_glob, we_bin, we_un, wt_def, we_not, we_and, we_or, we_cmp, we_cmp2, we_ife, we_tup, we_lst, we_idx, we_sl, we_attr, we_call, we_make, we_meth, we_bi, we_bm, wes_nil, wes_cons, wo_none, wo_some, wi_e, wi_rng, we_lc, ws_expr, ws_ret, ws_retN, ws_pass, ws_brk, ws_cont, ws_asg, ws_sub, ws_fld, ws_aug, ws_iff, ws_for, ws_whl, ws_raise, ws_try, op_some, opD_some, br_some, binG_int, binI_add, binI_sub, binI_and, binI_or, binI_xor, binI_mod, binI_shr, cmpG_int, cmpB_lt, cmpB_le, cmpB_gt, cmpB_ge, cmpB_eq, cmpB_ne, cmpB_eqB, truthD_bl, truthD_int, truthD_non, truthD_tup, get_tup, get_rol, bi_len_tup, bi_len_rol, bi_int_int, bi_int_bl, bi_abs, asgP_name, op_ite, opL_some, get_ref, set_ref, bi_len_ref, bi_tuple_ref, bi_tuple_tup, bi_list_ref, bi_list_tup, bi_sum_ref, bi_sum_tup, bi_all_ref, bi_any_ref, bi_max, bi_min, truthD_ref, trO_lst, atI_pos, ixN_pos, bi_isi, gM_cf, gM_gl, gM_fld, gM_mth, gM_opo, gM_opi, gM_opu, gM_eqo, gM_isi, gM_ist, gM_xfd, gM_xiz, gM_exm, gM_fuel, gM_hot0, gM_hot1, List.getElem?_cons_zero, List.getElem?_cons_succ, List.set_cons_zero, List.set_cons_succ, decide_eq_true_eq, Bool.true_eq_false, Bool.false_eq_true, if_true, if_false, ite_true, ite_false, reduceIte, Int.reduceLE, Int.reduceLT, Int.reduceNeg, Int.reduceToNat, Int.reduceEq, Int.reduceNe, List.length_cons, List.length_nil, Nat.reduceAdd, Nat.reduceSub, Nat.reduceLT, List.length_map, true_and, and_true, decide_true, decide_false, Bool.not_true, Bool.not_false, wss_cons, wss_nil, hz, Nat.reduceLeDiff]
    refine (great_ok D f1.st).imp fun r h2 ⟨f2, i, e, i0, i1⟩ => ?_
    subst e
    have hs2 := f2.st.lt
    try simp only [we_fold, wss_fold, wt_fold, we_non, we_bl, we_int, we_str, we_bty, we_var, we_glob, we_bin, we_un, wt_def, we_not, we_and, we_or, we_cmp, we_cmp2, we_ife, we_tup, we_lst, we_idx, we_sl, we_attr, we_call, we_make, we_meth, we_bi, we_bm, wes_nil, wes_cons, wo_none, wo_some, wi_e, wi_rng, we_lc, ws_expr, ws_ret, ws_retN, ws_pass, ws_brk, ws_cont, ws_asg, ws_sub, ws_fld, ws_aug, ws_iff, ws_for, ws_whl, ws_raise, ws_try, op_some, opD_some, br_some, binG_int, binI_add, binI_sub, binI_and, binI_or, binI_xor, binI_mod, binI_shr, cmpG_int, cmpB_lt, cmpB_le, cmpB_gt, cmpB_ge, cmpB_eq, cmpB_ne, cmpB_eqB, truthD_bl, truthD_int, truthD_non, truthD_tup, get_tup, get_rol, bi_len_tup, bi_len_rol, bi_int_int, bi_int_bl, bi_abs, asgP_name, op_ite, opL_some, get_ref, set_ref, bi_len_ref, bi_tuple_ref, bi_tuple_tup, bi_list_ref, bi_list_tup, bi_sum_ref, bi_sum_tup, bi_all_ref, bi_any_ref, bi_max, bi_min, truthD_ref, trO_lst, atI_pos, ixN_pos, bi_isi, gM_cf, gM_gl, gM_fld, gM_mth, gM_opo, gM_opi, gM_opu, gM_eqo, gM_isi, gM_ist, gM_xfd, gM_xiz, gM_exm, gM_fuel, gM_hot0, gM_hot1, List.getElem?_cons_zero, List.getElem?_cons_succ, List.set_cons_zero, List.set_cons_succ, decide_eq_true_eq, Bool.true_eq_false, Bool.false_eq_true, if_true, if_false, ite_true, ite_false, reduceIte, Int.reduceLE, Int.reduceLT, Int.reduceNeg, Int.reduceToNat, Int.reduceEq, Int.reduceNe, List.length_cons, List.length_nil, Nat.reduceAdd, Nat.reduceSub, Nat.reduceLT, List.length_map, true_and, and_true, decide_true, decide_false, Bool.not_true, Bool.not_false, wss_cons, wss_nil, hz, Nat.reduceLeDiff]
    refine (pick_ok D (f2.st.fr (Keep.app _ _)).st (a := h2.length) (app_at _ _) (List.cons_ne_nil _ _) (by simp only [List.length_cons, List.length_nil]; omega) (by omega)).imp fun r h3 ⟨f3, hv⟩ => ?_
    refine ⟨((f1.trans f2).trans (f2.st.fr (Keep.app _ _))).trans f3, ?_⟩
    simp only [List.mem_cons, List.not_mem_nil, or_false] at hv
    rcases hv with rfl | rfl | rfl | rfl | rfl
    · exact ⟨_, rfl, cnt_of (by omega) (by omega)⟩
    · exact ⟨_, rfl, cnt_of (by omega) (by omega)⟩
    · exact ⟨_, rfl, cnt_of (by omega) (by omega)⟩
    · exact ⟨_, rfl, cnt_of (by omega) (by omega)⟩
    · refine ⟨_, rfl, by omega, ?_⟩
      have h9 : (2 : Int) ^ 400 < 2 ^ 1000 := by decide +kernel
      have : ((2 ^ 1000 : Nat) : Int) = 2 ^ 1000 := by simp
      omega
  | false =>
    try simp only [we_fold, wss_fold, wt_fold, we_non, we_bl, we_int, we_str, we_bty, we_var, we_glob, we_bin, we_un, wt_def, we_not, we_and, we_or, we_cmp, we_cmp2, we_ife, we_tup, we_lst, we_idx, we_sl, we_attr, we_call, we_make, we_meth, we_bi, we_bm, wes_nil, wes_cons, wo_none, wo_some, wi_e, wi_rng, we_lc, ws_expr, ws_ret, ws_retN, ws_pass, ws_brk, ws_cont, ws_asg, ws_sub, ws_fld, ws_aug, ws_iff, ws_for, ws_whl, ws_raise, ws_try, op_some, opD_some, br_some, binG_int, binI_add, binI_sub, binI_and, binI_or, binI_xor, binI_mod, binI_shr, cmpG_int, cmpB_lt, cmpB_le, cmpB_gt, cmpB_ge, cmpB_eq, cmpB_ne, cmpB_eqB, truthD_bl, truthD_int, truthD_non, truthD_tup, get_tup, get_rol, bi_len_tup, bi_len_rol, bi_int_int, bi_int_bl, bi_abs, asgP_name, op_ite, opL_some, get_ref, set_ref, bi_len_ref, bi_tuple_ref, bi_tuple_tup, bi_list_ref, bi_list_tup, bi_sum_ref, bi_sum_tup, bi_all_ref, bi_any_ref, bi_max, bi_min, truthD_ref, trO_lst, atI_pos, ixN_pos, bi_isi, gM_cf, gM_gl, gM_fld, gM_mth, gM_opo, gM_opi, gM_opu, gM_eqo, gM_isi, gM_ist, gM_xfd, gM_xiz, gM_exm, gM_fuel, gM_hot0, gM_hot1, List.getElem?_cons_zero, List.getElem?_cons_succ, List.set_cons_zero, List.set_cons_succ, decide_eq_true_eq, Bool.true_eq_false, Bool.false_eq_true, if_true, if_false, ite_true, ite_false, reduceIte, Int.reduceLE, Int.reduceLT, Int.reduceNeg, Int.reduceToNat, Int.reduceEq, Int.reduceNe, List.length_cons, List.length_nil, Nat.reduceAdd, Nat.reduceSub, Nat.reduceLT, List.length_map, true_and, and_true, decide_true, decide_false, Bool.not_true, Bool.not_false, wss_nil]
    rw [wss_cons]
    try simp only [we_fold, wss_fold, wt_fold, we_non, we_bl, we_int, we_str, we_bty, we_var, we_glob, we_bin, we_un, wt_def, we_not, we_and, we_or, we_cmp, we_cmp2, we_ife, we_tup, we_lst, we_idx, we_sl, we_attr, we_call, we_make, we_meth, we_bi, we_bm, wes_nil, wes_cons, wo_none, wo_some, wi_e, wi_rng, we_lc, ws_expr, ws_ret, ws_retN, ws_pass, ws_brk, ws_cont, ws_asg, ws_sub, ws_fld, ws_aug, ws_iff, ws_for, ws_whl, ws_raise, ws_try, op_some, opD_some, br_some, binG_int, binI_add, binI_sub, binI_and, binI_or, binI_xor, binI_mod, binI_shr, cmpG_int, cmpB_lt, cmpB_le, cmpB_gt, cmpB_ge, cmpB_eq, cmpB_ne, cmpB_eqB, truthD_bl, truthD_int, truthD_non, truthD_tup, get_tup, get_rol, bi_len_tup, bi_len_rol, bi_int_int, bi_int_bl, bi_abs, asgP_name, op_ite, opL_some, get_ref, set_ref, bi_len_ref, bi_tuple_ref, bi_tuple_tup, bi_list_ref, bi_list_tup, bi_sum_ref, bi_sum_tup, bi_all_ref, bi_any_ref, bi_max, bi_min, truthD_ref, trO_lst, atI_pos, ixN_pos, bi_isi, gM_cf, gM_gl, gM_fld, gM_mth, gM_opo, gM_opi, gM_opu, gM_eqo, gM_isi, gM_ist, gM_xfd, gM_xiz, gM_exm, gM_fuel, gM_hot0, gM_hot1, List.getElem?_cons_zero, List.getElem?_cons_succ, List.set_cons_zero, List.set_cons_succ, decide_eq_true_eq, Bool.true_eq_false, Bool.false_eq_true, if_true, if_false, ite_true, ite_false, reduceIte, Int.reduceLE, Int.reduceLT, Int.reduceNeg, Int.reduceToNat, Int.reduceEq, Int.reduceNe, List.length_cons, List.length_nil, Nat.reduceAdd, Nat.reduceSub, Nat.reduceLT, List.length_map, true_and, and_true, decide_true, decide_false, Bool.not_true, Bool.not_false]
    refine (chance_ok D.toDraws f1.st _ (by omega)).imp fun r h2 ⟨f2, b, e⟩ => ?_
    subst e
    have hs2 := f2.st.lt
    cases b with
    | true =>
      try simp only [we_fold, wss_fold, wt_fold, we_non, we_bl, we_int, we_str, we_bty, we_var, we_glob, we_bin, we_un, wt_def, we_not, we_and, we_or, we_cmp, we_cmp2, we_ife, we_tup, we_lst, we_idx, we_sl, we_attr, we_call, we_make, we_meth, we_bi, we_bm, wes_nil, wes_cons, wo_none, wo_some, wi_e, wi_rng, we_lc, ws_expr, ws_ret, ws_retN, ws_pass, ws_brk, ws_cont, ws_asg, ws_sub, ws_fld, ws_aug, ws_iff, ws_for, ws_whl, ws_raise, ws_try, op_some, opD_some, br_some, binG_int, binI_add, binI_sub, binI_and, binI_or, binI_xor, binI_mod, binI_shr, cmpG_int, cmpB_lt, cmpB_le, cmpB_gt, cmpB_ge, cmpB_eq, cmpB_ne, cmpB_eqB, truthD_bl, truthD_int, truthD_non, truthD_tup, get_tup, get_rol, bi_len_tup, bi_len_rol, bi_int_int, bi_int_bl, bi_abs, asgP_name, op_ite, opL_some, get_ref, set_ref, bi_len_ref, bi_tuple_ref, bi_tuple_tup, bi_list_ref, bi_list_tup, bi_sum_ref, bi_sum_tup, bi_all_ref, bi_any_ref, bi_max, bi_min, truthD_ref, trO_lst, atI_pos, ixN_pos, bi_isi, gM_cf, gM_gl, gM_fld, gM_mth, gM_opo, gM_opi, gM_opu, gM_eqo, gM_isi, gM_ist, gM_xfd, gM_xiz, gM_exm, gM_fuel, gM_hot0, gM_hot1, List.getElem?_cons_zero, List.getElem?_cons_succ, List.set_cons_zero, List.set_cons_succ, decide_eq_true_eq, Bool.true_eq_false, Bool.false_eq_true, if_true, if_false, ite_true, ite_false, reduceIte, Int.reduceLE, Int.reduceLT, Int.reduceNeg, Int.reduceToNat, Int.reduceEq, Int.reduceNe, List.length_cons, List.length_nil, Nat.reduceAdd, Nat.reduceSub, Nat.reduceLT, List.length_map, true_and, and_true, decide_true, decide_false, Bool.not_true, Bool.not_false, wss_cons, wss_nil, hz, Nat.reduceLeDiff]
      refine (pick_ok D (f2.st.fr (Keep.app _ _)).st (a := h2.length) (app_at _ _) (List.cons_ne_nil _ _) (by simp only [List.length_cons, List.length_nil]; omega) (by omega)).imp fun r h3 ⟨f3, hv⟩ => ?_
      refine ⟨((f1.trans f2).trans (f2.st.fr (Keep.app _ _))).trans f3, ?_⟩
      simp only [List.mem_cons, List.not_mem_nil, or_false] at hv
      rcases hv with rfl | rfl | rfl | rfl | rfl | rfl | rfl | rfl
      · exact ⟨_, rfl, cnt_of (by omega) (by omega)⟩
      · exact ⟨_, rfl, cnt_of (by omega) (by omega)⟩
      · exact ⟨_, rfl, cnt_of (by split <;> omega) (by split <;> omega)⟩
      · exact ⟨_, rfl, cnt_of (by omega) (by omega)⟩
      · exact ⟨_, rfl, cnt_of (by omega) (by omega)⟩
      · exact ⟨_, rfl, cnt_of (by omega) (by omega)⟩
      · exact ⟨_, rfl, cnt_of (by omega) (by omega)⟩
      · exact ⟨_, rfl, cnt_of (by omega) (by omega)⟩
    | false =>
      try simp only [we_fold, wss_fold, wt_fold, we_non, we_bl, we_int, we_str, we_bty, we_var, we_glob, we_bin, we_un, wt_def, we_not, we_and, we_or, we_cmp, we_cmp2, we_ife, we_tup, we_lst, we_idx, we_sl, we_attr, we_call, we_make, we_meth, we_bi, we_bm, wes_nil, wes_cons, wo_none, wo_some, wi_e, wi_rng, we_lc, ws_expr, ws_ret, ws_retN, ws_pass, ws_brk, ws_cont, ws_asg, ws_sub, ws_fld, ws_aug, ws_iff, ws_for, ws_whl, ws_raise, ws_try, op_some, opD_some, br_some, binG_int, binI_add, binI_sub, binI_and, binI_or, binI_xor, binI_mod, binI_shr, cmpG_int, cmpB_lt, cmpB_le, cmpB_gt, cmpB_ge, cmpB_eq, cmpB_ne, cmpB_eqB, truthD_bl, truthD_int, truthD_non, truthD_tup, get_tup, get_rol, bi_len_tup, bi_len_rol, bi_int_int, bi_int_bl, bi_abs, asgP_name, op_ite, opL_some, get_ref, set_ref, bi_len_ref, bi_tuple_ref, bi_tuple_tup, bi_list_ref, bi_list_tup, bi_sum_ref, bi_sum_tup, bi_all_ref, bi_any_ref, bi_max, bi_min, truthD_ref, trO_lst, atI_pos, ixN_pos, bi_isi, gM_cf, gM_gl, gM_fld, gM_mth, gM_opo, gM_opi, gM_opu, gM_eqo, gM_isi, gM_ist, gM_xfd, gM_xiz, gM_exm, gM_fuel, gM_hot0, gM_hot1, List.getElem?_cons_zero, List.getElem?_cons_succ, List.set_cons_zero, List.set_cons_succ, decide_eq_true_eq, Bool.true_eq_false, Bool.false_eq_true, if_true, if_false, ite_true, ite_false, reduceIte, Int.reduceLE, Int.reduceLT, Int.reduceNeg, Int.reduceToNat, Int.reduceEq, Int.reduceNe, List.length_cons, List.length_nil, Nat.reduceAdd, Nat.reduceSub, Nat.reduceLT, List.length_map, true_and, and_true, decide_true, decide_false, Bool.not_true, Bool.not_false, wss_cons, wss_nil, hz, Nat.reduceLeDiff]
      refine (take_ok D.toDraws f2.st _ (by omega)).imp fun r h3 ⟨f3, i, e, i0, i1⟩ => ?_
      subst e
      try simp only [we_fold, wss_fold, wt_fold, we_non, we_bl, we_int, we_str, we_bty, we_var, we_glob, we_bin, we_un, wt_def, we_not, we_and, we_or, we_cmp, we_cmp2, we_ife, we_tup, we_lst, we_idx, we_sl, we_attr, we_call, we_make, we_meth, we_bi, we_bm, wes_nil, wes_cons, wo_none, wo_some, wi_e, wi_rng, we_lc, ws_expr, ws_ret, ws_retN, ws_pass, ws_brk, ws_cont, ws_asg, ws_sub, ws_fld, ws_aug, ws_iff, ws_for, ws_whl, ws_raise, ws_try, op_some, opD_some, br_some, binG_int, binI_add, binI_sub, binI_and, binI_or, binI_xor, binI_mod, binI_shr, cmpG_int, cmpB_lt, cmpB_le, cmpB_gt, cmpB_ge, cmpB_eq, cmpB_ne, cmpB_eqB, truthD_bl, truthD_int, truthD_non, truthD_tup, get_tup, get_rol, bi_len_tup, bi_len_rol, bi_int_int, bi_int_bl, bi_abs, asgP_name, op_ite, opL_some, get_ref, set_ref, bi_len_ref, bi_tuple_ref, bi_tuple_tup, bi_list_ref, bi_list_tup, bi_sum_ref, bi_sum_tup, bi_all_ref, bi_any_ref, bi_max, bi_min, truthD_ref, trO_lst, atI_pos, ixN_pos, bi_isi, gM_cf, gM_gl, gM_fld, gM_mth, gM_opo, gM_opi, gM_opu, gM_eqo, gM_isi, gM_ist, gM_xfd, gM_xiz, gM_exm, gM_fuel, gM_hot0, gM_hot1, List.getElem?_cons_zero, List.getElem?_cons_succ, List.set_cons_zero, List.set_cons_succ, decide_eq_true_eq, Bool.true_eq_false, Bool.false_eq_true, if_true, if_false, ite_true, ite_false, reduceIte, Int.reduceLE, Int.reduceLT, Int.reduceNeg, Int.reduceToNat, Int.reduceEq, Int.reduceNe, List.length_cons, List.length_nil, Nat.reduceAdd, Nat.reduceSub, Nat.reduceLT, List.length_map, true_and, and_true, decide_true, decide_false, Bool.not_true, Bool.not_false, wss_cons, wss_nil, hz, Nat.reduceLeDiff]
      refine (take_ok D.toDraws f3.st _ (by omega)).imp fun r h4 ⟨f4, j, e, j0, j1⟩ => ?_
      subst e
      have hs4 := f4.st.lt
      try simp only [we_fold, wss_fold, wt_fold, we_non, we_bl, we_int, we_str, we_bty, we_var, we_glob, we_bin, we_un, wt_def, we_not, we_and, we_or, we_cmp, we_cmp2, we_ife, we_tup, we_lst, we_idx, we_sl, we_attr, we_call, we_make, we_meth, we_bi, we_bm, wes_nil, wes_cons, wo_none, wo_some, wi_e, wi_rng, we_lc, ws_expr, ws_ret, ws_retN, ws_pass, ws_brk, ws_cont, ws_asg, ws_sub, ws_fld, ws_aug, ws_iff, ws_for, ws_whl, ws_raise, ws_try, op_some, opD_some, br_some, binG_int, binI_add, binI_sub, binI_and, binI_or, binI_xor, binI_mod, binI_shr, cmpG_int, cmpB_lt, cmpB_le, cmpB_gt, cmpB_ge, cmpB_eq, cmpB_ne, cmpB_eqB, truthD_bl, truthD_int, truthD_non, truthD_tup, get_tup, get_rol, bi_len_tup, bi_len_rol, bi_int_int, bi_int_bl, bi_abs, asgP_name, op_ite, opL_some, get_ref, set_ref, bi_len_ref, bi_tuple_ref, bi_tuple_tup, bi_list_ref, bi_list_tup, bi_sum_ref, bi_sum_tup, bi_all_ref, bi_any_ref, bi_max, bi_min, truthD_ref, trO_lst, atI_pos, ixN_pos, bi_isi, gM_cf, gM_gl, gM_fld, gM_mth, gM_opo, gM_opi, gM_opu, gM_eqo, gM_isi, gM_ist, gM_xfd, gM_xiz, gM_exm, gM_fuel, gM_hot0, gM_hot1, List.getElem?_cons_zero, List.getElem?_cons_succ, List.set_cons_zero, List.set_cons_succ, decide_eq_true_eq, Bool.true_eq_false, Bool.false_eq_true, if_true, if_false, ite_true, ite_false, reduceIte, Int.reduceLE, Int.reduceLT, Int.reduceNeg, Int.reduceToNat, Int.reduceEq, Int.reduceNe, List.length_cons, List.length_nil, Nat.reduceAdd, Nat.reduceSub, Nat.reduceLT, List.length_map, true_and, and_true, decide_true, decide_false, Bool.not_true, Bool.not_false, wss_cons, wss_nil, hz, Nat.reduceLeDiff]
      refine (pick_ok D (f4.st.fr (Keep.app _ _)).st (a := h4.length) (app_at _ _) (List.cons_ne_nil _ _) (by simp only [List.length_cons, List.length_nil]; omega) (by omega)).imp fun r h5 ⟨f5, hv⟩ => ?_
      refine ⟨((((f1.trans f2).trans f3).trans f4).trans (f4.st.fr (Keep.app _ _))).trans f5, ?_⟩
      simp only [List.mem_cons, List.not_mem_nil, or_false] at hv
      rcases hv with rfl | rfl
      · exact ⟨_, rfl, cnt_of (by omega) (by omega)⟩
      · exact ⟨_, rfl, cnt_of (by omega) (by omega)⟩
theorem shifted_ok (K : K01 T gb) (p : Wrd h a w x) (n0 : 0 ≤ n) (n1 : n ≤ 100000) : (cal T gb none (k + 5) ("_law_shifted", none) [.ref a, .int n, .bl up] h).wp (GiveW h w (shv up w x n)) X := by
  refine cal_wp K.shifted rfl ?_
  cases up with
  | true =>
    simp only [f__law_shifted, we_fold, wss_fold, wt_fold, we_non, we_bl, we_int, we_str, we_bty, we_var, we_glob, we_bin, we_un, wt_def, we_not, we_and, we_or, we_cmp, we_cmp2, we_ife, we_tup, we_lst, we_idx, we_sl, we_attr, we_call, we_make, we_meth, we_bi, we_bm, wes_nil, wes_cons, wo_none, wo_some, wi_e, wi_rng, we_lc, ws_expr, ws_ret, ws_retN, ws_pass, ws_brk, ws_cont, ws_asg, ws_sub, ws_fld, ws_aug, ws_iff, ws_for, ws_whl, ws_raise, ws_try, op_some, opD_some, br_some, binG_int, binI_add, binI_sub, binI_and, binI_or, binI_xor, binI_mod, binI_shr, cmpG_int, cmpB_lt, cmpB_le, cmpB_gt, cmpB_ge, cmpB_eq, cmpB_ne, cmpB_eqB, truthD_bl, truthD_int, truthD_non, truthD_tup, get_tup, get_rol, bi_len_tup, bi_len_rol, bi_int_int, bi_int_bl, bi_abs, asgP_name, op_ite, opL_some, get_ref, set_ref, bi_len_ref, bi_tuple_ref, bi_tuple_tup, bi_list_ref, bi_list_tup, bi_sum_ref, bi_sum_tup, bi_all_ref, bi_any_ref, bi_max, bi_min, truthD_ref, trO_lst, atI_pos, ixN_pos, bi_isi, gM_cf, gM_gl, gM_fld, gM_mth, gM_opo, gM_opi, gM_opu, gM_eqo, gM_isi, gM_ist, gM_xfd, gM_xiz, gM_exm, gM_fuel, gM_hot0, gM_hot1, List.getElem?_cons_zero, List.getElem?_cons_succ, List.set_cons_zero, List.set_cons_succ, decide_eq_true_eq, Bool.true_eq_false, Bool.false_eq_true, if_true, if_false, ite_true, ite_false, reduceIte, Int.reduceLE, Int.reduceLT, Int.reduceNeg, Int.reduceToNat, Int.reduceEq, Int.reduceNe, List.length_cons, List.length_nil, Nat.reduceAdd, Nat.reduceSub, Nat.reduceLT, List.length_map, true_and, and_true, decide_true, decide_false, Bool.not_true, Bool.not_false, wss_cons, wss_nil, List.map_cons, List.map_nil, List.replicate, List.cons_append, List.nil_append]
    rw [bin_ownI K.w p (nm := "__lshift__") rfl K.w.o_lsh]
    exact lsh_ok K.w p n0 n1
  | false =>
    simp only [f__law_shifted, we_fold, wss_fold, wt_fold, we_non, we_bl, we_int, we_str, we_bty, we_var, we_glob, we_bin, we_un, wt_def, we_not, we_and, we_or, we_cmp, we_cmp2, we_ife, we_tup, we_lst, we_idx, we_sl, we_attr, we_call, we_make, we_meth, we_bi, we_bm, wes_nil, wes_cons, wo_none, wo_some, wi_e, wi_rng, we_lc, ws_expr, ws_ret, ws_retN, ws_pass, ws_brk, ws_cont, ws_asg, ws_sub, ws_fld, ws_aug, ws_iff, ws_for, ws_whl, ws_raise, ws_try, op_some, opD_some, br_some, binG_int, binI_add, binI_sub, binI_and, binI_or, binI_xor, binI_mod, binI_shr, cmpG_int, cmpB_lt, cmpB_le, cmpB_gt, cmpB_ge, cmpB_eq, cmpB_ne, cmpB_eqB, truthD_bl, truthD_int, truthD_non, truthD_tup, get_tup, get_rol, bi_len_tup, bi_len_rol, bi_int_int, bi_int_bl, bi_abs, asgP_name, op_ite, opL_some, get_ref, set_ref, bi_len_ref, bi_tuple_ref, bi_tuple_tup, bi_list_ref, bi_list_tup, bi_sum_ref, bi_sum_tup, bi_all_ref, bi_any_ref, bi_max, bi_min, truthD_ref, trO_lst, atI_pos, ixN_pos, bi_isi, gM_cf, gM_gl, gM_fld, gM_mth, gM_opo, gM_opi, gM_opu, gM_eqo, gM_isi, gM_ist, gM_xfd, gM_xiz, gM_exm, gM_fuel, gM_hot0, gM_hot1, List.getElem?_cons_zero, List.getElem?_cons_succ, List.set_cons_zero, List.set_cons_succ, decide_eq_true_eq, Bool.true_eq_false, Bool.false_eq_true, if_true, if_false, ite_true, ite_false, reduceIte, Int.reduceLE, Int.reduceLT, Int.reduceNeg, Int.reduceToNat, Int.reduceEq, Int.reduceNe, List.length_cons, List.length_nil, Nat.reduceAdd, Nat.reduceSub, Nat.reduceLT, List.length_map, true_and, and_true, decide_true, decide_false, Bool.not_true, Bool.not_false, wss_cons, wss_nil, List.map_cons, List.map_nil, List.replicate, List.cons_append, List.nil_append]
    rw [bin_ownI K.w p (nm := "__rshift__") rfl K.w.o_rsh]
    exact rsh_ok K.w p n0
theorem shifted_bad (K : K01 T gb) (p : Wrd h a w x) (n0 : n < 0) (bn : n.natAbs < 2 ^ 1000) {Q : Ip.D → Hs → Prop} (z : X "BadIndex" (some [("index", .int n)]) h) : (cal T gb none (k + 5) ("_law_shifted", none) [.ref a, .int n, .bl up] h).wp Q X := by
  obtain ⟨o1, o2⟩ := sh_bad (k := k) (a := a) (Q := Q) K.w n0 bn z
  refine cal_wp K.shifted rfl ?_
  cases up with
  | true =>
    simp only [f__law_shifted, we_fold, wss_fold, wt_fold, we_non, we_bl, we_int, we_str, we_bty, we_var, we_glob, we_bin, we_un, wt_def, we_not, we_and, we_or, we_cmp, we_cmp2, we_ife, we_tup, we_lst, we_idx, we_sl, we_attr, we_call, we_make, we_meth, we_bi, we_bm, wes_nil, wes_cons, wo_none, wo_some, wi_e, wi_rng, we_lc, ws_expr, ws_ret, ws_retN, ws_pass, ws_brk, ws_cont, ws_asg, ws_sub, ws_fld, ws_aug, ws_iff, ws_for, ws_whl, ws_raise, ws_try, op_some, opD_some, br_some, binG_int, binI_add, binI_sub, binI_and, binI_or, binI_xor, binI_mod, binI_shr, cmpG_int, cmpB_lt, cmpB_le, cmpB_gt, cmpB_ge, cmpB_eq, cmpB_ne, cmpB_eqB, truthD_bl, truthD_int, truthD_non, truthD_tup, get_tup, get_rol, bi_len_tup, bi_len_rol, bi_int_int, bi_int_bl, bi_abs, asgP_name, op_ite, opL_some, get_ref, set_ref, bi_len_ref, bi_tuple_ref, bi_tuple_tup, bi_list_ref, bi_list_tup, bi_sum_ref, bi_sum_tup, bi_all_ref, bi_any_ref, bi_max, bi_min, truthD_ref, trO_lst, atI_pos, ixN_pos, bi_isi, gM_cf, gM_gl, gM_fld, gM_mth, gM_opo, gM_opi, gM_opu, gM_eqo, gM_isi, gM_ist, gM_xfd, gM_xiz, gM_exm, gM_fuel, gM_hot0, gM_hot1, List.getElem?_cons_zero, List.getElem?_cons_succ, List.set_cons_zero, List.set_cons_succ, decide_eq_true_eq, Bool.true_eq_false, Bool.false_eq_true, if_true, if_false, ite_true, ite_false, reduceIte, Int.reduceLE, Int.reduceLT, Int.reduceNeg, Int.reduceToNat, Int.reduceEq, Int.reduceNe, List.length_cons, List.length_nil, Nat.reduceAdd, Nat.reduceSub, Nat.reduceLT, List.length_map, true_and, and_true, decide_true, decide_false, Bool.not_true, Bool.not_false, wss_cons, wss_nil, List.map_cons, List.map_nil, List.replicate, List.cons_append, List.nil_append]
    rw [bin_ownI K.w p (nm := "__lshift__") rfl K.w.o_lsh]
    exact o1
  | false =>
    simp only [f__law_shifted, we_fold, wss_fold, wt_fold, we_non, we_bl, we_int, we_str, we_bty, we_var, we_glob, we_bin, we_un, wt_def, we_not, we_and, we_or, we_cmp, we_cmp2, we_ife, we_tup, we_lst, we_idx, we_sl, we_attr, we_call, we_make, we_meth, we_bi, we_bm, wes_nil, wes_cons, wo_none, wo_some, wi_e, wi_rng, we_lc, ws_expr, ws_ret, ws_retN, ws_pass, ws_brk, ws_cont, ws_asg, ws_sub, ws_fld, ws_aug, ws_iff, ws_for, ws_whl, ws_raise, ws_try, op_some, opD_some, br_some, binG_int, binI_add, binI_sub, binI_and, binI_or, binI_xor, binI_mod, binI_shr, cmpG_int, cmpB_lt, cmpB_le, cmpB_gt, cmpB_ge, cmpB_eq, cmpB_ne, cmpB_eqB, truthD_bl, truthD_int, truthD_non, truthD_tup, get_tup, get_rol, bi_len_tup, bi_len_rol, bi_int_int, bi_int_bl, bi_abs, asgP_name, op_ite, opL_some, get_ref, set_ref, bi_len_ref, bi_tuple_ref, bi_tuple_tup, bi_list_ref, bi_list_tup, bi_sum_ref, bi_sum_tup, bi_all_ref, bi_any_ref, bi_max, bi_min, truthD_ref, trO_lst, atI_pos, ixN_pos, bi_isi, gM_cf, gM_gl, gM_fld, gM_mth, gM_opo, gM_opi, gM_opu, gM_eqo, gM_isi, gM_ist, gM_xfd, gM_xiz, gM_exm, gM_fuel, gM_hot0, gM_hot1, List.getElem?_cons_zero, List.getElem?_cons_succ, List.set_cons_zero, List.set_cons_succ, decide_eq_true_eq, Bool.true_eq_false, Bool.false_eq_true, if_true, if_false, ite_true, ite_false, reduceIte, Int.reduceLE, Int.reduceLT, Int.reduceNeg, Int.reduceToNat, Int.reduceEq, Int.reduceNe, List.length_cons, List.length_nil, Nat.reduceAdd, Nat.reduceSub, Nat.reduceLT, List.length_map, true_and, and_true, decide_true, decide_false, Bool.not_true, Bool.not_false, wss_cons, wss_nil, List.map_cons, List.map_nil, List.replicate, List.cons_append, List.nil_append]
    rw [bin_ownI K.w p (nm := "__rshift__") rfl K.w.o_rsh]
    exact o2
theorem bit_ok (K : K01 T gb) (x w n : Int) : (cal T gb none (k + 1) ("_law_bit", none) [.int x, .int w, .int n] h).wp (fun r h' => h' = h ∧ r = .int (bitAt x w n)) X := by
  refine cal_wp K.bit rfl ?_
  unfold bitAt
  by_cases a1 : 0 ≤ n
  · by_cases a2 : n < w
    · simp only [f__law_bit, we_fold, wss_fold, wt_fold, we_non, we_bl, we_int, we_str, we_bty, we_var, we_glob, we_bin, we_un, wt_def, we_not, we_and, we_or, we_cmp, we_cmp2, we_ife, we_tup, we_lst, we_idx, we_sl, we_attr, we_call, we_make, we_meth, we_bi, we_bm, wes_nil, wes_cons, wo_none, wo_some, wi_e, wi_rng, we_lc, ws_expr, ws_ret, ws_retN, ws_pass, ws_brk, ws_cont, ws_asg, ws_sub, ws_fld, ws_aug, ws_iff, ws_for, ws_whl, ws_raise, ws_try, op_some, opD_some, br_some, binG_int, binI_add, binI_sub, binI_and, binI_or, binI_xor, binI_mod, binI_shr, cmpG_int, cmpB_lt, cmpB_le, cmpB_gt, cmpB_ge, cmpB_eq, cmpB_ne, cmpB_eqB, truthD_bl, truthD_int, truthD_non, truthD_tup, get_tup, get_rol, bi_len_tup, bi_len_rol, bi_int_int, bi_int_bl, bi_abs, asgP_name, op_ite, opL_some, get_ref, set_ref, bi_len_ref, bi_tuple_ref, bi_tuple_tup, bi_list_ref, bi_list_tup, bi_sum_ref, bi_sum_tup, bi_all_ref, bi_any_ref, bi_max, bi_min, truthD_ref, trO_lst, atI_pos, ixN_pos, bi_isi, gM_cf, gM_gl, gM_fld, gM_mth, gM_opo, gM_opi, gM_opu, gM_eqo, gM_isi, gM_ist, gM_xfd, gM_xiz, gM_exm, gM_fuel, gM_hot0, gM_hot1, List.getElem?_cons_zero, List.getElem?_cons_succ, List.set_cons_zero, List.set_cons_succ, decide_eq_true_eq, Bool.true_eq_false, Bool.false_eq_true, if_true, if_false, ite_true, ite_false, reduceIte, Int.reduceLE, Int.reduceLT, Int.reduceNeg, Int.reduceToNat, Int.reduceEq, Int.reduceNe, List.length_cons, List.length_nil, Nat.reduceAdd, Nat.reduceSub, Nat.reduceLT, List.length_map, true_and, and_true, decide_true, decide_false, Bool.not_true, Bool.not_false, wss_cons, wss_nil, List.map_cons, List.map_nil, List.replicate, List.cons_append, List.nil_append, cmpop_wp, a1, a2, decide_true, Bool.not_true, PyProof.Rows.bitAnd_m1, and_self]
    · simp only [f__law_bit, we_fold, wss_fold, wt_fold, we_non, we_bl, we_int, we_str, we_bty, we_var, we_glob, we_bin, we_un, wt_def, we_not, we_and, we_or, we_cmp, we_cmp2, we_ife, we_tup, we_lst, we_idx, we_sl, we_attr, we_call, we_make, we_meth, we_bi, we_bm, wes_nil, wes_cons, wo_none, wo_some, wi_e, wi_rng, we_lc, ws_expr, ws_ret, ws_retN, ws_pass, ws_brk, ws_cont, ws_asg, ws_sub, ws_fld, ws_aug, ws_iff, ws_for, ws_whl, ws_raise, ws_try, op_some, opD_some, br_some, binG_int, binI_add, binI_sub, binI_and, binI_or, binI_xor, binI_mod, binI_shr, cmpG_int, cmpB_lt, cmpB_le, cmpB_gt, cmpB_ge, cmpB_eq, cmpB_ne, cmpB_eqB, truthD_bl, truthD_int, truthD_non, truthD_tup, get_tup, get_rol, bi_len_tup, bi_len_rol, bi_int_int, bi_int_bl, bi_abs, asgP_name, op_ite, opL_some, get_ref, set_ref, bi_len_ref, bi_tuple_ref, bi_tuple_tup, bi_list_ref, bi_list_tup, bi_sum_ref, bi_sum_tup, bi_all_ref, bi_any_ref, bi_max, bi_min, truthD_ref, trO_lst, atI_pos, ixN_pos, bi_isi, gM_cf, gM_gl, gM_fld, gM_mth, gM_opo, gM_opi, gM_opu, gM_eqo, gM_isi, gM_ist, gM_xfd, gM_xiz, gM_exm, gM_fuel, gM_hot0, gM_hot1, List.getElem?_cons_zero, List.getElem?_cons_succ, List.set_cons_zero, List.set_cons_succ, decide_eq_true_eq, Bool.true_eq_false, Bool.false_eq_true, if_true, if_false, ite_true, ite_false, reduceIte, Int.reduceLE, Int.reduceLT, Int.reduceNeg, Int.reduceToNat, Int.reduceEq, Int.reduceNe, List.length_cons, List.length_nil, Nat.reduceAdd, Nat.reduceSub, Nat.reduceLT, List.length_map, true_and, and_true, decide_true, decide_false, Bool.not_true, Bool.not_false, wss_cons, wss_nil, List.map_cons, List.map_nil, List.replicate, List.cons_append, List.nil_append, cmpop_wp, a1, a2, decide_true, decide_false, Bool.not_false, and_false]
  · simp only [f__law_bit, we_fold, wss_fold, wt_fold, we_non, we_bl, we_int, we_str, we_bty, we_var, we_glob, we_bin, we_un, wt_def, we_not, we_and, we_or, we_cmp, we_cmp2, we_ife, we_tup, we_lst, we_idx, we_sl, we_attr, we_call, we_make, we_meth, we_bi, we_bm, wes_nil, wes_cons, wo_none, wo_some, wi_e, wi_rng, we_lc, ws_expr, ws_ret, ws_retN, ws_pass, ws_brk, ws_cont, ws_asg, ws_sub, ws_fld, ws_aug, ws_iff, ws_for, ws_whl, ws_raise, ws_try, op_some, opD_some, br_some, binG_int, binI_add, binI_sub, binI_and, binI_or, binI_xor, binI_mod, binI_shr, cmpG_int, cmpB_lt, cmpB_le, cmpB_gt, cmpB_ge, cmpB_eq, cmpB_ne, cmpB_eqB, truthD_bl, truthD_int, truthD_non, truthD_tup, get_tup, get_rol, bi_len_tup, bi_len_rol, bi_int_int, bi_int_bl, bi_abs, asgP_name, op_ite, opL_some, get_ref, set_ref, bi_len_ref, bi_tuple_ref, bi_tuple_tup, bi_list_ref, bi_list_tup, bi_sum_ref, bi_sum_tup, bi_all_ref, bi_any_ref, bi_max, bi_min, truthD_ref, trO_lst, atI_pos, ixN_pos, bi_isi, gM_cf, gM_gl, gM_fld, gM_mth, gM_opo, gM_opi, gM_opu, gM_eqo, gM_isi, gM_ist, gM_xfd, gM_xiz, gM_exm, gM_fuel, gM_hot0, gM_hot1, List.getElem?_cons_zero, List.getElem?_cons_succ, List.set_cons_zero, List.set_cons_succ, decide_eq_true_eq, Bool.true_eq_false, Bool.false_eq_true, if_true, if_false, ite_true, ite_false, reduceIte, Int.reduceLE, Int.reduceLT, Int.reduceNeg, Int.reduceToNat, Int.reduceEq, Int.reduceNe, List.length_cons, List.length_nil, Nat.reduceAdd, Nat.reduceSub, Nat.reduceLT, List.length_map, true_and, and_true, decide_true, decide_false, Bool.not_true, Bool.not_false, wss_cons, wss_nil, List.map_cons, List.map_nil, List.replicate, List.cons_append, List.nil_append, cmpop_wp, a1, decide_true, decide_false, Bool.not_false, false_and]
theorem moved_ok (K : K01 T gb) (p : Wrd h a w v) (n : Int) (hb : ∀ i : Nat, i < w.toNat → v / 2 ^ i % 2 = bitAt x w (i + n)) : (cal T gb none (k + 3) ("_law_is_moved", none) [.ref a, .int w, .int x, .int n] h).wp (fun r h' => Kp0 h h' ∧ r = .bl true) X := by
  have W := K.w.w
  have D := K.s
  have hf := W.fuel
  have w0 := p.w0
  have w1 := p.w1
  refine cal_wp K.moved rfl ?_
  simp only [f__law_is_moved, we_fold, wss_fold, wt_fold, we_non, we_bl, we_int, we_str, we_bty, we_var, we_glob, we_bin, we_un, wt_def, we_not, we_and, we_or, we_cmp, we_cmp2, we_ife, we_tup, we_lst, we_idx, we_sl, we_attr, we_call, we_make, we_meth, we_bi, we_bm, wes_nil, wes_cons, wo_none, wo_some, wi_e, wi_rng, we_lc, ws_expr, ws_ret, ws_retN, ws_pass, ws_brk, ws_cont, ws_asg, ws_sub, ws_fld, ws_aug, ws_iff, ws_for, ws_whl, ws_raise, ws_try, op_some, opD_some, br_some, binG_int, binI_add, binI_sub, binI_and, binI_or, binI_xor, binI_mod, binI_shr, cmpG_int, cmpB_lt, cmpB_le, cmpB_gt, cmpB_ge, cmpB_eq, cmpB_ne, cmpB_eqB, truthD_bl, truthD_int, truthD_non, truthD_tup, get_tup, get_rol, bi_len_tup, bi_len_rol, bi_int_int, bi_int_bl, bi_abs, asgP_name, op_ite, opL_some, get_ref, set_ref, bi_len_ref, bi_tuple_ref, bi_tuple_tup, bi_list_ref, bi_list_tup, bi_sum_ref, bi_sum_tup, bi_all_ref, bi_any_ref, bi_max, bi_min, truthD_ref, trO_lst, atI_pos, ixN_pos, bi_isi, gM_cf, gM_gl, gM_fld, gM_mth, gM_opo, gM_opi, gM_opu, gM_eqo, gM_isi, gM_ist, gM_xfd, gM_xiz, gM_exm, gM_fuel, gM_hot0, gM_hot1, List.getElem?_cons_zero, List.getElem?_cons_succ, List.set_cons_zero, List.set_cons_succ, decide_eq_true_eq, Bool.true_eq_false, Bool.false_eq_true, if_true, if_false, ite_true, ite_false, reduceIte, Int.reduceLE, Int.reduceLT, Int.reduceNeg, Int.reduceToNat, Int.reduceEq, Int.reduceNe, List.length_cons, List.length_nil, Nat.reduceAdd, Nat.reduceSub, Nat.reduceLT, List.length_map, true_and, and_true, decide_true, decide_false, Bool.not_true, Bool.not_false, wss_cons, wss_nil, List.map_cons, List.map_nil, List.replicate, List.cons_append, List.nil_append, tyOf_non, tyOf_bl, tyOf_int, tyOf_str, tyOf_tup, tyOf_rol, isiD_ty, isiD_cls, isiD_tup, isiAny_nil, isiAny_t, isiAny_f, isCls_ty, isCls_cls, List.all_cons, List.all_nil, Bool.and_self, Bool.and_true, Option.bind_some, gH_isi, gH_gl, gH_ist, D.i_NoneType_list, D.i_NoneType_tuple, D.i_NoneType_dict, D.i_NoneType_bool, D.i_NoneType_int, D.i_NoneType_str, D.i_bool_list, D.i_bool_tuple, D.i_bool_dict, D.i_bool_bool, D.i_bool_int, D.i_bool_str, D.i_int_list, D.i_int_tuple, D.i_int_dict, D.i_int_bool, D.i_int_int, D.i_int_str, D.i_str_list, D.i_str_tuple, D.i_str_dict, D.i_str_bool, D.i_str_int, D.i_str_str, D.i_tuple_list, D.i_tuple_tuple, D.i_tuple_dict, D.i_tuple_bool, D.i_tuple_int, D.i_tuple_str, D.i_list_list, D.i_list_tuple, D.i_list_dict, D.i_list_bool, D.i_list_int, D.i_list_str, D.i_dict_list, D.i_dict_tuple, D.i_dict_dict, D.i_dict_bool, D.i_dict_int, D.i_dict_str, ty_word W p, W.gw, W.i_w, attr_w W p, attr_v W p, Bool.not_true]
  refine (same_int D _ _).imp fun r h1 ⟨e1, e2⟩ => ?_
  subst e1 e2
  try simp only [we_fold, wss_fold, wt_fold, we_non, we_bl, we_int, we_str, we_bty, we_var, we_glob, we_bin, we_un, wt_def, we_not, we_and, we_or, we_cmp, we_cmp2, we_ife, we_tup, we_lst, we_idx, we_sl, we_attr, we_call, we_make, we_meth, we_bi, we_bm, wes_nil, wes_cons, wo_none, wo_some, wi_e, wi_rng, we_lc, ws_expr, ws_ret, ws_retN, ws_pass, ws_brk, ws_cont, ws_asg, ws_sub, ws_fld, ws_aug, ws_iff, ws_for, ws_whl, ws_raise, ws_try, op_some, opD_some, br_some, binG_int, binI_add, binI_sub, binI_and, binI_or, binI_xor, binI_mod, binI_shr, cmpG_int, cmpB_lt, cmpB_le, cmpB_gt, cmpB_ge, cmpB_eq, cmpB_ne, cmpB_eqB, truthD_bl, truthD_int, truthD_non, truthD_tup, get_tup, get_rol, bi_len_tup, bi_len_rol, bi_int_int, bi_int_bl, bi_abs, asgP_name, op_ite, opL_some, get_ref, set_ref, bi_len_ref, bi_tuple_ref, bi_tuple_tup, bi_list_ref, bi_list_tup, bi_sum_ref, bi_sum_tup, bi_all_ref, bi_any_ref, bi_max, bi_min, truthD_ref, trO_lst, atI_pos, ixN_pos, bi_isi, gM_cf, gM_gl, gM_fld, gM_mth, gM_opo, gM_opi, gM_opu, gM_eqo, gM_isi, gM_ist, gM_xfd, gM_xiz, gM_exm, gM_fuel, gM_hot0, gM_hot1, List.getElem?_cons_zero, List.getElem?_cons_succ, List.set_cons_zero, List.set_cons_succ, decide_eq_true_eq, Bool.true_eq_false, Bool.false_eq_true, if_true, if_false, ite_true, ite_false, reduceIte, Int.reduceLE, Int.reduceLT, Int.reduceNeg, Int.reduceToNat, Int.reduceEq, Int.reduceNe, List.length_cons, List.length_nil, Nat.reduceAdd, Nat.reduceSub, Nat.reduceLT, List.length_map, true_and, and_true, decide_true, decide_false, Bool.not_true, Bool.not_false, wss_cons, wss_nil, attr_v W p, sm_true, Bool.not_true]
  refine (whole_int D _).imp fun r h1 ⟨e1, e2⟩ => ?_
  subst e1 e2
  try simp only [we_fold, wss_fold, wt_fold, we_non, we_bl, we_int, we_str, we_bty, we_var, we_glob, we_bin, we_un, wt_def, we_not, we_and, we_or, we_cmp, we_cmp2, we_ife, we_tup, we_lst, we_idx, we_sl, we_attr, we_call, we_make, we_meth, we_bi, we_bm, wes_nil, wes_cons, wo_none, wo_some, wi_e, wi_rng, we_lc, ws_expr, ws_ret, ws_retN, ws_pass, ws_brk, ws_cont, ws_asg, ws_sub, ws_fld, ws_aug, ws_iff, ws_for, ws_whl, ws_raise, ws_try, op_some, opD_some, br_some, binG_int, binI_add, binI_sub, binI_and, binI_or, binI_xor, binI_mod, binI_shr, cmpG_int, cmpB_lt, cmpB_le, cmpB_gt, cmpB_ge, cmpB_eq, cmpB_ne, cmpB_eqB, truthD_bl, truthD_int, truthD_non, truthD_tup, get_tup, get_rol, bi_len_tup, bi_len_rol, bi_int_int, bi_int_bl, bi_abs, asgP_name, op_ite, opL_some, get_ref, set_ref, bi_len_ref, bi_tuple_ref, bi_tuple_tup, bi_list_ref, bi_list_tup, bi_sum_ref, bi_sum_tup, bi_all_ref, bi_any_ref, bi_max, bi_min, truthD_ref, trO_lst, atI_pos, ixN_pos, bi_isi, gM_cf, gM_gl, gM_fld, gM_mth, gM_opo, gM_opi, gM_opu, gM_eqo, gM_isi, gM_ist, gM_xfd, gM_xiz, gM_exm, gM_fuel, gM_hot0, gM_hot1, List.getElem?_cons_zero, List.getElem?_cons_succ, List.set_cons_zero, List.set_cons_succ, decide_eq_true_eq, Bool.true_eq_false, Bool.false_eq_true, if_true, if_false, ite_true, ite_false, reduceIte, Int.reduceLE, Int.reduceLT, Int.reduceNeg, Int.reduceToNat, Int.reduceEq, Int.reduceNe, List.length_cons, List.length_nil, Nat.reduceAdd, Nat.reduceSub, Nat.reduceLT, List.length_map, true_and, and_true, decide_true, decide_false, Bool.not_true, Bool.not_false, wss_cons, wss_nil, attr_v W p, binI_shl1 w0 (show w ≤ 100000000 by omega), p.v0, p.v1, Bool.not_true, cmpop_wp, decide_true, wipeD, rngOf1 (show w < 4611686018427387904 by omega) (show -4611686018427387904 ≤ w by omega)]
  refine comp_range (f := fun _ => .bl true) (by omega) (by omega) (fun i hi => ?_) ?_
  · simp only [we_fold, wss_fold, wt_fold, we_non, we_bl, we_int, we_str, we_bty, we_var, we_glob, we_bin, we_un, wt_def, we_not, we_and, we_or, we_cmp, we_cmp2, we_ife, we_tup, we_lst, we_idx, we_sl, we_attr, we_call, we_make, we_meth, we_bi, we_bm, wes_nil, wes_cons, wo_none, wo_some, wi_e, wi_rng, we_lc, ws_expr, ws_ret, ws_retN, ws_pass, ws_brk, ws_cont, ws_asg, ws_sub, ws_fld, ws_aug, ws_iff, ws_for, ws_whl, ws_raise, ws_try, op_some, opD_some, br_some, binG_int, binI_add, binI_sub, binI_and, binI_or, binI_xor, binI_mod, binI_shr, cmpG_int, cmpB_lt, cmpB_le, cmpB_gt, cmpB_ge, cmpB_eq, cmpB_ne, cmpB_eqB, truthD_bl, truthD_int, truthD_non, truthD_tup, get_tup, get_rol, bi_len_tup, bi_len_rol, bi_int_int, bi_int_bl, bi_abs, asgP_name, op_ite, opL_some, get_ref, set_ref, bi_len_ref, bi_tuple_ref, bi_tuple_tup, bi_list_ref, bi_list_tup, bi_sum_ref, bi_sum_tup, bi_all_ref, bi_any_ref, bi_max, bi_min, truthD_ref, trO_lst, atI_pos, ixN_pos, bi_isi, gM_cf, gM_gl, gM_fld, gM_mth, gM_opo, gM_opi, gM_opu, gM_eqo, gM_isi, gM_ist, gM_xfd, gM_xiz, gM_exm, gM_fuel, gM_hot0, gM_hot1, List.getElem?_cons_zero, List.getElem?_cons_succ, List.set_cons_zero, List.set_cons_succ, decide_eq_true_eq, Bool.true_eq_false, Bool.false_eq_true, if_true, if_false, ite_true, ite_false, reduceIte, Int.reduceLE, Int.reduceLT, Int.reduceNeg, Int.reduceToNat, Int.reduceEq, Int.reduceNe, List.length_cons, List.length_nil, Nat.reduceAdd, Nat.reduceSub, Nat.reduceLT, List.length_map, true_and, and_true, decide_true, decide_false, Bool.not_true, Bool.not_false, wss_cons, wss_nil]
    refine (bit_ok K _ _ _).imp fun r h2 ⟨e1, e2⟩ => ?_
    subst e1 e2
    try simp only [we_fold, wss_fold, wt_fold, we_non, we_bl, we_int, we_str, we_bty, we_var, we_glob, we_bin, we_un, wt_def, we_not, we_and, we_or, we_cmp, we_cmp2, we_ife, we_tup, we_lst, we_idx, we_sl, we_attr, we_call, we_make, we_meth, we_bi, we_bm, wes_nil, wes_cons, wo_none, wo_some, wi_e, wi_rng, we_lc, ws_expr, ws_ret, ws_retN, ws_pass, ws_brk, ws_cont, ws_asg, ws_sub, ws_fld, ws_aug, ws_iff, ws_for, ws_whl, ws_raise, ws_try, op_some, opD_some, br_some, binG_int, binI_add, binI_sub, binI_and, binI_or, binI_xor, binI_mod, binI_shr, cmpG_int, cmpB_lt, cmpB_le, cmpB_gt, cmpB_ge, cmpB_eq, cmpB_ne, cmpB_eqB, truthD_bl, truthD_int, truthD_non, truthD_tup, get_tup, get_rol, bi_len_tup, bi_len_rol, bi_int_int, bi_int_bl, bi_abs, asgP_name, op_ite, opL_some, get_ref, set_ref, bi_len_ref, bi_tuple_ref, bi_tuple_tup, bi_list_ref, bi_list_tup, bi_sum_ref, bi_sum_tup, bi_all_ref, bi_any_ref, bi_max, bi_min, truthD_ref, trO_lst, atI_pos, ixN_pos, bi_isi, gM_cf, gM_gl, gM_fld, gM_mth, gM_opo, gM_opi, gM_opu, gM_eqo, gM_isi, gM_ist, gM_xfd, gM_xiz, gM_exm, gM_fuel, gM_hot0, gM_hot1, List.getElem?_cons_zero, List.getElem?_cons_succ, List.set_cons_zero, List.set_cons_succ, decide_eq_true_eq, Bool.true_eq_false, Bool.false_eq_true, if_true, if_false, ite_true, ite_false, reduceIte, Int.reduceLE, Int.reduceLT, Int.reduceNeg, Int.reduceToNat, Int.reduceEq, Int.reduceNe, List.length_cons, List.length_nil, Nat.reduceAdd, Nat.reduceSub, Nat.reduceLT, List.length_map, true_and, and_true, decide_true, decide_false, Bool.not_true, Bool.not_false, wss_cons, wss_nil]
    refine (bit_ok K _ _ _).imp fun r h2 ⟨e1, e2⟩ => ?_
    subst e1 e2
    have e : bitAt v w (i : Int) = bitAt x w (i + n) := by
      rw [← hb i hi]
      unfold bitAt
      rw [if_pos (by omega), Int.toNat_natCast]
    try simp only [we_fold, wss_fold, wt_fold, we_non, we_bl, we_int, we_str, we_bty, we_var, we_glob, we_bin, we_un, wt_def, we_not, we_and, we_or, we_cmp, we_cmp2, we_ife, we_tup, we_lst, we_idx, we_sl, we_attr, we_call, we_make, we_meth, we_bi, we_bm, wes_nil, wes_cons, wo_none, wo_some, wi_e, wi_rng, we_lc, ws_expr, ws_ret, ws_retN, ws_pass, ws_brk, ws_cont, ws_asg, ws_sub, ws_fld, ws_aug, ws_iff, ws_for, ws_whl, ws_raise, ws_try, op_some, opD_some, br_some, binG_int, binI_add, binI_sub, binI_and, binI_or, binI_xor, binI_mod, binI_shr, cmpG_int, cmpB_lt, cmpB_le, cmpB_gt, cmpB_ge, cmpB_eq, cmpB_ne, cmpB_eqB, truthD_bl, truthD_int, truthD_non, truthD_tup, get_tup, get_rol, bi_len_tup, bi_len_rol, bi_int_int, bi_int_bl, bi_abs, asgP_name, op_ite, opL_some, get_ref, set_ref, bi_len_ref, bi_tuple_ref, bi_tuple_tup, bi_list_ref, bi_list_tup, bi_sum_ref, bi_sum_tup, bi_all_ref, bi_any_ref, bi_max, bi_min, truthD_ref, trO_lst, atI_pos, ixN_pos, bi_isi, gM_cf, gM_gl, gM_fld, gM_mth, gM_opo, gM_opi, gM_opu, gM_eqo, gM_isi, gM_ist, gM_xfd, gM_xiz, gM_exm, gM_fuel, gM_hot0, gM_hot1, List.getElem?_cons_zero, List.getElem?_cons_succ, List.set_cons_zero, List.set_cons_succ, decide_eq_true_eq, Bool.true_eq_false, Bool.false_eq_true, if_true, if_false, ite_true, ite_false, reduceIte, Int.reduceLE, Int.reduceLT, Int.reduceNeg, Int.reduceToNat, Int.reduceEq, Int.reduceNe, List.length_cons, List.length_nil, Nat.reduceAdd, Nat.reduceSub, Nat.reduceLT, List.length_map, true_and, and_true, decide_true, decide_false, Bool.not_true, Bool.not_false, wss_cons, wss_nil, e, sm_true]
  · simp only [we_fold, wss_fold, wt_fold, we_non, we_bl, we_int, we_str, we_bty, we_var, we_glob, we_bin, we_un, wt_def, we_not, we_and, we_or, we_cmp, we_cmp2, we_ife, we_tup, we_lst, we_idx, we_sl, we_attr, we_call, we_make, we_meth, we_bi, we_bm, wes_nil, wes_cons, wo_none, wo_some, wi_e, wi_rng, we_lc, ws_expr, ws_ret, ws_retN, ws_pass, ws_brk, ws_cont, ws_asg, ws_sub, ws_fld, ws_aug, ws_iff, ws_for, ws_whl, ws_raise, ws_try, op_some, opD_some, br_some, binG_int, binI_add, binI_sub, binI_and, binI_or, binI_xor, binI_mod, binI_shr, cmpG_int, cmpB_lt, cmpB_le, cmpB_gt, cmpB_ge, cmpB_eq, cmpB_ne, cmpB_eqB, truthD_bl, truthD_int, truthD_non, truthD_tup, get_tup, get_rol, bi_len_tup, bi_len_rol, bi_int_int, bi_int_bl, bi_abs, asgP_name, op_ite, opL_some, get_ref, set_ref, bi_len_ref, bi_tuple_ref, bi_tuple_tup, bi_list_ref, bi_list_tup, bi_sum_ref, bi_sum_tup, bi_all_ref, bi_any_ref, bi_max, bi_min, truthD_ref, trO_lst, atI_pos, ixN_pos, bi_isi, gM_cf, gM_gl, gM_fld, gM_mth, gM_opo, gM_opi, gM_opu, gM_eqo, gM_isi, gM_ist, gM_xfd, gM_xiz, gM_exm, gM_fuel, gM_hot0, gM_hot1, List.getElem?_cons_zero, List.getElem?_cons_succ, List.set_cons_zero, List.set_cons_succ, decide_eq_true_eq, Bool.true_eq_false, Bool.false_eq_true, if_true, if_false, ite_true, ite_false, reduceIte, Int.reduceLE, Int.reduceLT, Int.reduceNeg, Int.reduceToNat, Int.reduceEq, Int.reduceNe, List.length_cons, List.length_nil, Nat.reduceAdd, Nat.reduceSub, Nat.reduceLT, List.length_map, true_and, and_true, decide_true, decide_false, Bool.not_true, Bool.not_false, wss_cons, wss_nil, app_at, bools_true, all_true]
    exact Keep.app _ _
theorem isw_ok (K : K01 T gb) (p : Wrd h a w x) : (cal T gb none (k + 3) ("_law_is_word", none) [.ref a, .int w, .int x] h).wp (fun r h' => h' = h ∧ r = .bl true) X := by
  have W := K.w.w
  have D := K.s
  refine cal_wp K.isw rfl ?_
  simp only [f__law_is_word, we_fold, wss_fold, wt_fold, we_non, we_bl, we_int, we_str, we_bty, we_var, we_glob, we_bin, we_un, wt_def, we_not, we_and, we_or, we_cmp, we_cmp2, we_ife, we_tup, we_lst, we_idx, we_sl, we_attr, we_call, we_make, we_meth, we_bi, we_bm, wes_nil, wes_cons, wo_none, wo_some, wi_e, wi_rng, we_lc, ws_expr, ws_ret, ws_retN, ws_pass, ws_brk, ws_cont, ws_asg, ws_sub, ws_fld, ws_aug, ws_iff, ws_for, ws_whl, ws_raise, ws_try, op_some, opD_some, br_some, binG_int, binI_add, binI_sub, binI_and, binI_or, binI_xor, binI_mod, binI_shr, cmpG_int, cmpB_lt, cmpB_le, cmpB_gt, cmpB_ge, cmpB_eq, cmpB_ne, cmpB_eqB, truthD_bl, truthD_int, truthD_non, truthD_tup, get_tup, get_rol, bi_len_tup, bi_len_rol, bi_int_int, bi_int_bl, bi_abs, asgP_name, op_ite, opL_some, get_ref, set_ref, bi_len_ref, bi_tuple_ref, bi_tuple_tup, bi_list_ref, bi_list_tup, bi_sum_ref, bi_sum_tup, bi_all_ref, bi_any_ref, bi_max, bi_min, truthD_ref, trO_lst, atI_pos, ixN_pos, bi_isi, gM_cf, gM_gl, gM_fld, gM_mth, gM_opo, gM_opi, gM_opu, gM_eqo, gM_isi, gM_ist, gM_xfd, gM_xiz, gM_exm, gM_fuel, gM_hot0, gM_hot1, List.getElem?_cons_zero, List.getElem?_cons_succ, List.set_cons_zero, List.set_cons_succ, decide_eq_true_eq, Bool.true_eq_false, Bool.false_eq_true, if_true, if_false, ite_true, ite_false, reduceIte, Int.reduceLE, Int.reduceLT, Int.reduceNeg, Int.reduceToNat, Int.reduceEq, Int.reduceNe, List.length_cons, List.length_nil, Nat.reduceAdd, Nat.reduceSub, Nat.reduceLT, List.length_map, true_and, and_true, decide_true, decide_false, Bool.not_true, Bool.not_false, wss_cons, wss_nil, List.map_cons, List.map_nil, List.replicate, List.cons_append, List.nil_append, tyOf_non, tyOf_bl, tyOf_int, tyOf_str, tyOf_tup, tyOf_rol, isiD_ty, isiD_cls, isiD_tup, isiAny_nil, isiAny_t, isiAny_f, isCls_ty, isCls_cls, List.all_cons, List.all_nil, Bool.and_self, Bool.and_true, Option.bind_some, gH_isi, gH_gl, gH_ist, D.i_NoneType_list, D.i_NoneType_tuple, D.i_NoneType_dict, D.i_NoneType_bool, D.i_NoneType_int, D.i_NoneType_str, D.i_bool_list, D.i_bool_tuple, D.i_bool_dict, D.i_bool_bool, D.i_bool_int, D.i_bool_str, D.i_int_list, D.i_int_tuple, D.i_int_dict, D.i_int_bool, D.i_int_int, D.i_int_str, D.i_str_list, D.i_str_tuple, D.i_str_dict, D.i_str_bool, D.i_str_int, D.i_str_str, D.i_tuple_list, D.i_tuple_tuple, D.i_tuple_dict, D.i_tuple_bool, D.i_tuple_int, D.i_tuple_str, D.i_list_list, D.i_list_tuple, D.i_list_dict, D.i_list_bool, D.i_list_int, D.i_list_str, D.i_dict_list, D.i_dict_tuple, D.i_dict_dict, D.i_dict_bool, D.i_dict_int, D.i_dict_str, ty_word W p, W.gw, W.i_w, attr_w W p, attr_v W p, Bool.not_true]
  refine (same_int D _ _).imp fun r h1 ⟨e1, e2⟩ => ?_
  subst e1 e2
  try simp only [we_fold, wss_fold, wt_fold, we_non, we_bl, we_int, we_str, we_bty, we_var, we_glob, we_bin, we_un, wt_def, we_not, we_and, we_or, we_cmp, we_cmp2, we_ife, we_tup, we_lst, we_idx, we_sl, we_attr, we_call, we_make, we_meth, we_bi, we_bm, wes_nil, wes_cons, wo_none, wo_some, wi_e, wi_rng, we_lc, ws_expr, ws_ret, ws_retN, ws_pass, ws_brk, ws_cont, ws_asg, ws_sub, ws_fld, ws_aug, ws_iff, ws_for, ws_whl, ws_raise, ws_try, op_some, opD_some, br_some, binG_int, binI_add, binI_sub, binI_and, binI_or, binI_xor, binI_mod, binI_shr, cmpG_int, cmpB_lt, cmpB_le, cmpB_gt, cmpB_ge, cmpB_eq, cmpB_ne, cmpB_eqB, truthD_bl, truthD_int, truthD_non, truthD_tup, get_tup, get_rol, bi_len_tup, bi_len_rol, bi_int_int, bi_int_bl, bi_abs, asgP_name, op_ite, opL_some, get_ref, set_ref, bi_len_ref, bi_tuple_ref, bi_tuple_tup, bi_list_ref, bi_list_tup, bi_sum_ref, bi_sum_tup, bi_all_ref, bi_any_ref, bi_max, bi_min, truthD_ref, trO_lst, atI_pos, ixN_pos, bi_isi, gM_cf, gM_gl, gM_fld, gM_mth, gM_opo, gM_opi, gM_opu, gM_eqo, gM_isi, gM_ist, gM_xfd, gM_xiz, gM_exm, gM_fuel, gM_hot0, gM_hot1, List.getElem?_cons_zero, List.getElem?_cons_succ, List.set_cons_zero, List.set_cons_succ, decide_eq_true_eq, Bool.true_eq_false, Bool.false_eq_true, if_true, if_false, ite_true, ite_false, reduceIte, Int.reduceLE, Int.reduceLT, Int.reduceNeg, Int.reduceToNat, Int.reduceEq, Int.reduceNe, List.length_cons, List.length_nil, Nat.reduceAdd, Nat.reduceSub, Nat.reduceLT, List.length_map, true_and, and_true, decide_true, decide_false, Bool.not_true, Bool.not_false, wss_cons, wss_nil, attr_v W p, sm_true, Bool.not_true]
  refine (same_int D _ _).imp fun r h1 ⟨e1, e2⟩ => ?_
  subst e1 e2
  simp
theorem refuses_ok (K : K01 T gb) (p : Wrd h a w x) (n0 : n < 0) (bn : n.natAbs < 2 ^ 1000) : (cal T gb none (k + 6) ("_law_refuses", none) [.ref a, .int n, .bl up] h).wp (fun r h' => h' = h ∧ r = .bl true) X := by
  have D := K.s
  have F := K.e
  have hz : sizeLine = 16777216 := by decide
  refine cal_wp K.refuses rfl ?_
  simp only [f__law_refuses, we_fold, wss_fold, wt_fold, we_non, we_bl, we_int, we_str, we_bty, we_var, we_glob, we_bin, we_un, wt_def, we_not, we_and, we_or, we_cmp, we_cmp2, we_ife, we_tup, we_lst, we_idx, we_sl, we_attr, we_call, we_make, we_meth, we_bi, we_bm, wes_nil, wes_cons, wo_none, wo_some, wi_e, wi_rng, we_lc, ws_expr, ws_ret, ws_retN, ws_pass, ws_brk, ws_cont, ws_asg, ws_sub, ws_fld, ws_aug, ws_iff, ws_for, ws_whl, ws_raise, ws_try, op_some, opD_some, br_some, binG_int, binI_add, binI_sub, binI_and, binI_or, binI_xor, binI_mod, binI_shr, cmpG_int, cmpB_lt, cmpB_le, cmpB_gt, cmpB_ge, cmpB_eq, cmpB_ne, cmpB_eqB, truthD_bl, truthD_int, truthD_non, truthD_tup, get_tup, get_rol, bi_len_tup, bi_len_rol, bi_int_int, bi_int_bl, bi_abs, asgP_name, op_ite, opL_some, get_ref, set_ref, bi_len_ref, bi_tuple_ref, bi_tuple_tup, bi_list_ref, bi_list_tup, bi_sum_ref, bi_sum_tup, bi_all_ref, bi_any_ref, bi_max, bi_min, truthD_ref, trO_lst, atI_pos, ixN_pos, bi_isi, gM_cf, gM_gl, gM_fld, gM_mth, gM_opo, gM_opi, gM_opu, gM_eqo, gM_isi, gM_ist, gM_xfd, gM_xiz, gM_exm, gM_fuel, gM_hot0, gM_hot1, List.getElem?_cons_zero, List.getElem?_cons_succ, List.set_cons_zero, List.set_cons_succ, decide_eq_true_eq, Bool.true_eq_false, Bool.false_eq_true, if_true, if_false, ite_true, ite_false, reduceIte, Int.reduceLE, Int.reduceLT, Int.reduceNeg, Int.reduceToNat, Int.reduceEq, Int.reduceNe, List.length_cons, List.length_nil, Nat.reduceAdd, Nat.reduceSub, Nat.reduceLT, List.length_map, true_and, and_true, decide_true, decide_false, Bool.not_true, Bool.not_false, wss_cons, wss_nil, List.map_cons, List.map_nil, List.replicate, List.cons_append, List.nil_append]
  refine shifted_bad K p n0 bn ?_
  rw [wh_cons, gM_exm, K.m_index, br_some, if_pos rfl]
  refine suite_ret (.bl true) h (fun a dd => ?_) ⟨rfl, rfl⟩
  try simp only [we_fold, wss_fold, wt_fold, we_non, we_bl, we_int, we_str, we_bty, we_var, we_glob, we_bin, we_un, wt_def, we_not, we_and, we_or, we_cmp, we_cmp2, we_ife, we_tup, we_lst, we_idx, we_sl, we_attr, we_call, we_make, we_meth, we_bi, we_bm, wes_nil, wes_cons, wo_none, wo_some, wi_e, wi_rng, we_lc, ws_expr, ws_ret, ws_retN, ws_pass, ws_brk, ws_cont, ws_asg, ws_sub, ws_fld, ws_aug, ws_iff, ws_for, ws_whl, ws_raise, ws_try, op_some, opD_some, br_some, binG_int, binI_add, binI_sub, binI_and, binI_or, binI_xor, binI_mod, binI_shr, cmpG_int, cmpB_lt, cmpB_le, cmpB_gt, cmpB_ge, cmpB_eq, cmpB_ne, cmpB_eqB, truthD_bl, truthD_int, truthD_non, truthD_tup, get_tup, get_rol, bi_len_tup, bi_len_rol, bi_int_int, bi_int_bl, bi_abs, asgP_name, op_ite, opL_some, get_ref, set_ref, bi_len_ref, bi_tuple_ref, bi_tuple_tup, bi_list_ref, bi_list_tup, bi_sum_ref, bi_sum_tup, bi_all_ref, bi_any_ref, bi_max, bi_min, truthD_ref, trO_lst, atI_pos, ixN_pos, bi_isi, gM_cf, gM_gl, gM_fld, gM_mth, gM_opo, gM_opi, gM_opu, gM_eqo, gM_isi, gM_ist, gM_xfd, gM_xiz, gM_exm, gM_fuel, gM_hot0, gM_hot1, List.getElem?_cons_zero, List.getElem?_cons_succ, List.set_cons_zero, List.set_cons_succ, decide_eq_true_eq, Bool.true_eq_false, Bool.false_eq_true, if_true, if_false, ite_true, ite_false, reduceIte, Int.reduceLE, Int.reduceLT, Int.reduceNeg, Int.reduceToNat, Int.reduceEq, Int.reduceNe, List.length_cons, List.length_nil, Nat.reduceAdd, Nat.reduceSub, Nat.reduceLT, List.length_map, true_and, and_true, decide_true, decide_false, Bool.not_true, Bool.not_false, wss_cons, wss_nil, gH_gl, gH_isi, gH_ist, gH_cf, gH_xfd, gH_xiz, gH_hot, tyOf_non, tyOf_bl, tyOf_int, tyOf_str, tyOf_tup, tyOf_rol, isiD_ty, isiD_cls, isiD_tup, isiAny_nil, isiAny_t, isiAny_f, isCls_ty, isCls_cls, List.all_cons, List.all_nil, Bool.and_self, Bool.and_true, Option.bind_some, gH_isi, gH_gl, gH_ist, D.i_NoneType_list, D.i_NoneType_tuple, D.i_NoneType_dict, D.i_NoneType_bool, D.i_NoneType_int, D.i_NoneType_str, D.i_bool_list, D.i_bool_tuple, D.i_bool_dict, D.i_bool_bool, D.i_bool_int, D.i_bool_str, D.i_int_list, D.i_int_tuple, D.i_int_dict, D.i_int_bool, D.i_int_int, D.i_int_str, D.i_str_list, D.i_str_tuple, D.i_str_dict, D.i_str_bool, D.i_str_int, D.i_str_str, D.i_tuple_list, D.i_tuple_tuple, D.i_tuple_dict, D.i_tuple_bool, D.i_tuple_int, D.i_tuple_str, D.i_list_list, D.i_list_tuple, D.i_list_dict, D.i_list_bool, D.i_list_int, D.i_list_str, D.i_dict_list, D.i_dict_tuple, D.i_dict_dict, D.i_dict_bool, D.i_dict_int, D.i_dict_str, F.x_BadIndex_BadIndex, F.x_BadIndex_BadRow, F.x_BadIndex_BadTable, F.x_BadIndex_BadText, F.x_BadIndex_BadWidth, F.x_BadIndex_BadWord, F.x_BadIndex_Mismatch, F.x_BadIndex_TooLarge, F.x_BadIndex_WireError, F.x_BadRow_BadIndex, F.x_BadRow_BadRow, F.x_BadRow_BadTable, F.x_BadRow_BadText, F.x_BadRow_BadWidth, F.x_BadRow_BadWord, F.x_BadRow_Mismatch, F.x_BadRow_TooLarge, F.x_BadRow_WireError, F.x_BadTable_BadIndex, F.x_BadTable_BadRow, F.x_BadTable_BadTable, F.x_BadTable_BadText, F.x_BadTable_BadWidth, F.x_BadTable_BadWord, F.x_BadTable_Mismatch, F.x_BadTable_TooLarge, F.x_BadTable_WireError, F.x_BadText_BadIndex, F.x_BadText_BadRow, F.x_BadText_BadTable, F.x_BadText_BadText, F.x_BadText_BadWidth, F.x_BadText_BadWord, F.x_BadText_Mismatch, F.x_BadText_TooLarge, F.x_BadText_WireError, F.x_BadWidth_BadIndex, F.x_BadWidth_BadRow, F.x_BadWidth_BadTable, F.x_BadWidth_BadText, F.x_BadWidth_BadWidth, F.x_BadWidth_BadWord, F.x_BadWidth_Mismatch, F.x_BadWidth_TooLarge, F.x_BadWidth_WireError, F.x_BadWord_BadIndex, F.x_BadWord_BadRow, F.x_BadWord_BadTable, F.x_BadWord_BadText, F.x_BadWord_BadWidth, F.x_BadWord_BadWord, F.x_BadWord_Mismatch, F.x_BadWord_TooLarge, F.x_BadWord_WireError, F.x_Mismatch_BadIndex, F.x_Mismatch_BadRow, F.x_Mismatch_BadTable, F.x_Mismatch_BadText, F.x_Mismatch_BadWidth, F.x_Mismatch_BadWord, F.x_Mismatch_Mismatch, F.x_Mismatch_TooLarge, F.x_Mismatch_WireError, F.x_TooLarge_BadIndex, F.x_TooLarge_BadRow, F.x_TooLarge_BadTable, F.x_TooLarge_BadText, F.x_TooLarge_BadWidth, F.x_TooLarge_BadWord, F.x_TooLarge_Mismatch, F.x_TooLarge_TooLarge, F.x_TooLarge_WireError, F.g_BadIndex, F.g_BadRow, F.g_BadTable, F.g_BadText, F.g_BadWidth, F.g_BadWord, F.g_Mismatch, F.g_TooLarge, F.g_WireError, F.z_BadIndex, F.z_BadRow, F.z_BadTable, F.z_BadText, F.z_BadWidth, F.z_BadWord, F.z_Mismatch, F.z_TooLarge, List.map_cons, List.map_nil, tyOf_H F.z_BadIndex, getattr_H F.f_index, hz, Nat.reduceLeDiff]
  refine (same_int D _ _).imp fun r h1 ⟨e1, e2⟩ => ?_
  subst e1 e2
  simp
theorem one_ok (K : K01 T gb) (p : Wrd h a w x) (cn : Cnt n) : (cal T gb none (k + 7) ("_law_one_shift", none) [.ref a, .int w, .int x, .int n, .bl up] h).wp (fun r h' => Kp0 h h' ∧ r = .bl true) X := by
  refine cal_wp K.one rfl ?_
  by_cases n0 : n < 0
  · simp only [f__law_one_shift, we_fold, wss_fold, wt_fold, we_non, we_bl, we_int, we_str, we_bty, we_var, we_glob, we_bin, we_un, wt_def, we_not, we_and, we_or, we_cmp, we_cmp2, we_ife, we_tup, we_lst, we_idx, we_sl, we_attr, we_call, we_make, we_meth, we_bi, we_bm, wes_nil, wes_cons, wo_none, wo_some, wi_e, wi_rng, we_lc, ws_expr, ws_ret, ws_retN, ws_pass, ws_brk, ws_cont, ws_asg, ws_sub, ws_fld, ws_aug, ws_iff, ws_for, ws_whl, ws_raise, ws_try, op_some, opD_some, br_some, binG_int, binI_add, binI_sub, binI_and, binI_or, binI_xor, binI_mod, binI_shr, cmpG_int, cmpB_lt, cmpB_le, cmpB_gt, cmpB_ge, cmpB_eq, cmpB_ne, cmpB_eqB, truthD_bl, truthD_int, truthD_non, truthD_tup, get_tup, get_rol, bi_len_tup, bi_len_rol, bi_int_int, bi_int_bl, bi_abs, asgP_name, op_ite, opL_some, get_ref, set_ref, bi_len_ref, bi_tuple_ref, bi_tuple_tup, bi_list_ref, bi_list_tup, bi_sum_ref, bi_sum_tup, bi_all_ref, bi_any_ref, bi_max, bi_min, truthD_ref, trO_lst, atI_pos, ixN_pos, bi_isi, gM_cf, gM_gl, gM_fld, gM_mth, gM_opo, gM_opi, gM_opu, gM_eqo, gM_isi, gM_ist, gM_xfd, gM_xiz, gM_exm, gM_fuel, gM_hot0, gM_hot1, List.getElem?_cons_zero, List.getElem?_cons_succ, List.set_cons_zero, List.set_cons_succ, decide_eq_true_eq, Bool.true_eq_false, Bool.false_eq_true, if_true, if_false, ite_true, ite_false, reduceIte, Int.reduceLE, Int.reduceLT, Int.reduceNeg, Int.reduceToNat, Int.reduceEq, Int.reduceNe, List.length_cons, List.length_nil, Nat.reduceAdd, Nat.reduceSub, Nat.reduceLT, List.length_map, true_and, and_true, decide_true, decide_false, Bool.not_true, Bool.not_false, wss_cons, wss_nil, List.map_cons, List.map_nil, List.replicate, List.cons_append, List.nil_append, n0]
    refine (refuses_ok K p n0 cn.2).imp fun r h1 ⟨e1, e2⟩ => ?_
    subst e1 e2
    try simp only [we_fold, wss_fold, wt_fold, we_non, we_bl, we_int, we_str, we_bty, we_var, we_glob, we_bin, we_un, wt_def, we_not, we_and, we_or, we_cmp, we_cmp2, we_ife, we_tup, we_lst, we_idx, we_sl, we_attr, we_call, we_make, we_meth, we_bi, we_bm, wes_nil, wes_cons, wo_none, wo_some, wi_e, wi_rng, we_lc, ws_expr, ws_ret, ws_retN, ws_pass, ws_brk, ws_cont, ws_asg, ws_sub, ws_fld, ws_aug, ws_iff, ws_for, ws_whl, ws_raise, ws_try, op_some, opD_some, br_some, binG_int, binI_add, binI_sub, binI_and, binI_or, binI_xor, binI_mod, binI_shr, cmpG_int, cmpB_lt, cmpB_le, cmpB_gt, cmpB_ge, cmpB_eq, cmpB_ne, cmpB_eqB, truthD_bl, truthD_int, truthD_non, truthD_tup, get_tup, get_rol, bi_len_tup, bi_len_rol, bi_int_int, bi_int_bl, bi_abs, asgP_name, op_ite, opL_some, get_ref, set_ref, bi_len_ref, bi_tuple_ref, bi_tuple_tup, bi_list_ref, bi_list_tup, bi_sum_ref, bi_sum_tup, bi_all_ref, bi_any_ref, bi_max, bi_min, truthD_ref, trO_lst, atI_pos, ixN_pos, bi_isi, gM_cf, gM_gl, gM_fld, gM_mth, gM_opo, gM_opi, gM_opu, gM_eqo, gM_isi, gM_ist, gM_xfd, gM_xiz, gM_exm, gM_fuel, gM_hot0, gM_hot1, List.getElem?_cons_zero, List.getElem?_cons_succ, List.set_cons_zero, List.set_cons_succ, decide_eq_true_eq, Bool.true_eq_false, Bool.false_eq_true, if_true, if_false, ite_true, ite_false, reduceIte, Int.reduceLE, Int.reduceLT, Int.reduceNeg, Int.reduceToNat, Int.reduceEq, Int.reduceNe, List.length_cons, List.length_nil, Nat.reduceAdd, Nat.reduceSub, Nat.reduceLT, List.length_map, true_and, and_true, decide_true, decide_false, Bool.not_true, Bool.not_false, wss_cons, wss_nil]
    refine (isw_ok K p).imp fun r h1 ⟨e1, e2⟩ => ?_
    subst e1 e2
    exact ⟨.refl _, rfl⟩
  · cases up with
    | true =>
      simp only [f__law_one_shift, we_fold, wss_fold, wt_fold, we_non, we_bl, we_int, we_str, we_bty, we_var, we_glob, we_bin, we_un, wt_def, we_not, we_and, we_or, we_cmp, we_cmp2, we_ife, we_tup, we_lst, we_idx, we_sl, we_attr, we_call, we_make, we_meth, we_bi, we_bm, wes_nil, wes_cons, wo_none, wo_some, wi_e, wi_rng, we_lc, ws_expr, ws_ret, ws_retN, ws_pass, ws_brk, ws_cont, ws_asg, ws_sub, ws_fld, ws_aug, ws_iff, ws_for, ws_whl, ws_raise, ws_try, op_some, opD_some, br_some, binG_int, binI_add, binI_sub, binI_and, binI_or, binI_xor, binI_mod, binI_shr, cmpG_int, cmpB_lt, cmpB_le, cmpB_gt, cmpB_ge, cmpB_eq, cmpB_ne, cmpB_eqB, truthD_bl, truthD_int, truthD_non, truthD_tup, get_tup, get_rol, bi_len_tup, bi_len_rol, bi_int_int, bi_int_bl, bi_abs, asgP_name, op_ite, opL_some, get_ref, set_ref, bi_len_ref, bi_tuple_ref, bi_tuple_tup, bi_list_ref, bi_list_tup, bi_sum_ref, bi_sum_tup, bi_all_ref, bi_any_ref, bi_max, bi_min, truthD_ref, trO_lst, atI_pos, ixN_pos, bi_isi, gM_cf, gM_gl, gM_fld, gM_mth, gM_opo, gM_opi, gM_opu, gM_eqo, gM_isi, gM_ist, gM_xfd, gM_xiz, gM_exm, gM_fuel, gM_hot0, gM_hot1, List.getElem?_cons_zero, List.getElem?_cons_succ, List.set_cons_zero, List.set_cons_succ, decide_eq_true_eq, Bool.true_eq_false, Bool.false_eq_true, if_true, if_false, ite_true, ite_false, reduceIte, Int.reduceLE, Int.reduceLT, Int.reduceNeg, Int.reduceToNat, Int.reduceEq, Int.reduceNe, List.length_cons, List.length_nil, Nat.reduceAdd, Nat.reduceSub, Nat.reduceLT, List.length_map, true_and, and_true, decide_true, decide_false, Bool.not_true, Bool.not_false, wss_cons, wss_nil, List.map_cons, List.map_nil, List.replicate, List.cons_append, List.nil_append, n0]
      refine (shifted_ok K p (by omega) (by have := cn.1; omega)).imp fun r h1 ⟨k1, c, e, W1⟩ => ?_
      subst e
      refine (moved_ok K W1 (x := x) _ fun i hi => by rw [shv_bit p.w0 (by omega) p.v0 p.v1 hi]; rfl).imp fun r h2 ⟨k2, e2⟩ => ?_
      subst e2
      try simp only [we_fold, wss_fold, wt_fold, we_non, we_bl, we_int, we_str, we_bty, we_var, we_glob, we_bin, we_un, wt_def, we_not, we_and, we_or, we_cmp, we_cmp2, we_ife, we_tup, we_lst, we_idx, we_sl, we_attr, we_call, we_make, we_meth, we_bi, we_bm, wes_nil, wes_cons, wo_none, wo_some, wi_e, wi_rng, we_lc, ws_expr, ws_ret, ws_retN, ws_pass, ws_brk, ws_cont, ws_asg, ws_sub, ws_fld, ws_aug, ws_iff, ws_for, ws_whl, ws_raise, ws_try, op_some, opD_some, br_some, binG_int, binI_add, binI_sub, binI_and, binI_or, binI_xor, binI_mod, binI_shr, cmpG_int, cmpB_lt, cmpB_le, cmpB_gt, cmpB_ge, cmpB_eq, cmpB_ne, cmpB_eqB, truthD_bl, truthD_int, truthD_non, truthD_tup, get_tup, get_rol, bi_len_tup, bi_len_rol, bi_int_int, bi_int_bl, bi_abs, asgP_name, op_ite, opL_some, get_ref, set_ref, bi_len_ref, bi_tuple_ref, bi_tuple_tup, bi_list_ref, bi_list_tup, bi_sum_ref, bi_sum_tup, bi_all_ref, bi_any_ref, bi_max, bi_min, truthD_ref, trO_lst, atI_pos, ixN_pos, bi_isi, gM_cf, gM_gl, gM_fld, gM_mth, gM_opo, gM_opi, gM_opu, gM_eqo, gM_isi, gM_ist, gM_xfd, gM_xiz, gM_exm, gM_fuel, gM_hot0, gM_hot1, List.getElem?_cons_zero, List.getElem?_cons_succ, List.set_cons_zero, List.set_cons_succ, decide_eq_true_eq, Bool.true_eq_false, Bool.false_eq_true, if_true, if_false, ite_true, ite_false, reduceIte, Int.reduceLE, Int.reduceLT, Int.reduceNeg, Int.reduceToNat, Int.reduceEq, Int.reduceNe, List.length_cons, List.length_nil, Nat.reduceAdd, Nat.reduceSub, Nat.reduceLT, List.length_map, true_and, and_true, decide_true, decide_false, Bool.not_true, Bool.not_false, wss_cons, wss_nil]
      refine (isw_ok K ((p.kp k1).kp k2)).imp fun r h3 ⟨e1, e2⟩ => ?_
      subst e1 e2
      exact ⟨k1.trans k2, rfl⟩
    | false =>
      simp only [f__law_one_shift, we_fold, wss_fold, wt_fold, we_non, we_bl, we_int, we_str, we_bty, we_var, we_glob, we_bin, we_un, wt_def, we_not, we_and, we_or, we_cmp, we_cmp2, we_ife, we_tup, we_lst, we_idx, we_sl, we_attr, we_call, we_make, we_meth, we_bi, we_bm, wes_nil, wes_cons, wo_none, wo_some, wi_e, wi_rng, we_lc, ws_expr, ws_ret, ws_retN, ws_pass, ws_brk, ws_cont, ws_asg, ws_sub, ws_fld, ws_aug, ws_iff, ws_for, ws_whl, ws_raise, ws_try, op_some, opD_some, br_some, binG_int, binI_add, binI_sub, binI_and, binI_or, binI_xor, binI_mod, binI_shr, cmpG_int, cmpB_lt, cmpB_le, cmpB_gt, cmpB_ge, cmpB_eq, cmpB_ne, cmpB_eqB, truthD_bl, truthD_int, truthD_non, truthD_tup, get_tup, get_rol, bi_len_tup, bi_len_rol, bi_int_int, bi_int_bl, bi_abs, asgP_name, op_ite, opL_some, get_ref, set_ref, bi_len_ref, bi_tuple_ref, bi_tuple_tup, bi_list_ref, bi_list_tup, bi_sum_ref, bi_sum_tup, bi_all_ref, bi_any_ref, bi_max, bi_min, truthD_ref, trO_lst, atI_pos, ixN_pos, bi_isi, gM_cf, gM_gl, gM_fld, gM_mth, gM_opo, gM_opi, gM_opu, gM_eqo, gM_isi, gM_ist, gM_xfd, gM_xiz, gM_exm, gM_fuel, gM_hot0, gM_hot1, List.getElem?_cons_zero, List.getElem?_cons_succ, List.set_cons_zero, List.set_cons_succ, decide_eq_true_eq, Bool.true_eq_false, Bool.false_eq_true, if_true, if_false, ite_true, ite_false, reduceIte, Int.reduceLE, Int.reduceLT, Int.reduceNeg, Int.reduceToNat, Int.reduceEq, Int.reduceNe, List.length_cons, List.length_nil, Nat.reduceAdd, Nat.reduceSub, Nat.reduceLT, List.length_map, true_and, and_true, decide_true, decide_false, Bool.not_true, Bool.not_false, wss_cons, wss_nil, List.map_cons, List.map_nil, List.replicate, List.cons_append, List.nil_append, n0]
      refine (shifted_ok K p (by omega) (by have := cn.1; omega)).imp fun r h1 ⟨k1, c, e, W1⟩ => ?_
      subst e
      refine (moved_ok K W1 (x := x) _ fun i hi => by rw [shv_bit p.w0 (by omega) p.v0 p.v1 hi]; rfl).imp fun r h2 ⟨k2, e2⟩ => ?_
      subst e2
      try simp only [we_fold, wss_fold, wt_fold, we_non, we_bl, we_int, we_str, we_bty, we_var, we_glob, we_bin, we_un, wt_def, we_not, we_and, we_or, we_cmp, we_cmp2, we_ife, we_tup, we_lst, we_idx, we_sl, we_attr, we_call, we_make, we_meth, we_bi, we_bm, wes_nil, wes_cons, wo_none, wo_some, wi_e, wi_rng, we_lc, ws_expr, ws_ret, ws_retN, ws_pass, ws_brk, ws_cont, ws_asg, ws_sub, ws_fld, ws_aug, ws_iff, ws_for, ws_whl, ws_raise, ws_try, op_some, opD_some, br_some, binG_int, binI_add, binI_sub, binI_and, binI_or, binI_xor, binI_mod, binI_shr, cmpG_int, cmpB_lt, cmpB_le, cmpB_gt, cmpB_ge, cmpB_eq, cmpB_ne, cmpB_eqB, truthD_bl, truthD_int, truthD_non, truthD_tup, get_tup, get_rol, bi_len_tup, bi_len_rol, bi_int_int, bi_int_bl, bi_abs, asgP_name, op_ite, opL_some, get_ref, set_ref, bi_len_ref, bi_tuple_ref, bi_tuple_tup, bi_list_ref, bi_list_tup, bi_sum_ref, bi_sum_tup, bi_all_ref, bi_any_ref, bi_max, bi_min, truthD_ref, trO_lst, atI_pos, ixN_pos, bi_isi, gM_cf, gM_gl, gM_fld, gM_mth, gM_opo, gM_opi, gM_opu, gM_eqo, gM_isi, gM_ist, gM_xfd, gM_xiz, gM_exm, gM_fuel, gM_hot0, gM_hot1, List.getElem?_cons_zero, List.getElem?_cons_succ, List.set_cons_zero, List.set_cons_succ, decide_eq_true_eq, Bool.true_eq_false, Bool.false_eq_true, if_true, if_false, ite_true, ite_false, reduceIte, Int.reduceLE, Int.reduceLT, Int.reduceNeg, Int.reduceToNat, Int.reduceEq, Int.reduceNe, List.length_cons, List.length_nil, Nat.reduceAdd, Nat.reduceSub, Nat.reduceLT, List.length_map, true_and, and_true, decide_true, decide_false, Bool.not_true, Bool.not_false, wss_cons, wss_nil]
      refine (isw_ok K ((p.kp k1).kp k2)).imp fun r h3 ⟨e1, e2⟩ => ?_
      subst e1 e2
      exact ⟨k1.trans k2, rfl⟩
theorem two_ok {q : Int} (K : K01 T gb) (p : Wrd h a w x) : (cal T gb none (k + 7) ("_law_two_shifts", none) [.ref a, .int w, .int x, .int n, .int q, .bl up] h).wp (fun r h' => Kp0 h h' ∧ r = .bl true) X := by
  have W := K.w.w
  have D := K.s
  have hf := W.fuel
  have w0 := p.w0
  have w1 := p.w1
  refine cal_wp K.two rfl ?_
  simp only [f__law_two_shifts, List.map_cons, List.map_nil, List.replicate, List.cons_append, List.nil_append, List.length_cons, List.length_nil, Nat.reduceAdd, Nat.reduceSub]
  by_cases hh : 0 ≤ n ∧ n ≤ 1000 ∧ 0 ≤ q ∧ q ≤ 1000 - n
  case neg =>
    rw [wss_cons]
    by_cases b1 : 0 ≤ n
    · by_cases b2 : n ≤ 1000
      · by_cases b3 : 0 ≤ q
        · have b4 : ¬ q ≤ 1000 - n := fun z => hh ⟨b1, b2, b3, z⟩
          simp only [we_fold, wss_fold, wt_fold, we_non, we_bl, we_int, we_str, we_bty, we_var, we_glob, we_bin, we_un, wt_def, we_not, we_and, we_or, we_cmp, we_cmp2, we_ife, we_tup, we_lst, we_idx, we_sl, we_attr, we_call, we_make, we_meth, we_bi, we_bm, wes_nil, wes_cons, wo_none, wo_some, wi_e, wi_rng, we_lc, ws_expr, ws_ret, ws_retN, ws_pass, ws_brk, ws_cont, ws_asg, ws_sub, ws_fld, ws_aug, ws_iff, ws_for, ws_whl, ws_raise, ws_try, op_some, opD_some, br_some, binG_int, binI_add, binI_sub, binI_and, binI_or, binI_xor, binI_mod, binI_shr, cmpG_int, cmpB_lt, cmpB_le, cmpB_gt, cmpB_ge, cmpB_eq, cmpB_ne, cmpB_eqB, truthD_bl, truthD_int, truthD_non, truthD_tup, get_tup, get_rol, bi_len_tup, bi_len_rol, bi_int_int, bi_int_bl, bi_abs, asgP_name, op_ite, opL_some, get_ref, set_ref, bi_len_ref, bi_tuple_ref, bi_tuple_tup, bi_list_ref, bi_list_tup, bi_sum_ref, bi_sum_tup, bi_all_ref, bi_any_ref, bi_max, bi_min, truthD_ref, trO_lst, atI_pos, ixN_pos, bi_isi, gM_cf, gM_gl, gM_fld, gM_mth, gM_opo, gM_opi, gM_opu, gM_eqo, gM_isi, gM_ist, gM_xfd, gM_xiz, gM_exm, gM_fuel, gM_hot0, gM_hot1, List.getElem?_cons_zero, List.getElem?_cons_succ, List.set_cons_zero, List.set_cons_succ, decide_eq_true_eq, Bool.true_eq_false, Bool.false_eq_true, if_true, if_false, ite_true, ite_false, reduceIte, Int.reduceLE, Int.reduceLT, Int.reduceNeg, Int.reduceToNat, Int.reduceEq, Int.reduceNe, List.length_cons, List.length_nil, Nat.reduceAdd, Nat.reduceSub, Nat.reduceLT, List.length_map, true_and, and_true, decide_true, decide_false, Bool.not_true, Bool.not_false, wss_cons, wss_nil, cmpop_wp, b1, b2, b3, b4]
          exact .refl _
        · simp only [we_fold, wss_fold, wt_fold, we_non, we_bl, we_int, we_str, we_bty, we_var, we_glob, we_bin, we_un, wt_def, we_not, we_and, we_or, we_cmp, we_cmp2, we_ife, we_tup, we_lst, we_idx, we_sl, we_attr, we_call, we_make, we_meth, we_bi, we_bm, wes_nil, wes_cons, wo_none, wo_some, wi_e, wi_rng, we_lc, ws_expr, ws_ret, ws_retN, ws_pass, ws_brk, ws_cont, ws_asg, ws_sub, ws_fld, ws_aug, ws_iff, ws_for, ws_whl, ws_raise, ws_try, op_some, opD_some, br_some, binG_int, binI_add, binI_sub, binI_and, binI_or, binI_xor, binI_mod, binI_shr, cmpG_int, cmpB_lt, cmpB_le, cmpB_gt, cmpB_ge, cmpB_eq, cmpB_ne, cmpB_eqB, truthD_bl, truthD_int, truthD_non, truthD_tup, get_tup, get_rol, bi_len_tup, bi_len_rol, bi_int_int, bi_int_bl, bi_abs, asgP_name, op_ite, opL_some, get_ref, set_ref, bi_len_ref, bi_tuple_ref, bi_tuple_tup, bi_list_ref, bi_list_tup, bi_sum_ref, bi_sum_tup, bi_all_ref, bi_any_ref, bi_max, bi_min, truthD_ref, trO_lst, atI_pos, ixN_pos, bi_isi, gM_cf, gM_gl, gM_fld, gM_mth, gM_opo, gM_opi, gM_opu, gM_eqo, gM_isi, gM_ist, gM_xfd, gM_xiz, gM_exm, gM_fuel, gM_hot0, gM_hot1, List.getElem?_cons_zero, List.getElem?_cons_succ, List.set_cons_zero, List.set_cons_succ, decide_eq_true_eq, Bool.true_eq_false, Bool.false_eq_true, if_true, if_false, ite_true, ite_false, reduceIte, Int.reduceLE, Int.reduceLT, Int.reduceNeg, Int.reduceToNat, Int.reduceEq, Int.reduceNe, List.length_cons, List.length_nil, Nat.reduceAdd, Nat.reduceSub, Nat.reduceLT, List.length_map, true_and, and_true, decide_true, decide_false, Bool.not_true, Bool.not_false, wss_cons, wss_nil, cmpop_wp, b1, b2, b3]
          exact .refl _
      · simp only [we_fold, wss_fold, wt_fold, we_non, we_bl, we_int, we_str, we_bty, we_var, we_glob, we_bin, we_un, wt_def, we_not, we_and, we_or, we_cmp, we_cmp2, we_ife, we_tup, we_lst, we_idx, we_sl, we_attr, we_call, we_make, we_meth, we_bi, we_bm, wes_nil, wes_cons, wo_none, wo_some, wi_e, wi_rng, we_lc, ws_expr, ws_ret, ws_retN, ws_pass, ws_brk, ws_cont, ws_asg, ws_sub, ws_fld, ws_aug, ws_iff, ws_for, ws_whl, ws_raise, ws_try, op_some, opD_some, br_some, binG_int, binI_add, binI_sub, binI_and, binI_or, binI_xor, binI_mod, binI_shr, cmpG_int, cmpB_lt, cmpB_le, cmpB_gt, cmpB_ge, cmpB_eq, cmpB_ne, cmpB_eqB, truthD_bl, truthD_int, truthD_non, truthD_tup, get_tup, get_rol, bi_len_tup, bi_len_rol, bi_int_int, bi_int_bl, bi_abs, asgP_name, op_ite, opL_some, get_ref, set_ref, bi_len_ref, bi_tuple_ref, bi_tuple_tup, bi_list_ref, bi_list_tup, bi_sum_ref, bi_sum_tup, bi_all_ref, bi_any_ref, bi_max, bi_min, truthD_ref, trO_lst, atI_pos, ixN_pos, bi_isi, gM_cf, gM_gl, gM_fld, gM_mth, gM_opo, gM_opi, gM_opu, gM_eqo, gM_isi, gM_ist, gM_xfd, gM_xiz, gM_exm, gM_fuel, gM_hot0, gM_hot1, List.getElem?_cons_zero, List.getElem?_cons_succ, List.set_cons_zero, List.set_cons_succ, decide_eq_true_eq, Bool.true_eq_false, Bool.false_eq_true, if_true, if_false, ite_true, ite_false, reduceIte, Int.reduceLE, Int.reduceLT, Int.reduceNeg, Int.reduceToNat, Int.reduceEq, Int.reduceNe, List.length_cons, List.length_nil, Nat.reduceAdd, Nat.reduceSub, Nat.reduceLT, List.length_map, true_and, and_true, decide_true, decide_false, Bool.not_true, Bool.not_false, wss_cons, wss_nil, cmpop_wp, b1, b2]
        exact .refl _
    · simp only [we_fold, wss_fold, wt_fold, we_non, we_bl, we_int, we_str, we_bty, we_var, we_glob, we_bin, we_un, wt_def, we_not, we_and, we_or, we_cmp, we_cmp2, we_ife, we_tup, we_lst, we_idx, we_sl, we_attr, we_call, we_make, we_meth, we_bi, we_bm, wes_nil, wes_cons, wo_none, wo_some, wi_e, wi_rng, we_lc, ws_expr, ws_ret, ws_retN, ws_pass, ws_brk, ws_cont, ws_asg, ws_sub, ws_fld, ws_aug, ws_iff, ws_for, ws_whl, ws_raise, ws_try, op_some, opD_some, br_some, binG_int, binI_add, binI_sub, binI_and, binI_or, binI_xor, binI_mod, binI_shr, cmpG_int, cmpB_lt, cmpB_le, cmpB_gt, cmpB_ge, cmpB_eq, cmpB_ne, cmpB_eqB, truthD_bl, truthD_int, truthD_non, truthD_tup, get_tup, get_rol, bi_len_tup, bi_len_rol, bi_int_int, bi_int_bl, bi_abs, asgP_name, op_ite, opL_some, get_ref, set_ref, bi_len_ref, bi_tuple_ref, bi_tuple_tup, bi_list_ref, bi_list_tup, bi_sum_ref, bi_sum_tup, bi_all_ref, bi_any_ref, bi_max, bi_min, truthD_ref, trO_lst, atI_pos, ixN_pos, bi_isi, gM_cf, gM_gl, gM_fld, gM_mth, gM_opo, gM_opi, gM_opu, gM_eqo, gM_isi, gM_ist, gM_xfd, gM_xiz, gM_exm, gM_fuel, gM_hot0, gM_hot1, List.getElem?_cons_zero, List.getElem?_cons_succ, List.set_cons_zero, List.set_cons_succ, decide_eq_true_eq, Bool.true_eq_false, Bool.false_eq_true, if_true, if_false, ite_true, ite_false, reduceIte, Int.reduceLE, Int.reduceLT, Int.reduceNeg, Int.reduceToNat, Int.reduceEq, Int.reduceNe, List.length_cons, List.length_nil, Nat.reduceAdd, Nat.reduceSub, Nat.reduceLT, List.length_map, true_and, and_true, decide_true, decide_false, Bool.not_true, Bool.not_false, wss_cons, wss_nil, cmpop_wp, b1]
      exact .refl _
  obtain ⟨n0, n1, q0, q1⟩ := hh
  rw [wss_cons]
  simp only [we_fold, wss_fold, wt_fold, we_non, we_bl, we_int, we_str, we_bty, we_var, we_glob, we_bin, we_un, wt_def, we_not, we_and, we_or, we_cmp, we_cmp2, we_ife, we_tup, we_lst, we_idx, we_sl, we_attr, we_call, we_make, we_meth, we_bi, we_bm, wes_nil, wes_cons, wo_none, wo_some, wi_e, wi_rng, we_lc, ws_expr, ws_ret, ws_retN, ws_pass, ws_brk, ws_cont, ws_asg, ws_sub, ws_fld, ws_aug, ws_iff, ws_for, ws_whl, ws_raise, ws_try, op_some, opD_some, br_some, binG_int, binI_add, binI_sub, binI_and, binI_or, binI_xor, binI_mod, binI_shr, cmpG_int, cmpB_lt, cmpB_le, cmpB_gt, cmpB_ge, cmpB_eq, cmpB_ne, cmpB_eqB, truthD_bl, truthD_int, truthD_non, truthD_tup, get_tup, get_rol, bi_len_tup, bi_len_rol, bi_int_int, bi_int_bl, bi_abs, asgP_name, op_ite, opL_some, get_ref, set_ref, bi_len_ref, bi_tuple_ref, bi_tuple_tup, bi_list_ref, bi_list_tup, bi_sum_ref, bi_sum_tup, bi_all_ref, bi_any_ref, bi_max, bi_min, truthD_ref, trO_lst, atI_pos, ixN_pos, bi_isi, gM_cf, gM_gl, gM_fld, gM_mth, gM_opo, gM_opi, gM_opu, gM_eqo, gM_isi, gM_ist, gM_xfd, gM_xiz, gM_exm, gM_fuel, gM_hot0, gM_hot1, List.getElem?_cons_zero, List.getElem?_cons_succ, List.set_cons_zero, List.set_cons_succ, decide_eq_true_eq, Bool.true_eq_false, Bool.false_eq_true, if_true, if_false, ite_true, ite_false, reduceIte, Int.reduceLE, Int.reduceLT, Int.reduceNeg, Int.reduceToNat, Int.reduceEq, Int.reduceNe, List.length_cons, List.length_nil, Nat.reduceAdd, Nat.reduceSub, Nat.reduceLT, List.length_map, true_and, and_true, decide_true, decide_false, Bool.not_true, Bool.not_false, wss_cons, wss_nil, cmpop_wp, n0, n1, q0, q1]
  refine (shifted_ok K p n0 (by omega)).imp fun r h1 ⟨k1, c1, e, W1⟩ => ?_
  subst e
  refine (shifted_ok K W1 q0 (by omega)).imp fun r h2 ⟨k2, c2, e, W2⟩ => ?_
  subst e
  have p := (p.kp k1).kp k2
  simp only [we_fold, wss_fold, wt_fold, we_non, we_bl, we_int, we_str, we_bty, we_var, we_glob, we_bin, we_un, wt_def, we_not, we_and, we_or, we_cmp, we_cmp2, we_ife, we_tup, we_lst, we_idx, we_sl, we_attr, we_call, we_make, we_meth, we_bi, we_bm, wes_nil, wes_cons, wo_none, wo_some, wi_e, wi_rng, we_lc, ws_expr, ws_ret, ws_retN, ws_pass, ws_brk, ws_cont, ws_asg, ws_sub, ws_fld, ws_aug, ws_iff, ws_for, ws_whl, ws_raise, ws_try, op_some, opD_some, br_some, binG_int, binI_add, binI_sub, binI_and, binI_or, binI_xor, binI_mod, binI_shr, cmpG_int, cmpB_lt, cmpB_le, cmpB_gt, cmpB_ge, cmpB_eq, cmpB_ne, cmpB_eqB, truthD_bl, truthD_int, truthD_non, truthD_tup, get_tup, get_rol, bi_len_tup, bi_len_rol, bi_int_int, bi_int_bl, bi_abs, asgP_name, op_ite, opL_some, get_ref, set_ref, bi_len_ref, bi_tuple_ref, bi_tuple_tup, bi_list_ref, bi_list_tup, bi_sum_ref, bi_sum_tup, bi_all_ref, bi_any_ref, bi_max, bi_min, truthD_ref, trO_lst, atI_pos, ixN_pos, bi_isi, gM_cf, gM_gl, gM_fld, gM_mth, gM_opo, gM_opi, gM_opu, gM_eqo, gM_isi, gM_ist, gM_xfd, gM_xiz, gM_exm, gM_fuel, gM_hot0, gM_hot1, List.getElem?_cons_zero, List.getElem?_cons_succ, List.set_cons_zero, List.set_cons_succ, decide_eq_true_eq, Bool.true_eq_false, Bool.false_eq_true, if_true, if_false, ite_true, ite_false, reduceIte, Int.reduceLE, Int.reduceLT, Int.reduceNeg, Int.reduceToNat, Int.reduceEq, Int.reduceNe, List.length_cons, List.length_nil, Nat.reduceAdd, Nat.reduceSub, Nat.reduceLT, List.length_map, true_and, and_true, decide_true, decide_false, Bool.not_true, Bool.not_false, wss_cons, wss_nil, tyOf_non, tyOf_bl, tyOf_int, tyOf_str, tyOf_tup, tyOf_rol, isiD_ty, isiD_cls, isiD_tup, isiAny_nil, isiAny_t, isiAny_f, isCls_ty, isCls_cls, List.all_cons, List.all_nil, Bool.and_self, Bool.and_true, Option.bind_some, gH_isi, gH_gl, gH_ist, D.i_NoneType_list, D.i_NoneType_tuple, D.i_NoneType_dict, D.i_NoneType_bool, D.i_NoneType_int, D.i_NoneType_str, D.i_bool_list, D.i_bool_tuple, D.i_bool_dict, D.i_bool_bool, D.i_bool_int, D.i_bool_str, D.i_int_list, D.i_int_tuple, D.i_int_dict, D.i_int_bool, D.i_int_int, D.i_int_str, D.i_str_list, D.i_str_tuple, D.i_str_dict, D.i_str_bool, D.i_str_int, D.i_str_str, D.i_tuple_list, D.i_tuple_tuple, D.i_tuple_dict, D.i_tuple_bool, D.i_tuple_int, D.i_tuple_str, D.i_list_list, D.i_list_tuple, D.i_list_dict, D.i_list_bool, D.i_list_int, D.i_list_str, D.i_dict_list, D.i_dict_tuple, D.i_dict_dict, D.i_dict_bool, D.i_dict_int, D.i_dict_str, ty_word W W2, W.gw, W.i_w]
  refine (shifted_ok K p (show 0 ≤ n + q by omega) (by omega)).imp fun r h3 ⟨k3, c3, e, W3⟩ => ?_
  subst e
  have p := p.kp k3
  refine eq_at W (W2.kp k3) W3 ?_
  refine (same_bl D _ _).imp fun r h4 ⟨e1, e2⟩ => ?_
  subst e1 e2
  simp only [we_fold, wss_fold, wt_fold, we_non, we_bl, we_int, we_str, we_bty, we_var, we_glob, we_bin, we_un, wt_def, we_not, we_and, we_or, we_cmp, we_cmp2, we_ife, we_tup, we_lst, we_idx, we_sl, we_attr, we_call, we_make, we_meth, we_bi, we_bm, wes_nil, wes_cons, wo_none, wo_some, wi_e, wi_rng, we_lc, ws_expr, ws_ret, ws_retN, ws_pass, ws_brk, ws_cont, ws_asg, ws_sub, ws_fld, ws_aug, ws_iff, ws_for, ws_whl, ws_raise, ws_try, op_some, opD_some, br_some, binG_int, binI_add, binI_sub, binI_and, binI_or, binI_xor, binI_mod, binI_shr, cmpG_int, cmpB_lt, cmpB_le, cmpB_gt, cmpB_ge, cmpB_eq, cmpB_ne, cmpB_eqB, truthD_bl, truthD_int, truthD_non, truthD_tup, get_tup, get_rol, bi_len_tup, bi_len_rol, bi_int_int, bi_int_bl, bi_abs, asgP_name, op_ite, opL_some, get_ref, set_ref, bi_len_ref, bi_tuple_ref, bi_tuple_tup, bi_list_ref, bi_list_tup, bi_sum_ref, bi_sum_tup, bi_all_ref, bi_any_ref, bi_max, bi_min, truthD_ref, trO_lst, atI_pos, ixN_pos, bi_isi, gM_cf, gM_gl, gM_fld, gM_mth, gM_opo, gM_opi, gM_opu, gM_eqo, gM_isi, gM_ist, gM_xfd, gM_xiz, gM_exm, gM_fuel, gM_hot0, gM_hot1, List.getElem?_cons_zero, List.getElem?_cons_succ, List.set_cons_zero, List.set_cons_succ, decide_eq_true_eq, Bool.true_eq_false, Bool.false_eq_true, if_true, if_false, ite_true, ite_false, reduceIte, Int.reduceLE, Int.reduceLT, Int.reduceNeg, Int.reduceToNat, Int.reduceEq, Int.reduceNe, List.length_cons, List.length_nil, Nat.reduceAdd, Nat.reduceSub, Nat.reduceLT, List.length_map, true_and, and_true, decide_true, decide_false, Bool.not_true, Bool.not_false, wss_cons, wss_nil, shv_two n0 q0]
  refine (shifted_ok K p n0 (by omega)).imp fun r h4 ⟨k4, c4, e, W4⟩ => ?_
  subst e
  refine (shifted_ok K W4 n0 (by omega)).imp fun r h5 ⟨k5, c5, e, W5⟩ => ?_
  subst e
  simp only [we_fold, wss_fold, wt_fold, we_non, we_bl, we_int, we_str, we_bty, we_var, we_glob, we_bin, we_un, wt_def, we_not, we_and, we_or, we_cmp, we_cmp2, we_ife, we_tup, we_lst, we_idx, we_sl, we_attr, we_call, we_make, we_meth, we_bi, we_bm, wes_nil, wes_cons, wo_none, wo_some, wi_e, wi_rng, we_lc, ws_expr, ws_ret, ws_retN, ws_pass, ws_brk, ws_cont, ws_asg, ws_sub, ws_fld, ws_aug, ws_iff, ws_for, ws_whl, ws_raise, ws_try, op_some, opD_some, br_some, binG_int, binI_add, binI_sub, binI_and, binI_or, binI_xor, binI_mod, binI_shr, cmpG_int, cmpB_lt, cmpB_le, cmpB_gt, cmpB_ge, cmpB_eq, cmpB_ne, cmpB_eqB, truthD_bl, truthD_int, truthD_non, truthD_tup, get_tup, get_rol, bi_len_tup, bi_len_rol, bi_int_int, bi_int_bl, bi_abs, asgP_name, op_ite, opL_some, get_ref, set_ref, bi_len_ref, bi_tuple_ref, bi_tuple_tup, bi_list_ref, bi_list_tup, bi_sum_ref, bi_sum_tup, bi_all_ref, bi_any_ref, bi_max, bi_min, truthD_ref, trO_lst, atI_pos, ixN_pos, bi_isi, gM_cf, gM_gl, gM_fld, gM_mth, gM_opo, gM_opi, gM_opu, gM_eqo, gM_isi, gM_ist, gM_xfd, gM_xiz, gM_exm, gM_fuel, gM_hot0, gM_hot1, List.getElem?_cons_zero, List.getElem?_cons_succ, List.set_cons_zero, List.set_cons_succ, decide_eq_true_eq, Bool.true_eq_false, Bool.false_eq_true, if_true, if_false, ite_true, ite_false, reduceIte, Int.reduceLE, Int.reduceLT, Int.reduceNeg, Int.reduceToNat, Int.reduceEq, Int.reduceNe, List.length_cons, List.length_nil, Nat.reduceAdd, Nat.reduceSub, Nat.reduceLT, List.length_map, true_and, and_true, decide_true, decide_false, Bool.not_true, Bool.not_false, wss_cons, wss_nil, wipeD, rngOf1 (show w < 4611686018427387904 by omega) (show -4611686018427387904 ≤ w by omega)]
  refine comp_filter (pr := fun i => (up && decide ((i : Int) < w - n)) || (!up && decide (n ≤ (i : Int)))) (f := fun i => .int i) (by omega) (by omega) (fun i hi => ?_) ?_
  · cases up with
    | true =>
      simp only [we_fold, wss_fold, wt_fold, we_non, we_bl, we_int, we_str, we_bty, we_var, we_glob, we_bin, we_un, wt_def, we_not, we_and, we_or, we_cmp, we_cmp2, we_ife, we_tup, we_lst, we_idx, we_sl, we_attr, we_call, we_make, we_meth, we_bi, we_bm, wes_nil, wes_cons, wo_none, wo_some, wi_e, wi_rng, we_lc, ws_expr, ws_ret, ws_retN, ws_pass, ws_brk, ws_cont, ws_asg, ws_sub, ws_fld, ws_aug, ws_iff, ws_for, ws_whl, ws_raise, ws_try, op_some, opD_some, br_some, binG_int, binI_add, binI_sub, binI_and, binI_or, binI_xor, binI_mod, binI_shr, cmpG_int, cmpB_lt, cmpB_le, cmpB_gt, cmpB_ge, cmpB_eq, cmpB_ne, cmpB_eqB, truthD_bl, truthD_int, truthD_non, truthD_tup, get_tup, get_rol, bi_len_tup, bi_len_rol, bi_int_int, bi_int_bl, bi_abs, asgP_name, op_ite, opL_some, get_ref, set_ref, bi_len_ref, bi_tuple_ref, bi_tuple_tup, bi_list_ref, bi_list_tup, bi_sum_ref, bi_sum_tup, bi_all_ref, bi_any_ref, bi_max, bi_min, truthD_ref, trO_lst, atI_pos, ixN_pos, bi_isi, gM_cf, gM_gl, gM_fld, gM_mth, gM_opo, gM_opi, gM_opu, gM_eqo, gM_isi, gM_ist, gM_xfd, gM_xiz, gM_exm, gM_fuel, gM_hot0, gM_hot1, List.getElem?_cons_zero, List.getElem?_cons_succ, List.set_cons_zero, List.set_cons_succ, decide_eq_true_eq, Bool.true_eq_false, Bool.false_eq_true, if_true, if_false, ite_true, ite_false, reduceIte, Int.reduceLE, Int.reduceLT, Int.reduceNeg, Int.reduceToNat, Int.reduceEq, Int.reduceNe, List.length_cons, List.length_nil, Nat.reduceAdd, Nat.reduceSub, Nat.reduceLT, List.length_map, true_and, and_true, decide_true, decide_false, Bool.not_true, Bool.not_false, wss_cons, wss_nil, evalC_1]
      by_cases b1 : (i : Int) < w - n
      · simp only [we_fold, wss_fold, wt_fold, we_non, we_bl, we_int, we_str, we_bty, we_var, we_glob, we_bin, we_un, wt_def, we_not, we_and, we_or, we_cmp, we_cmp2, we_ife, we_tup, we_lst, we_idx, we_sl, we_attr, we_call, we_make, we_meth, we_bi, we_bm, wes_nil, wes_cons, wo_none, wo_some, wi_e, wi_rng, we_lc, ws_expr, ws_ret, ws_retN, ws_pass, ws_brk, ws_cont, ws_asg, ws_sub, ws_fld, ws_aug, ws_iff, ws_for, ws_whl, ws_raise, ws_try, op_some, opD_some, br_some, binG_int, binI_add, binI_sub, binI_and, binI_or, binI_xor, binI_mod, binI_shr, cmpG_int, cmpB_lt, cmpB_le, cmpB_gt, cmpB_ge, cmpB_eq, cmpB_ne, cmpB_eqB, truthD_bl, truthD_int, truthD_non, truthD_tup, get_tup, get_rol, bi_len_tup, bi_len_rol, bi_int_int, bi_int_bl, bi_abs, asgP_name, op_ite, opL_some, get_ref, set_ref, bi_len_ref, bi_tuple_ref, bi_tuple_tup, bi_list_ref, bi_list_tup, bi_sum_ref, bi_sum_tup, bi_all_ref, bi_any_ref, bi_max, bi_min, truthD_ref, trO_lst, atI_pos, ixN_pos, bi_isi, gM_cf, gM_gl, gM_fld, gM_mth, gM_opo, gM_opi, gM_opu, gM_eqo, gM_isi, gM_ist, gM_xfd, gM_xiz, gM_exm, gM_fuel, gM_hot0, gM_hot1, List.getElem?_cons_zero, List.getElem?_cons_succ, List.set_cons_zero, List.set_cons_succ, decide_eq_true_eq, Bool.true_eq_false, Bool.false_eq_true, if_true, if_false, ite_true, ite_false, reduceIte, Int.reduceLE, Int.reduceLT, Int.reduceNeg, Int.reduceToNat, Int.reduceEq, Int.reduceNe, List.length_cons, List.length_nil, Nat.reduceAdd, Nat.reduceSub, Nat.reduceLT, List.length_map, true_and, and_true, decide_true, decide_false, Bool.not_true, Bool.not_false, wss_cons, wss_nil, b1, Bool.true_and, Bool.true_or]
      · simp only [we_fold, wss_fold, wt_fold, we_non, we_bl, we_int, we_str, we_bty, we_var, we_glob, we_bin, we_un, wt_def, we_not, we_and, we_or, we_cmp, we_cmp2, we_ife, we_tup, we_lst, we_idx, we_sl, we_attr, we_call, we_make, we_meth, we_bi, we_bm, wes_nil, wes_cons, wo_none, wo_some, wi_e, wi_rng, we_lc, ws_expr, ws_ret, ws_retN, ws_pass, ws_brk, ws_cont, ws_asg, ws_sub, ws_fld, ws_aug, ws_iff, ws_for, ws_whl, ws_raise, ws_try, op_some, opD_some, br_some, binG_int, binI_add, binI_sub, binI_and, binI_or, binI_xor, binI_mod, binI_shr, cmpG_int, cmpB_lt, cmpB_le, cmpB_gt, cmpB_ge, cmpB_eq, cmpB_ne, cmpB_eqB, truthD_bl, truthD_int, truthD_non, truthD_tup, get_tup, get_rol, bi_len_tup, bi_len_rol, bi_int_int, bi_int_bl, bi_abs, asgP_name, op_ite, opL_some, get_ref, set_ref, bi_len_ref, bi_tuple_ref, bi_tuple_tup, bi_list_ref, bi_list_tup, bi_sum_ref, bi_sum_tup, bi_all_ref, bi_any_ref, bi_max, bi_min, truthD_ref, trO_lst, atI_pos, ixN_pos, bi_isi, gM_cf, gM_gl, gM_fld, gM_mth, gM_opo, gM_opi, gM_opu, gM_eqo, gM_isi, gM_ist, gM_xfd, gM_xiz, gM_exm, gM_fuel, gM_hot0, gM_hot1, List.getElem?_cons_zero, List.getElem?_cons_succ, List.set_cons_zero, List.set_cons_succ, decide_eq_true_eq, Bool.true_eq_false, Bool.false_eq_true, if_true, if_false, ite_true, ite_false, reduceIte, Int.reduceLE, Int.reduceLT, Int.reduceNeg, Int.reduceToNat, Int.reduceEq, Int.reduceNe, List.length_cons, List.length_nil, Nat.reduceAdd, Nat.reduceSub, Nat.reduceLT, List.length_map, true_and, and_true, decide_true, decide_false, Bool.not_true, Bool.not_false, wss_cons, wss_nil, b1, Bool.true_and, Bool.false_or, Bool.false_and]
    | false =>
      simp only [we_fold, wss_fold, wt_fold, we_non, we_bl, we_int, we_str, we_bty, we_var, we_glob, we_bin, we_un, wt_def, we_not, we_and, we_or, we_cmp, we_cmp2, we_ife, we_tup, we_lst, we_idx, we_sl, we_attr, we_call, we_make, we_meth, we_bi, we_bm, wes_nil, wes_cons, wo_none, wo_some, wi_e, wi_rng, we_lc, ws_expr, ws_ret, ws_retN, ws_pass, ws_brk, ws_cont, ws_asg, ws_sub, ws_fld, ws_aug, ws_iff, ws_for, ws_whl, ws_raise, ws_try, op_some, opD_some, br_some, binG_int, binI_add, binI_sub, binI_and, binI_or, binI_xor, binI_mod, binI_shr, cmpG_int, cmpB_lt, cmpB_le, cmpB_gt, cmpB_ge, cmpB_eq, cmpB_ne, cmpB_eqB, truthD_bl, truthD_int, truthD_non, truthD_tup, get_tup, get_rol, bi_len_tup, bi_len_rol, bi_int_int, bi_int_bl, bi_abs, asgP_name, op_ite, opL_some, get_ref, set_ref, bi_len_ref, bi_tuple_ref, bi_tuple_tup, bi_list_ref, bi_list_tup, bi_sum_ref, bi_sum_tup, bi_all_ref, bi_any_ref, bi_max, bi_min, truthD_ref, trO_lst, atI_pos, ixN_pos, bi_isi, gM_cf, gM_gl, gM_fld, gM_mth, gM_opo, gM_opi, gM_opu, gM_eqo, gM_isi, gM_ist, gM_xfd, gM_xiz, gM_exm, gM_fuel, gM_hot0, gM_hot1, List.getElem?_cons_zero, List.getElem?_cons_succ, List.set_cons_zero, List.set_cons_succ, decide_eq_true_eq, Bool.true_eq_false, Bool.false_eq_true, if_true, if_false, ite_true, ite_false, reduceIte, Int.reduceLE, Int.reduceLT, Int.reduceNeg, Int.reduceToNat, Int.reduceEq, Int.reduceNe, List.length_cons, List.length_nil, Nat.reduceAdd, Nat.reduceSub, Nat.reduceLT, List.length_map, true_and, and_true, decide_true, decide_false, Bool.not_true, Bool.not_false, wss_cons, wss_nil, evalC_1]
      by_cases b1 : n ≤ (i : Int)
      · simp only [we_fold, wss_fold, wt_fold, we_non, we_bl, we_int, we_str, we_bty, we_var, we_glob, we_bin, we_un, wt_def, we_not, we_and, we_or, we_cmp, we_cmp2, we_ife, we_tup, we_lst, we_idx, we_sl, we_attr, we_call, we_make, we_meth, we_bi, we_bm, wes_nil, wes_cons, wo_none, wo_some, wi_e, wi_rng, we_lc, ws_expr, ws_ret, ws_retN, ws_pass, ws_brk, ws_cont, ws_asg, ws_sub, ws_fld, ws_aug, ws_iff, ws_for, ws_whl, ws_raise, ws_try, op_some, opD_some, br_some, binG_int, binI_add, binI_sub, binI_and, binI_or, binI_xor, binI_mod, binI_shr, cmpG_int, cmpB_lt, cmpB_le, cmpB_gt, cmpB_ge, cmpB_eq, cmpB_ne, cmpB_eqB, truthD_bl, truthD_int, truthD_non, truthD_tup, get_tup, get_rol, bi_len_tup, bi_len_rol, bi_int_int, bi_int_bl, bi_abs, asgP_name, op_ite, opL_some, get_ref, set_ref, bi_len_ref, bi_tuple_ref, bi_tuple_tup, bi_list_ref, bi_list_tup, bi_sum_ref, bi_sum_tup, bi_all_ref, bi_any_ref, bi_max, bi_min, truthD_ref, trO_lst, atI_pos, ixN_pos, bi_isi, gM_cf, gM_gl, gM_fld, gM_mth, gM_opo, gM_opi, gM_opu, gM_eqo, gM_isi, gM_ist, gM_xfd, gM_xiz, gM_exm, gM_fuel, gM_hot0, gM_hot1, List.getElem?_cons_zero, List.getElem?_cons_succ, List.set_cons_zero, List.set_cons_succ, decide_eq_true_eq, Bool.true_eq_false, Bool.false_eq_true, if_true, if_false, ite_true, ite_false, reduceIte, Int.reduceLE, Int.reduceLT, Int.reduceNeg, Int.reduceToNat, Int.reduceEq, Int.reduceNe, List.length_cons, List.length_nil, Nat.reduceAdd, Nat.reduceSub, Nat.reduceLT, List.length_map, true_and, and_true, decide_true, decide_false, Bool.not_true, Bool.not_false, wss_cons, wss_nil, b1, Bool.true_and, Bool.false_and, Bool.false_or]
      · simp only [we_fold, wss_fold, wt_fold, we_non, we_bl, we_int, we_str, we_bty, we_var, we_glob, we_bin, we_un, wt_def, we_not, we_and, we_or, we_cmp, we_cmp2, we_ife, we_tup, we_lst, we_idx, we_sl, we_attr, we_call, we_make, we_meth, we_bi, we_bm, wes_nil, wes_cons, wo_none, wo_some, wi_e, wi_rng, we_lc, ws_expr, ws_ret, ws_retN, ws_pass, ws_brk, ws_cont, ws_asg, ws_sub, ws_fld, ws_aug, ws_iff, ws_for, ws_whl, ws_raise, ws_try, op_some, opD_some, br_some, binG_int, binI_add, binI_sub, binI_and, binI_or, binI_xor, binI_mod, binI_shr, cmpG_int, cmpB_lt, cmpB_le, cmpB_gt, cmpB_ge, cmpB_eq, cmpB_ne, cmpB_eqB, truthD_bl, truthD_int, truthD_non, truthD_tup, get_tup, get_rol, bi_len_tup, bi_len_rol, bi_int_int, bi_int_bl, bi_abs, asgP_name, op_ite, opL_some, get_ref, set_ref, bi_len_ref, bi_tuple_ref, bi_tuple_tup, bi_list_ref, bi_list_tup, bi_sum_ref, bi_sum_tup, bi_all_ref, bi_any_ref, bi_max, bi_min, truthD_ref, trO_lst, atI_pos, ixN_pos, bi_isi, gM_cf, gM_gl, gM_fld, gM_mth, gM_opo, gM_opi, gM_opu, gM_eqo, gM_isi, gM_ist, gM_xfd, gM_xiz, gM_exm, gM_fuel, gM_hot0, gM_hot1, List.getElem?_cons_zero, List.getElem?_cons_succ, List.set_cons_zero, List.set_cons_succ, decide_eq_true_eq, Bool.true_eq_false, Bool.false_eq_true, if_true, if_false, ite_true, ite_false, reduceIte, Int.reduceLE, Int.reduceLT, Int.reduceNeg, Int.reduceToNat, Int.reduceEq, Int.reduceNe, List.length_cons, List.length_nil, Nat.reduceAdd, Nat.reduceSub, Nat.reduceLT, List.length_map, true_and, and_true, decide_true, decide_false, Bool.not_true, Bool.not_false, wss_cons, wss_nil, b1, Bool.true_and, Bool.false_or, Bool.false_and]
  · have hl : (((List.range w.toNat).filter fun (i : Nat) => (up && decide ((i : Int) < w - n)) || (!up && decide (n ≤ (i : Int)))).map fun i => Ip.D.int (i : Nat)).length ≤ w.toNat := by
      rw [List.length_map]
      exact Nat.le_trans (List.length_filter_le _ _) (by simp)
    simp only [we_fold, wss_fold, wt_fold, we_non, we_bl, we_int, we_str, we_bty, we_var, we_glob, we_bin, we_un, wt_def, we_not, we_and, we_or, we_cmp, we_cmp2, we_ife, we_tup, we_lst, we_idx, we_sl, we_attr, we_call, we_make, we_meth, we_bi, we_bm, wes_nil, wes_cons, wo_none, wo_some, wi_e, wi_rng, we_lc, ws_expr, ws_ret, ws_retN, ws_pass, ws_brk, ws_cont, ws_asg, ws_sub, ws_fld, ws_aug, ws_iff, ws_for, ws_whl, ws_raise, ws_try, op_some, opD_some, br_some, binG_int, binI_add, binI_sub, binI_and, binI_or, binI_xor, binI_mod, binI_shr, cmpG_int, cmpB_lt, cmpB_le, cmpB_gt, cmpB_ge, cmpB_eq, cmpB_ne, cmpB_eqB, truthD_bl, truthD_int, truthD_non, truthD_tup, get_tup, get_rol, bi_len_tup, bi_len_rol, bi_int_int, bi_int_bl, bi_abs, asgP_name, op_ite, opL_some, get_ref, set_ref, bi_len_ref, bi_tuple_ref, bi_tuple_tup, bi_list_ref, bi_list_tup, bi_sum_ref, bi_sum_tup, bi_all_ref, bi_any_ref, bi_max, bi_min, truthD_ref, trO_lst, atI_pos, ixN_pos, bi_isi, gM_cf, gM_gl, gM_fld, gM_mth, gM_opo, gM_opi, gM_opu, gM_eqo, gM_isi, gM_ist, gM_xfd, gM_xiz, gM_exm, gM_fuel, gM_hot0, gM_hot1, List.getElem?_cons_zero, List.getElem?_cons_succ, List.set_cons_zero, List.set_cons_succ, decide_eq_true_eq, Bool.true_eq_false, Bool.false_eq_true, if_true, if_false, ite_true, ite_false, reduceIte, Int.reduceLE, Int.reduceLT, Int.reduceNeg, Int.reduceToNat, Int.reduceEq, Int.reduceNe, List.length_cons, List.length_nil, Nat.reduceAdd, Nat.reduceSub, Nat.reduceLT, List.length_map, true_and, and_true, decide_true, decide_false, Bool.not_true, Bool.not_false, wss_cons, wss_nil, src_ref (app_at _ _)]
    refine comp_src (f := fun d => match d with
      | .int i => .int (x / 2 ^ i.toNat % 2 * 2 ^ i.toNat)
      | _ => .non) (fun i => at_live (app_at _ _) i) (by omega) (by omega) (fun d hd => ?_) ?_
    · obtain ⟨i, hi, rfl⟩ := List.mem_map.mp hd
      have hi := (List.mem_filter.mp hi).1
      have hi : i < w.toNat := by simpa using hi
      simp only [we_fold, wss_fold, wt_fold, we_non, we_bl, we_int, we_str, we_bty, we_var, we_glob, we_bin, we_un, wt_def, we_not, we_and, we_or, we_cmp, we_cmp2, we_ife, we_tup, we_lst, we_idx, we_sl, we_attr, we_call, we_make, we_meth, we_bi, we_bm, wes_nil, wes_cons, wo_none, wo_some, wi_e, wi_rng, we_lc, ws_expr, ws_ret, ws_retN, ws_pass, ws_brk, ws_cont, ws_asg, ws_sub, ws_fld, ws_aug, ws_iff, ws_for, ws_whl, ws_raise, ws_try, op_some, opD_some, br_some, binG_int, binI_add, binI_sub, binI_and, binI_or, binI_xor, binI_mod, binI_shr, cmpG_int, cmpB_lt, cmpB_le, cmpB_gt, cmpB_ge, cmpB_eq, cmpB_ne, cmpB_eqB, truthD_bl, truthD_int, truthD_non, truthD_tup, get_tup, get_rol, bi_len_tup, bi_len_rol, bi_int_int, bi_int_bl, bi_abs, asgP_name, op_ite, opL_some, get_ref, set_ref, bi_len_ref, bi_tuple_ref, bi_tuple_tup, bi_list_ref, bi_list_tup, bi_sum_ref, bi_sum_tup, bi_all_ref, bi_any_ref, bi_max, bi_min, truthD_ref, trO_lst, atI_pos, ixN_pos, bi_isi, gM_cf, gM_gl, gM_fld, gM_mth, gM_opo, gM_opi, gM_opu, gM_eqo, gM_isi, gM_ist, gM_xfd, gM_xiz, gM_exm, gM_fuel, gM_hot0, gM_hot1, List.getElem?_cons_zero, List.getElem?_cons_succ, List.set_cons_zero, List.set_cons_succ, decide_eq_true_eq, Bool.true_eq_false, Bool.false_eq_true, if_true, if_false, ite_true, ite_false, reduceIte, Int.reduceLE, Int.reduceLT, Int.reduceNeg, Int.reduceToNat, Int.reduceEq, Int.reduceNe, List.length_cons, List.length_nil, Nat.reduceAdd, Nat.reduceSub, Nat.reduceLT, List.length_map, true_and, and_true, decide_true, decide_false, Bool.not_true, Bool.not_false, wss_cons, wss_nil, Int.natCast_nonneg, Int.toNat_natCast, PyProof.Rows.bitAnd_m1]
      rw [binI_shl (n := 1) (by omega) (by omega) (by omega)]
      simp only [op_some, Int.toNat_natCast]
    · have e2 : ((((List.range w.toNat).filter fun (i : Nat) => (up && decide ((i : Int) < w - n)) || (!up && decide (n ≤ (i : Int)))).map fun i => Ip.D.int (i : Nat)).map fun d => match d with
          | .int i => Ip.D.int (x / 2 ^ i.toNat % 2 * 2 ^ i.toNat)
          | _ => .non) = (((List.range w.toNat).filter fun (i : Nat) => (up && decide ((i : Int) < w - n)) || (!up && decide (n ≤ (i : Int)))).map fun i => x / 2 ^ i % 2 * 2 ^ i).map .int := by
        rw [List.map_map, List.map_map]
        apply List.map_congr_left
        intro i _
        simp
      rw [e2]
      have r1 := shv_rng (up := up) (n := n) p.v0 p.v1
      have r2 := shv_rng (up := !up) (n := n) r1.1 r1.2
      have e3 := eq_bits r2.1 r2.2 (fun (i : Nat) => (up && decide ((i : Int) < w - n)) || (!up && decide (n ≤ (i : Int)))) (fun i => x / 2 ^ i % 2) fun i hi => shv_back w0 n0 p.v0 p.v1 hi
      simp only [we_fold, wss_fold, wt_fold, we_non, we_bl, we_int, we_str, we_bty, we_var, we_glob, we_bin, we_un, wt_def, we_not, we_and, we_or, we_cmp, we_cmp2, we_ife, we_tup, we_lst, we_idx, we_sl, we_attr, we_call, we_make, we_meth, we_bi, we_bm, wes_nil, wes_cons, wo_none, wo_some, wi_e, wi_rng, we_lc, ws_expr, ws_ret, ws_retN, ws_pass, ws_brk, ws_cont, ws_asg, ws_sub, ws_fld, ws_aug, ws_iff, ws_for, ws_whl, ws_raise, ws_try, op_some, opD_some, br_some, binG_int, binI_add, binI_sub, binI_and, binI_or, binI_xor, binI_mod, binI_shr, cmpG_int, cmpB_lt, cmpB_le, cmpB_gt, cmpB_ge, cmpB_eq, cmpB_ne, cmpB_eqB, truthD_bl, truthD_int, truthD_non, truthD_tup, get_tup, get_rol, bi_len_tup, bi_len_rol, bi_int_int, bi_int_bl, bi_abs, asgP_name, op_ite, opL_some, get_ref, set_ref, bi_len_ref, bi_tuple_ref, bi_tuple_tup, bi_list_ref, bi_list_tup, bi_sum_ref, bi_sum_tup, bi_all_ref, bi_any_ref, bi_max, bi_min, truthD_ref, trO_lst, atI_pos, ixN_pos, bi_isi, gM_cf, gM_gl, gM_fld, gM_mth, gM_opo, gM_opi, gM_opu, gM_eqo, gM_isi, gM_ist, gM_xfd, gM_xiz, gM_exm, gM_fuel, gM_hot0, gM_hot1, List.getElem?_cons_zero, List.getElem?_cons_succ, List.set_cons_zero, List.set_cons_succ, decide_eq_true_eq, Bool.true_eq_false, Bool.false_eq_true, if_true, if_false, ite_true, ite_false, reduceIte, Int.reduceLE, Int.reduceLT, Int.reduceNeg, Int.reduceToNat, Int.reduceEq, Int.reduceNe, List.length_cons, List.length_nil, Nat.reduceAdd, Nat.reduceSub, Nat.reduceLT, List.length_map, true_and, and_true, decide_true, decide_false, Bool.not_true, Bool.not_false, wss_cons, wss_nil, app_at, intsD_map, e3]
      have kp : Kp0 h (h5 ++ [O.lst (((List.range w.toNat).filter fun (i : Nat) => (up && decide ((i : Int) < w - n)) || (!up && decide (n ≤ (i : Int)))).map fun i => Ip.D.int (i : Nat))]) := ((((k1.trans k2).trans k3).trans k4).trans k5).trans (Keep.app _ _)
      refine (isw_ok K ((W5.kp (Keep.app _ _)).kp (Keep.app _ _))).imp fun r h6 ⟨e4, e5⟩ => ?_
      subst e4 e5
      exact ⟨kp.trans (Keep.app _ _), rfl⟩
theorem law_ok (K : K01 T gb) (hl : T ("law", none) = some f_law) (ns : List Int) (hn : ns.length ≤ 63) : (cal T gb none (k + 10) ("law", none) [.rol (ns.map .int)] h).wp (fun r h' => r = .bl true) X := by
  have W := K.w.w
  have D := K.d
  have hf := W.fuel
  have hz : sizeLine = 16777216 := by decide
  refine cal_wp hl rfl ?_
  simp only [f_law, List.map_cons, List.map_nil, List.replicate, List.cons_append, List.nil_append, List.length_cons, List.length_nil, Nat.reduceAdd, Nat.reduceSub]
  rw [wss_cons]; simp only [we_fold, wss_fold, wt_fold, we_non, we_bl, we_int, we_str, we_bty, we_var, we_glob, we_bin, we_un, wt_def, we_not, we_and, we_or, we_cmp, we_cmp2, we_ife, we_tup, we_lst, we_idx, we_sl, we_attr, we_call, we_make, we_meth, we_bi, we_bm, wes_nil, wes_cons, wo_none, wo_some, wi_e, wi_rng, we_lc, ws_expr, ws_ret, ws_retN, ws_pass, ws_brk, ws_cont, ws_asg, ws_sub, ws_fld, ws_aug, ws_iff, ws_for, ws_whl, ws_raise, ws_try, op_some, opD_some, br_some, binG_int, binI_add, binI_sub, binI_and, binI_or, binI_xor, binI_mod, binI_shr, cmpG_int, cmpB_lt, cmpB_le, cmpB_gt, cmpB_ge, cmpB_eq, cmpB_ne, cmpB_eqB, truthD_bl, truthD_int, truthD_non, truthD_tup, get_tup, get_rol, bi_len_tup, bi_len_rol, bi_int_int, bi_int_bl, bi_abs, asgP_name, op_ite, opL_some, get_ref, set_ref, bi_len_ref, bi_tuple_ref, bi_tuple_tup, bi_list_ref, bi_list_tup, bi_sum_ref, bi_sum_tup, bi_all_ref, bi_any_ref, bi_max, bi_min, truthD_ref, trO_lst, atI_pos, ixN_pos, bi_isi, gM_cf, gM_gl, gM_fld, gM_mth, gM_opo, gM_opi, gM_opu, gM_eqo, gM_isi, gM_ist, gM_xfd, gM_xiz, gM_exm, gM_fuel, gM_hot0, gM_hot1, List.getElem?_cons_zero, List.getElem?_cons_succ, List.set_cons_zero, List.set_cons_succ, decide_eq_true_eq, Bool.true_eq_false, Bool.false_eq_true, if_true, if_false, ite_true, ite_false, reduceIte, Int.reduceLE, Int.reduceLT, Int.reduceNeg, Int.reduceToNat, Int.reduceEq, Int.reduceNe, List.length_cons, List.length_nil, Nat.reduceAdd, Nat.reduceSub, Nat.reduceLT, List.length_map, true_and, and_true, decide_true, decide_false, Bool.not_true, Bool.not_false]
  refine (store_ok D.toDraws ns hn).imp fun r h1 ⟨_, s, e, st, _⟩ => ?_
  subst e
  try simp only [we_fold, wss_fold, wt_fold, we_non, we_bl, we_int, we_str, we_bty, we_var, we_glob, we_bin, we_un, wt_def, we_not, we_and, we_or, we_cmp, we_cmp2, we_ife, we_tup, we_lst, we_idx, we_sl, we_attr, we_call, we_make, we_meth, we_bi, we_bm, wes_nil, wes_cons, wo_none, wo_some, wi_e, wi_rng, we_lc, ws_expr, ws_ret, ws_retN, ws_pass, ws_brk, ws_cont, ws_asg, ws_sub, ws_fld, ws_aug, ws_iff, ws_for, ws_whl, ws_raise, ws_try, op_some, opD_some, br_some, binG_int, binI_add, binI_sub, binI_and, binI_or, binI_xor, binI_mod, binI_shr, cmpG_int, cmpB_lt, cmpB_le, cmpB_gt, cmpB_ge, cmpB_eq, cmpB_ne, cmpB_eqB, truthD_bl, truthD_int, truthD_non, truthD_tup, get_tup, get_rol, bi_len_tup, bi_len_rol, bi_int_int, bi_int_bl, bi_abs, asgP_name, op_ite, opL_some, get_ref, set_ref, bi_len_ref, bi_tuple_ref, bi_tuple_tup, bi_list_ref, bi_list_tup, bi_sum_ref, bi_sum_tup, bi_all_ref, bi_any_ref, bi_max, bi_min, truthD_ref, trO_lst, atI_pos, ixN_pos, bi_isi, gM_cf, gM_gl, gM_fld, gM_mth, gM_opo, gM_opi, gM_opu, gM_eqo, gM_isi, gM_ist, gM_xfd, gM_xiz, gM_exm, gM_fuel, gM_hot0, gM_hot1, List.getElem?_cons_zero, List.getElem?_cons_succ, List.set_cons_zero, List.set_cons_succ, decide_eq_true_eq, Bool.true_eq_false, Bool.false_eq_true, if_true, if_false, ite_true, ite_false, reduceIte, Int.reduceLE, Int.reduceLT, Int.reduceNeg, Int.reduceToNat, Int.reduceEq, Int.reduceNe, List.length_cons, List.length_nil, Nat.reduceAdd, Nat.reduceSub, Nat.reduceLT, List.length_map, true_and, and_true, decide_true, decide_false, Bool.not_true, Bool.not_false]
  rw [wss_cons]; simp only [we_fold, wss_fold, wt_fold, we_non, we_bl, we_int, we_str, we_bty, we_var, we_glob, we_bin, we_un, wt_def, we_not, we_and, we_or, we_cmp, we_cmp2, we_ife, we_tup, we_lst, we_idx, we_sl, we_attr, we_call, we_make, we_meth, we_bi, we_bm, wes_nil, wes_cons, wo_none, wo_some, wi_e, wi_rng, we_lc, ws_expr, ws_ret, ws_retN, ws_pass, ws_brk, ws_cont, ws_asg, ws_sub, ws_fld, ws_aug, ws_iff, ws_for, ws_whl, ws_raise, ws_try, op_some, opD_some, br_some, binG_int, binI_add, binI_sub, binI_and, binI_or, binI_xor, binI_mod, binI_shr, cmpG_int, cmpB_lt, cmpB_le, cmpB_gt, cmpB_ge, cmpB_eq, cmpB_ne, cmpB_eqB, truthD_bl, truthD_int, truthD_non, truthD_tup, get_tup, get_rol, bi_len_tup, bi_len_rol, bi_int_int, bi_int_bl, bi_abs, asgP_name, op_ite, opL_some, get_ref, set_ref, bi_len_ref, bi_tuple_ref, bi_tuple_tup, bi_list_ref, bi_list_tup, bi_sum_ref, bi_sum_tup, bi_all_ref, bi_any_ref, bi_max, bi_min, truthD_ref, trO_lst, atI_pos, ixN_pos, bi_isi, gM_cf, gM_gl, gM_fld, gM_mth, gM_opo, gM_opi, gM_opu, gM_eqo, gM_isi, gM_ist, gM_xfd, gM_xiz, gM_exm, gM_fuel, gM_hot0, gM_hot1, List.getElem?_cons_zero, List.getElem?_cons_succ, List.set_cons_zero, List.set_cons_succ, decide_eq_true_eq, Bool.true_eq_false, Bool.false_eq_true, if_true, if_false, ite_true, ite_false, reduceIte, Int.reduceLE, Int.reduceLT, Int.reduceNeg, Int.reduceToNat, Int.reduceEq, Int.reduceNe, List.length_cons, List.length_nil, Nat.reduceAdd, Nat.reduceSub, Nat.reduceLT, List.length_map, true_and, and_true, decide_true, decide_false, Bool.not_true, Bool.not_false]
  refine (width_ok D st).imp fun r h2 ⟨f2, w, e, w0, w1⟩ => ?_
  subst e
  try simp only [we_fold, wss_fold, wt_fold, we_non, we_bl, we_int, we_str, we_bty, we_var, we_glob, we_bin, we_un, wt_def, we_not, we_and, we_or, we_cmp, we_cmp2, we_ife, we_tup, we_lst, we_idx, we_sl, we_attr, we_call, we_make, we_meth, we_bi, we_bm, wes_nil, wes_cons, wo_none, wo_some, wi_e, wi_rng, we_lc, ws_expr, ws_ret, ws_retN, ws_pass, ws_brk, ws_cont, ws_asg, ws_sub, ws_fld, ws_aug, ws_iff, ws_for, ws_whl, ws_raise, ws_try, op_some, opD_some, br_some, binG_int, binI_add, binI_sub, binI_and, binI_or, binI_xor, binI_mod, binI_shr, cmpG_int, cmpB_lt, cmpB_le, cmpB_gt, cmpB_ge, cmpB_eq, cmpB_ne, cmpB_eqB, truthD_bl, truthD_int, truthD_non, truthD_tup, get_tup, get_rol, bi_len_tup, bi_len_rol, bi_int_int, bi_int_bl, bi_abs, asgP_name, op_ite, opL_some, get_ref, set_ref, bi_len_ref, bi_tuple_ref, bi_tuple_tup, bi_list_ref, bi_list_tup, bi_sum_ref, bi_sum_tup, bi_all_ref, bi_any_ref, bi_max, bi_min, truthD_ref, trO_lst, atI_pos, ixN_pos, bi_isi, gM_cf, gM_gl, gM_fld, gM_mth, gM_opo, gM_opi, gM_opu, gM_eqo, gM_isi, gM_ist, gM_xfd, gM_xiz, gM_exm, gM_fuel, gM_hot0, gM_hot1, List.getElem?_cons_zero, List.getElem?_cons_succ, List.set_cons_zero, List.set_cons_succ, decide_eq_true_eq, Bool.true_eq_false, Bool.false_eq_true, if_true, if_false, ite_true, ite_false, reduceIte, Int.reduceLE, Int.reduceLT, Int.reduceNeg, Int.reduceToNat, Int.reduceEq, Int.reduceNe, List.length_cons, List.length_nil, Nat.reduceAdd, Nat.reduceSub, Nat.reduceLT, List.length_map, true_and, and_true, decide_true, decide_false, Bool.not_true, Bool.not_false]
  rw [wss_cons]; simp only [we_fold, wss_fold, wt_fold, we_non, we_bl, we_int, we_str, we_bty, we_var, we_glob, we_bin, we_un, wt_def, we_not, we_and, we_or, we_cmp, we_cmp2, we_ife, we_tup, we_lst, we_idx, we_sl, we_attr, we_call, we_make, we_meth, we_bi, we_bm, wes_nil, wes_cons, wo_none, wo_some, wi_e, wi_rng, we_lc, ws_expr, ws_ret, ws_retN, ws_pass, ws_brk, ws_cont, ws_asg, ws_sub, ws_fld, ws_aug, ws_iff, ws_for, ws_whl, ws_raise, ws_try, op_some, opD_some, br_some, binG_int, binI_add, binI_sub, binI_and, binI_or, binI_xor, binI_mod, binI_shr, cmpG_int, cmpB_lt, cmpB_le, cmpB_gt, cmpB_ge, cmpB_eq, cmpB_ne, cmpB_eqB, truthD_bl, truthD_int, truthD_non, truthD_tup, get_tup, get_rol, bi_len_tup, bi_len_rol, bi_int_int, bi_int_bl, bi_abs, asgP_name, op_ite, opL_some, get_ref, set_ref, bi_len_ref, bi_tuple_ref, bi_tuple_tup, bi_list_ref, bi_list_tup, bi_sum_ref, bi_sum_tup, bi_all_ref, bi_any_ref, bi_max, bi_min, truthD_ref, trO_lst, atI_pos, ixN_pos, bi_isi, gM_cf, gM_gl, gM_fld, gM_mth, gM_opo, gM_opi, gM_opu, gM_eqo, gM_isi, gM_ist, gM_xfd, gM_xiz, gM_exm, gM_fuel, gM_hot0, gM_hot1, List.getElem?_cons_zero, List.getElem?_cons_succ, List.set_cons_zero, List.set_cons_succ, decide_eq_true_eq, Bool.true_eq_false, Bool.false_eq_true, if_true, if_false, ite_true, ite_false, reduceIte, Int.reduceLE, Int.reduceLT, Int.reduceNeg, Int.reduceToNat, Int.reduceEq, Int.reduceNe, List.length_cons, List.length_nil, Nat.reduceAdd, Nat.reduceSub, Nat.reduceLT, List.length_map, true_and, and_true, decide_true, decide_false, Bool.not_true, Bool.not_false]
  refine (value_ok D f2.st w w0 w1).imp fun r h3 ⟨f3, x, e, x0, x1⟩ => ?_
  subst e
  try simp only [we_fold, wss_fold, wt_fold, we_non, we_bl, we_int, we_str, we_bty, we_var, we_glob, we_bin, we_un, wt_def, we_not, we_and, we_or, we_cmp, we_cmp2, we_ife, we_tup, we_lst, we_idx, we_sl, we_attr, we_call, we_make, we_meth, we_bi, we_bm, wes_nil, wes_cons, wo_none, wo_some, wi_e, wi_rng, we_lc, ws_expr, ws_ret, ws_retN, ws_pass, ws_brk, ws_cont, ws_asg, ws_sub, ws_fld, ws_aug, ws_iff, ws_for, ws_whl, ws_raise, ws_try, op_some, opD_some, br_some, binG_int, binI_add, binI_sub, binI_and, binI_or, binI_xor, binI_mod, binI_shr, cmpG_int, cmpB_lt, cmpB_le, cmpB_gt, cmpB_ge, cmpB_eq, cmpB_ne, cmpB_eqB, truthD_bl, truthD_int, truthD_non, truthD_tup, get_tup, get_rol, bi_len_tup, bi_len_rol, bi_int_int, bi_int_bl, bi_abs, asgP_name, op_ite, opL_some, get_ref, set_ref, bi_len_ref, bi_tuple_ref, bi_tuple_tup, bi_list_ref, bi_list_tup, bi_sum_ref, bi_sum_tup, bi_all_ref, bi_any_ref, bi_max, bi_min, truthD_ref, trO_lst, atI_pos, ixN_pos, bi_isi, gM_cf, gM_gl, gM_fld, gM_mth, gM_opo, gM_opi, gM_opu, gM_eqo, gM_isi, gM_ist, gM_xfd, gM_xiz, gM_exm, gM_fuel, gM_hot0, gM_hot1, List.getElem?_cons_zero, List.getElem?_cons_succ, List.set_cons_zero, List.set_cons_succ, decide_eq_true_eq, Bool.true_eq_false, Bool.false_eq_true, if_true, if_false, ite_true, ite_false, reduceIte, Int.reduceLE, Int.reduceLT, Int.reduceNeg, Int.reduceToNat, Int.reduceEq, Int.reduceNe, List.length_cons, List.length_nil, Nat.reduceAdd, Nat.reduceSub, Nat.reduceLT, List.length_map, true_and, and_true, decide_true, decide_false, Bool.not_true, Bool.not_false]
  rw [wss_cons]; simp only [we_fold, wss_fold, wt_fold, we_non, we_bl, we_int, we_str, we_bty, we_var, we_glob, we_bin, we_un, wt_def, we_not, we_and, we_or, we_cmp, we_cmp2, we_ife, we_tup, we_lst, we_idx, we_sl, we_attr, we_call, we_make, we_meth, we_bi, we_bm, wes_nil, wes_cons, wo_none, wo_some, wi_e, wi_rng, we_lc, ws_expr, ws_ret, ws_retN, ws_pass, ws_brk, ws_cont, ws_asg, ws_sub, ws_fld, ws_aug, ws_iff, ws_for, ws_whl, ws_raise, ws_try, op_some, opD_some, br_some, binG_int, binI_add, binI_sub, binI_and, binI_or, binI_xor, binI_mod, binI_shr, cmpG_int, cmpB_lt, cmpB_le, cmpB_gt, cmpB_ge, cmpB_eq, cmpB_ne, cmpB_eqB, truthD_bl, truthD_int, truthD_non, truthD_tup, get_tup, get_rol, bi_len_tup, bi_len_rol, bi_int_int, bi_int_bl, bi_abs, asgP_name, op_ite, opL_some, get_ref, set_ref, bi_len_ref, bi_tuple_ref, bi_tuple_tup, bi_list_ref, bi_list_tup, bi_sum_ref, bi_sum_tup, bi_all_ref, bi_any_ref, bi_max, bi_min, truthD_ref, trO_lst, atI_pos, ixN_pos, bi_isi, gM_cf, gM_gl, gM_fld, gM_mth, gM_opo, gM_opi, gM_opu, gM_eqo, gM_isi, gM_ist, gM_xfd, gM_xiz, gM_exm, gM_fuel, gM_hot0, gM_hot1, List.getElem?_cons_zero, List.getElem?_cons_succ, List.set_cons_zero, List.set_cons_succ, decide_eq_true_eq, Bool.true_eq_false, Bool.false_eq_true, if_true, if_false, ite_true, ite_false, reduceIte, Int.reduceLE, Int.reduceLT, Int.reduceNeg, Int.reduceToNat, Int.reduceEq, Int.reduceNe, List.length_cons, List.length_nil, Nat.reduceAdd, Nat.reduceSub, Nat.reduceLT, List.length_map, true_and, and_true, decide_true, decide_false, Bool.not_true, Bool.not_false]
  refine (width_ok D f3.st).imp fun r h4 ⟨f4, u, e, u0, u1⟩ => ?_
  subst e
  try simp only [we_fold, wss_fold, wt_fold, we_non, we_bl, we_int, we_str, we_bty, we_var, we_glob, we_bin, we_un, wt_def, we_not, we_and, we_or, we_cmp, we_cmp2, we_ife, we_tup, we_lst, we_idx, we_sl, we_attr, we_call, we_make, we_meth, we_bi, we_bm, wes_nil, wes_cons, wo_none, wo_some, wi_e, wi_rng, we_lc, ws_expr, ws_ret, ws_retN, ws_pass, ws_brk, ws_cont, ws_asg, ws_sub, ws_fld, ws_aug, ws_iff, ws_for, ws_whl, ws_raise, ws_try, op_some, opD_some, br_some, binG_int, binI_add, binI_sub, binI_and, binI_or, binI_xor, binI_mod, binI_shr, cmpG_int, cmpB_lt, cmpB_le, cmpB_gt, cmpB_ge, cmpB_eq, cmpB_ne, cmpB_eqB, truthD_bl, truthD_int, truthD_non, truthD_tup, get_tup, get_rol, bi_len_tup, bi_len_rol, bi_int_int, bi_int_bl, bi_abs, asgP_name, op_ite, opL_some, get_ref, set_ref, bi_len_ref, bi_tuple_ref, bi_tuple_tup, bi_list_ref, bi_list_tup, bi_sum_ref, bi_sum_tup, bi_all_ref, bi_any_ref, bi_max, bi_min, truthD_ref, trO_lst, atI_pos, ixN_pos, bi_isi, gM_cf, gM_gl, gM_fld, gM_mth, gM_opo, gM_opi, gM_opu, gM_eqo, gM_isi, gM_ist, gM_xfd, gM_xiz, gM_exm, gM_fuel, gM_hot0, gM_hot1, List.getElem?_cons_zero, List.getElem?_cons_succ, List.set_cons_zero, List.set_cons_succ, decide_eq_true_eq, Bool.true_eq_false, Bool.false_eq_true, if_true, if_false, ite_true, ite_false, reduceIte, Int.reduceLE, Int.reduceLT, Int.reduceNeg, Int.reduceToNat, Int.reduceEq, Int.reduceNe, List.length_cons, List.length_nil, Nat.reduceAdd, Nat.reduceSub, Nat.reduceLT, List.length_map, true_and, and_true, decide_true, decide_false, Bool.not_true, Bool.not_false]
  rw [wss_cons]; simp only [we_fold, wss_fold, wt_fold, we_non, we_bl, we_int, we_str, we_bty, we_var, we_glob, we_bin, we_un, wt_def, we_not, we_and, we_or, we_cmp, we_cmp2, we_ife, we_tup, we_lst, we_idx, we_sl, we_attr, we_call, we_make, we_meth, we_bi, we_bm, wes_nil, wes_cons, wo_none, wo_some, wi_e, wi_rng, we_lc, ws_expr, ws_ret, ws_retN, ws_pass, ws_brk, ws_cont, ws_asg, ws_sub, ws_fld, ws_aug, ws_iff, ws_for, ws_whl, ws_raise, ws_try, op_some, opD_some, br_some, binG_int, binI_add, binI_sub, binI_and, binI_or, binI_xor, binI_mod, binI_shr, cmpG_int, cmpB_lt, cmpB_le, cmpB_gt, cmpB_ge, cmpB_eq, cmpB_ne, cmpB_eqB, truthD_bl, truthD_int, truthD_non, truthD_tup, get_tup, get_rol, bi_len_tup, bi_len_rol, bi_int_int, bi_int_bl, bi_abs, asgP_name, op_ite, opL_some, get_ref, set_ref, bi_len_ref, bi_tuple_ref, bi_tuple_tup, bi_list_ref, bi_list_tup, bi_sum_ref, bi_sum_tup, bi_all_ref, bi_any_ref, bi_max, bi_min, truthD_ref, trO_lst, atI_pos, ixN_pos, bi_isi, gM_cf, gM_gl, gM_fld, gM_mth, gM_opo, gM_opi, gM_opu, gM_eqo, gM_isi, gM_ist, gM_xfd, gM_xiz, gM_exm, gM_fuel, gM_hot0, gM_hot1, List.getElem?_cons_zero, List.getElem?_cons_succ, List.set_cons_zero, List.set_cons_succ, decide_eq_true_eq, Bool.true_eq_false, Bool.false_eq_true, if_true, if_false, ite_true, ite_false, reduceIte, Int.reduceLE, Int.reduceLT, Int.reduceNeg, Int.reduceToNat, Int.reduceEq, Int.reduceNe, List.length_cons, List.length_nil, Nat.reduceAdd, Nat.reduceSub, Nat.reduceLT, List.length_map, true_and, and_true, decide_true, decide_false, Bool.not_true, Bool.not_false]
  refine (value_ok D f4.st u u0 u1).imp fun r h5 ⟨f5, y, e, y0, y1⟩ => ?_
  subst e
  try simp only [we_fold, wss_fold, wt_fold, we_non, we_bl, we_int, we_str, we_bty, we_var, we_glob, we_bin, we_un, wt_def, we_not, we_and, we_or, we_cmp, we_cmp2, we_ife, we_tup, we_lst, we_idx, we_sl, we_attr, we_call, we_make, we_meth, we_bi, we_bm, wes_nil, wes_cons, wo_none, wo_some, wi_e, wi_rng, we_lc, ws_expr, ws_ret, ws_retN, ws_pass, ws_brk, ws_cont, ws_asg, ws_sub, ws_fld, ws_aug, ws_iff, ws_for, ws_whl, ws_raise, ws_try, op_some, opD_some, br_some, binG_int, binI_add, binI_sub, binI_and, binI_or, binI_xor, binI_mod, binI_shr, cmpG_int, cmpB_lt, cmpB_le, cmpB_gt, cmpB_ge, cmpB_eq, cmpB_ne, cmpB_eqB, truthD_bl, truthD_int, truthD_non, truthD_tup, get_tup, get_rol, bi_len_tup, bi_len_rol, bi_int_int, bi_int_bl, bi_abs, asgP_name, op_ite, opL_some, get_ref, set_ref, bi_len_ref, bi_tuple_ref, bi_tuple_tup, bi_list_ref, bi_list_tup, bi_sum_ref, bi_sum_tup, bi_all_ref, bi_any_ref, bi_max, bi_min, truthD_ref, trO_lst, atI_pos, ixN_pos, bi_isi, gM_cf, gM_gl, gM_fld, gM_mth, gM_opo, gM_opi, gM_opu, gM_eqo, gM_isi, gM_ist, gM_xfd, gM_xiz, gM_exm, gM_fuel, gM_hot0, gM_hot1, List.getElem?_cons_zero, List.getElem?_cons_succ, List.set_cons_zero, List.set_cons_succ, decide_eq_true_eq, Bool.true_eq_false, Bool.false_eq_true, if_true, if_false, ite_true, ite_false, reduceIte, Int.reduceLE, Int.reduceLT, Int.reduceNeg, Int.reduceToNat, Int.reduceEq, Int.reduceNe, List.length_cons, List.length_nil, Nat.reduceAdd, Nat.reduceSub, Nat.reduceLT, List.length_map, true_and, and_true, decide_true, decide_false, Bool.not_true, Bool.not_false]
  rw [wss_cons]; simp only [we_fold, wss_fold, wt_fold, we_non, we_bl, we_int, we_str, we_bty, we_var, we_glob, we_bin, we_un, wt_def, we_not, we_and, we_or, we_cmp, we_cmp2, we_ife, we_tup, we_lst, we_idx, we_sl, we_attr, we_call, we_make, we_meth, we_bi, we_bm, wes_nil, wes_cons, wo_none, wo_some, wi_e, wi_rng, we_lc, ws_expr, ws_ret, ws_retN, ws_pass, ws_brk, ws_cont, ws_asg, ws_sub, ws_fld, ws_aug, ws_iff, ws_for, ws_whl, ws_raise, ws_try, op_some, opD_some, br_some, binG_int, binI_add, binI_sub, binI_and, binI_or, binI_xor, binI_mod, binI_shr, cmpG_int, cmpB_lt, cmpB_le, cmpB_gt, cmpB_ge, cmpB_eq, cmpB_ne, cmpB_eqB, truthD_bl, truthD_int, truthD_non, truthD_tup, get_tup, get_rol, bi_len_tup, bi_len_rol, bi_int_int, bi_int_bl, bi_abs, asgP_name, op_ite, opL_some, get_ref, set_ref, bi_len_ref, bi_tuple_ref, bi_tuple_tup, bi_list_ref, bi_list_tup, bi_sum_ref, bi_sum_tup, bi_all_ref, bi_any_ref, bi_max, bi_min, truthD_ref, trO_lst, atI_pos, ixN_pos, bi_isi, gM_cf, gM_gl, gM_fld, gM_mth, gM_opo, gM_opi, gM_opu, gM_eqo, gM_isi, gM_ist, gM_xfd, gM_xiz, gM_exm, gM_fuel, gM_hot0, gM_hot1, List.getElem?_cons_zero, List.getElem?_cons_succ, List.set_cons_zero, List.set_cons_succ, decide_eq_true_eq, Bool.true_eq_false, Bool.false_eq_true, if_true, if_false, ite_true, ite_false, reduceIte, Int.reduceLE, Int.reduceLT, Int.reduceNeg, Int.reduceToNat, Int.reduceEq, Int.reduceNe, List.length_cons, List.length_nil, Nat.reduceAdd, Nat.reduceSub, Nat.reduceLT, List.length_map, true_and, and_true, decide_true, decide_false, Bool.not_true, Bool.not_false]
  refine (shift_ok K f5.st w0 w1).imp fun r h6 ⟨f6, n, e, cn⟩ => ?_
  subst e
  try simp only [we_fold, wss_fold, wt_fold, we_non, we_bl, we_int, we_str, we_bty, we_var, we_glob, we_bin, we_un, wt_def, we_not, we_and, we_or, we_cmp, we_cmp2, we_ife, we_tup, we_lst, we_idx, we_sl, we_attr, we_call, we_make, we_meth, we_bi, we_bm, wes_nil, wes_cons, wo_none, wo_some, wi_e, wi_rng, we_lc, ws_expr, ws_ret, ws_retN, ws_pass, ws_brk, ws_cont, ws_asg, ws_sub, ws_fld, ws_aug, ws_iff, ws_for, ws_whl, ws_raise, ws_try, op_some, opD_some, br_some, binG_int, binI_add, binI_sub, binI_and, binI_or, binI_xor, binI_mod, binI_shr, cmpG_int, cmpB_lt, cmpB_le, cmpB_gt, cmpB_ge, cmpB_eq, cmpB_ne, cmpB_eqB, truthD_bl, truthD_int, truthD_non, truthD_tup, get_tup, get_rol, bi_len_tup, bi_len_rol, bi_int_int, bi_int_bl, bi_abs, asgP_name, op_ite, opL_some, get_ref, set_ref, bi_len_ref, bi_tuple_ref, bi_tuple_tup, bi_list_ref, bi_list_tup, bi_sum_ref, bi_sum_tup, bi_all_ref, bi_any_ref, bi_max, bi_min, truthD_ref, trO_lst, atI_pos, ixN_pos, bi_isi, gM_cf, gM_gl, gM_fld, gM_mth, gM_opo, gM_opi, gM_opu, gM_eqo, gM_isi, gM_ist, gM_xfd, gM_xiz, gM_exm, gM_fuel, gM_hot0, gM_hot1, List.getElem?_cons_zero, List.getElem?_cons_succ, List.set_cons_zero, List.set_cons_succ, decide_eq_true_eq, Bool.true_eq_false, Bool.false_eq_true, if_true, if_false, ite_true, ite_false, reduceIte, Int.reduceLE, Int.reduceLT, Int.reduceNeg, Int.reduceToNat, Int.reduceEq, Int.reduceNe, List.length_cons, List.length_nil, Nat.reduceAdd, Nat.reduceSub, Nat.reduceLT, List.length_map, true_and, and_true, decide_true, decide_false, Bool.not_true, Bool.not_false]
  rw [wss_cons]; simp only [we_fold, wss_fold, wt_fold, we_non, we_bl, we_int, we_str, we_bty, we_var, we_glob, we_bin, we_un, wt_def, we_not, we_and, we_or, we_cmp, we_cmp2, we_ife, we_tup, we_lst, we_idx, we_sl, we_attr, we_call, we_make, we_meth, we_bi, we_bm, wes_nil, wes_cons, wo_none, wo_some, wi_e, wi_rng, we_lc, ws_expr, ws_ret, ws_retN, ws_pass, ws_brk, ws_cont, ws_asg, ws_sub, ws_fld, ws_aug, ws_iff, ws_for, ws_whl, ws_raise, ws_try, op_some, opD_some, br_some, binG_int, binI_add, binI_sub, binI_and, binI_or, binI_xor, binI_mod, binI_shr, cmpG_int, cmpB_lt, cmpB_le, cmpB_gt, cmpB_ge, cmpB_eq, cmpB_ne, cmpB_eqB, truthD_bl, truthD_int, truthD_non, truthD_tup, get_tup, get_rol, bi_len_tup, bi_len_rol, bi_int_int, bi_int_bl, bi_abs, asgP_name, op_ite, opL_some, get_ref, set_ref, bi_len_ref, bi_tuple_ref, bi_tuple_tup, bi_list_ref, bi_list_tup, bi_sum_ref, bi_sum_tup, bi_all_ref, bi_any_ref, bi_max, bi_min, truthD_ref, trO_lst, atI_pos, ixN_pos, bi_isi, gM_cf, gM_gl, gM_fld, gM_mth, gM_opo, gM_opi, gM_opu, gM_eqo, gM_isi, gM_ist, gM_xfd, gM_xiz, gM_exm, gM_fuel, gM_hot0, gM_hot1, List.getElem?_cons_zero, List.getElem?_cons_succ, List.set_cons_zero, List.set_cons_succ, decide_eq_true_eq, Bool.true_eq_false, Bool.false_eq_true, if_true, if_false, ite_true, ite_false, reduceIte, Int.reduceLE, Int.reduceLT, Int.reduceNeg, Int.reduceToNat, Int.reduceEq, Int.reduceNe, List.length_cons, List.length_nil, Nat.reduceAdd, Nat.reduceSub, Nat.reduceLT, List.length_map, true_and, and_true, decide_true, decide_false, Bool.not_true, Bool.not_false]
  refine (shift_ok K f6.st w0 w1).imp fun r h7 ⟨f7, q, e, cq⟩ => ?_
  subst e
  try simp only [we_fold, wss_fold, wt_fold, we_non, we_bl, we_int, we_str, we_bty, we_var, we_glob, we_bin, we_un, wt_def, we_not, we_and, we_or, we_cmp, we_cmp2, we_ife, we_tup, we_lst, we_idx, we_sl, we_attr, we_call, we_make, we_meth, we_bi, we_bm, wes_nil, wes_cons, wo_none, wo_some, wi_e, wi_rng, we_lc, ws_expr, ws_ret, ws_retN, ws_pass, ws_brk, ws_cont, ws_asg, ws_sub, ws_fld, ws_aug, ws_iff, ws_for, ws_whl, ws_raise, ws_try, op_some, opD_some, br_some, binG_int, binI_add, binI_sub, binI_and, binI_or, binI_xor, binI_mod, binI_shr, cmpG_int, cmpB_lt, cmpB_le, cmpB_gt, cmpB_ge, cmpB_eq, cmpB_ne, cmpB_eqB, truthD_bl, truthD_int, truthD_non, truthD_tup, get_tup, get_rol, bi_len_tup, bi_len_rol, bi_int_int, bi_int_bl, bi_abs, asgP_name, op_ite, opL_some, get_ref, set_ref, bi_len_ref, bi_tuple_ref, bi_tuple_tup, bi_list_ref, bi_list_tup, bi_sum_ref, bi_sum_tup, bi_all_ref, bi_any_ref, bi_max, bi_min, truthD_ref, trO_lst, atI_pos, ixN_pos, bi_isi, gM_cf, gM_gl, gM_fld, gM_mth, gM_opo, gM_opi, gM_opu, gM_eqo, gM_isi, gM_ist, gM_xfd, gM_xiz, gM_exm, gM_fuel, gM_hot0, gM_hot1, List.getElem?_cons_zero, List.getElem?_cons_succ, List.set_cons_zero, List.set_cons_succ, decide_eq_true_eq, Bool.true_eq_false, Bool.false_eq_true, if_true, if_false, ite_true, ite_false, reduceIte, Int.reduceLE, Int.reduceLT, Int.reduceNeg, Int.reduceToNat, Int.reduceEq, Int.reduceNe, List.length_cons, List.length_nil, Nat.reduceAdd, Nat.reduceSub, Nat.reduceLT, List.length_map, true_and, and_true, decide_true, decide_false, Bool.not_true, Bool.not_false]
  rw [wss_cons]; simp only [we_fold, wss_fold, wt_fold, we_non, we_bl, we_int, we_str, we_bty, we_var, we_glob, we_bin, we_un, wt_def, we_not, we_and, we_or, we_cmp, we_cmp2, we_ife, we_tup, we_lst, we_idx, we_sl, we_attr, we_call, we_make, we_meth, we_bi, we_bm, wes_nil, wes_cons, wo_none, wo_some, wi_e, wi_rng, we_lc, ws_expr, ws_ret, ws_retN, ws_pass, ws_brk, ws_cont, ws_asg, ws_sub, ws_fld, ws_aug, ws_iff, ws_for, ws_whl, ws_raise, ws_try, op_some, opD_some, br_some, binG_int, binI_add, binI_sub, binI_and, binI_or, binI_xor, binI_mod, binI_shr, cmpG_int, cmpB_lt, cmpB_le, cmpB_gt, cmpB_ge, cmpB_eq, cmpB_ne, cmpB_eqB, truthD_bl, truthD_int, truthD_non, truthD_tup, get_tup, get_rol, bi_len_tup, bi_len_rol, bi_int_int, bi_int_bl, bi_abs, asgP_name, op_ite, opL_some, get_ref, set_ref, bi_len_ref, bi_tuple_ref, bi_tuple_tup, bi_list_ref, bi_list_tup, bi_sum_ref, bi_sum_tup, bi_all_ref, bi_any_ref, bi_max, bi_min, truthD_ref, trO_lst, atI_pos, ixN_pos, bi_isi, gM_cf, gM_gl, gM_fld, gM_mth, gM_opo, gM_opi, gM_opu, gM_eqo, gM_isi, gM_ist, gM_xfd, gM_xiz, gM_exm, gM_fuel, gM_hot0, gM_hot1, List.getElem?_cons_zero, List.getElem?_cons_succ, List.set_cons_zero, List.set_cons_succ, decide_eq_true_eq, Bool.true_eq_false, Bool.false_eq_true, if_true, if_false, ite_true, ite_false, reduceIte, Int.reduceLE, Int.reduceLT, Int.reduceNeg, Int.reduceToNat, Int.reduceEq, Int.reduceNe, List.length_cons, List.length_nil, Nat.reduceAdd, Nat.reduceSub, Nat.reduceLT, List.length_map, true_and, and_true, decide_true, decide_false, Bool.not_true, Bool.not_false]
  refine (make_ok W w0 w1 x0 x1).imp fun r h8 ⟨k8, a, e, _, A⟩ => ?_
  subst e
  try simp only [we_fold, wss_fold, wt_fold, we_non, we_bl, we_int, we_str, we_bty, we_var, we_glob, we_bin, we_un, wt_def, we_not, we_and, we_or, we_cmp, we_cmp2, we_ife, we_tup, we_lst, we_idx, we_sl, we_attr, we_call, we_make, we_meth, we_bi, we_bm, wes_nil, wes_cons, wo_none, wo_some, wi_e, wi_rng, we_lc, ws_expr, ws_ret, ws_retN, ws_pass, ws_brk, ws_cont, ws_asg, ws_sub, ws_fld, ws_aug, ws_iff, ws_for, ws_whl, ws_raise, ws_try, op_some, opD_some, br_some, binG_int, binI_add, binI_sub, binI_and, binI_or, binI_xor, binI_mod, binI_shr, cmpG_int, cmpB_lt, cmpB_le, cmpB_gt, cmpB_ge, cmpB_eq, cmpB_ne, cmpB_eqB, truthD_bl, truthD_int, truthD_non, truthD_tup, get_tup, get_rol, bi_len_tup, bi_len_rol, bi_int_int, bi_int_bl, bi_abs, asgP_name, op_ite, opL_some, get_ref, set_ref, bi_len_ref, bi_tuple_ref, bi_tuple_tup, bi_list_ref, bi_list_tup, bi_sum_ref, bi_sum_tup, bi_all_ref, bi_any_ref, bi_max, bi_min, truthD_ref, trO_lst, atI_pos, ixN_pos, bi_isi, gM_cf, gM_gl, gM_fld, gM_mth, gM_opo, gM_opi, gM_opu, gM_eqo, gM_isi, gM_ist, gM_xfd, gM_xiz, gM_exm, gM_fuel, gM_hot0, gM_hot1, List.getElem?_cons_zero, List.getElem?_cons_succ, List.set_cons_zero, List.set_cons_succ, decide_eq_true_eq, Bool.true_eq_false, Bool.false_eq_true, if_true, if_false, ite_true, ite_false, reduceIte, Int.reduceLE, Int.reduceLT, Int.reduceNeg, Int.reduceToNat, Int.reduceEq, Int.reduceNe, List.length_cons, List.length_nil, Nat.reduceAdd, Nat.reduceSub, Nat.reduceLT, List.length_map, true_and, and_true, decide_true, decide_false, Bool.not_true, Bool.not_false]
  rw [wss_cons]; simp only [we_fold, wss_fold, wt_fold, we_non, we_bl, we_int, we_str, we_bty, we_var, we_glob, we_bin, we_un, wt_def, we_not, we_and, we_or, we_cmp, we_cmp2, we_ife, we_tup, we_lst, we_idx, we_sl, we_attr, we_call, we_make, we_meth, we_bi, we_bm, wes_nil, wes_cons, wo_none, wo_some, wi_e, wi_rng, we_lc, ws_expr, ws_ret, ws_retN, ws_pass, ws_brk, ws_cont, ws_asg, ws_sub, ws_fld, ws_aug, ws_iff, ws_for, ws_whl, ws_raise, ws_try, op_some, opD_some, br_some, binG_int, binI_add, binI_sub, binI_and, binI_or, binI_xor, binI_mod, binI_shr, cmpG_int, cmpB_lt, cmpB_le, cmpB_gt, cmpB_ge, cmpB_eq, cmpB_ne, cmpB_eqB, truthD_bl, truthD_int, truthD_non, truthD_tup, get_tup, get_rol, bi_len_tup, bi_len_rol, bi_int_int, bi_int_bl, bi_abs, asgP_name, op_ite, opL_some, get_ref, set_ref, bi_len_ref, bi_tuple_ref, bi_tuple_tup, bi_list_ref, bi_list_tup, bi_sum_ref, bi_sum_tup, bi_all_ref, bi_any_ref, bi_max, bi_min, truthD_ref, trO_lst, atI_pos, ixN_pos, bi_isi, gM_cf, gM_gl, gM_fld, gM_mth, gM_opo, gM_opi, gM_opu, gM_eqo, gM_isi, gM_ist, gM_xfd, gM_xiz, gM_exm, gM_fuel, gM_hot0, gM_hot1, List.getElem?_cons_zero, List.getElem?_cons_succ, List.set_cons_zero, List.set_cons_succ, decide_eq_true_eq, Bool.true_eq_false, Bool.false_eq_true, if_true, if_false, ite_true, ite_false, reduceIte, Int.reduceLE, Int.reduceLT, Int.reduceNeg, Int.reduceToNat, Int.reduceEq, Int.reduceNe, List.length_cons, List.length_nil, Nat.reduceAdd, Nat.reduceSub, Nat.reduceLT, List.length_map, true_and, and_true, decide_true, decide_false, Bool.not_true, Bool.not_false]
  refine (make_ok W u0 u1 y0 y1).imp fun r h9 ⟨k9, b, e, _, B⟩ => ?_
  subst e
  have A := A.kp k9
  try simp only [we_fold, wss_fold, wt_fold, we_non, we_bl, we_int, we_str, we_bty, we_var, we_glob, we_bin, we_un, wt_def, we_not, we_and, we_or, we_cmp, we_cmp2, we_ife, we_tup, we_lst, we_idx, we_sl, we_attr, we_call, we_make, we_meth, we_bi, we_bm, wes_nil, wes_cons, wo_none, wo_some, wi_e, wi_rng, we_lc, ws_expr, ws_ret, ws_retN, ws_pass, ws_brk, ws_cont, ws_asg, ws_sub, ws_fld, ws_aug, ws_iff, ws_for, ws_whl, ws_raise, ws_try, op_some, opD_some, br_some, binG_int, binI_add, binI_sub, binI_and, binI_or, binI_xor, binI_mod, binI_shr, cmpG_int, cmpB_lt, cmpB_le, cmpB_gt, cmpB_ge, cmpB_eq, cmpB_ne, cmpB_eqB, truthD_bl, truthD_int, truthD_non, truthD_tup, get_tup, get_rol, bi_len_tup, bi_len_rol, bi_int_int, bi_int_bl, bi_abs, asgP_name, op_ite, opL_some, get_ref, set_ref, bi_len_ref, bi_tuple_ref, bi_tuple_tup, bi_list_ref, bi_list_tup, bi_sum_ref, bi_sum_tup, bi_all_ref, bi_any_ref, bi_max, bi_min, truthD_ref, trO_lst, atI_pos, ixN_pos, bi_isi, gM_cf, gM_gl, gM_fld, gM_mth, gM_opo, gM_opi, gM_opu, gM_eqo, gM_isi, gM_ist, gM_xfd, gM_xiz, gM_exm, gM_fuel, gM_hot0, gM_hot1, List.getElem?_cons_zero, List.getElem?_cons_succ, List.set_cons_zero, List.set_cons_succ, decide_eq_true_eq, Bool.true_eq_false, Bool.false_eq_true, if_true, if_false, ite_true, ite_false, reduceIte, Int.reduceLE, Int.reduceLT, Int.reduceNeg, Int.reduceToNat, Int.reduceEq, Int.reduceNe, List.length_cons, List.length_nil, Nat.reduceAdd, Nat.reduceSub, Nat.reduceLT, List.length_map, true_and, and_true, decide_true, decide_false, Bool.not_true, Bool.not_false]
  rw [wss_cons]; simp only [we_fold, wss_fold, wt_fold, we_non, we_bl, we_int, we_str, we_bty, we_var, we_glob, we_bin, we_un, wt_def, we_not, we_and, we_or, we_cmp, we_cmp2, we_ife, we_tup, we_lst, we_idx, we_sl, we_attr, we_call, we_make, we_meth, we_bi, we_bm, wes_nil, wes_cons, wo_none, wo_some, wi_e, wi_rng, we_lc, ws_expr, ws_ret, ws_retN, ws_pass, ws_brk, ws_cont, ws_asg, ws_sub, ws_fld, ws_aug, ws_iff, ws_for, ws_whl, ws_raise, ws_try, op_some, opD_some, br_some, binG_int, binI_add, binI_sub, binI_and, binI_or, binI_xor, binI_mod, binI_shr, cmpG_int, cmpB_lt, cmpB_le, cmpB_gt, cmpB_ge, cmpB_eq, cmpB_ne, cmpB_eqB, truthD_bl, truthD_int, truthD_non, truthD_tup, get_tup, get_rol, bi_len_tup, bi_len_rol, bi_int_int, bi_int_bl, bi_abs, asgP_name, op_ite, opL_some, get_ref, set_ref, bi_len_ref, bi_tuple_ref, bi_tuple_tup, bi_list_ref, bi_list_tup, bi_sum_ref, bi_sum_tup, bi_all_ref, bi_any_ref, bi_max, bi_min, truthD_ref, trO_lst, atI_pos, ixN_pos, bi_isi, gM_cf, gM_gl, gM_fld, gM_mth, gM_opo, gM_opi, gM_opu, gM_eqo, gM_isi, gM_ist, gM_xfd, gM_xiz, gM_exm, gM_fuel, gM_hot0, gM_hot1, List.getElem?_cons_zero, List.getElem?_cons_succ, List.set_cons_zero, List.set_cons_succ, decide_eq_true_eq, Bool.true_eq_false, Bool.false_eq_true, if_true, if_false, ite_true, ite_false, reduceIte, Int.reduceLE, Int.reduceLT, Int.reduceNeg, Int.reduceToNat, Int.reduceEq, Int.reduceNe, List.length_cons, List.length_nil, Nat.reduceAdd, Nat.reduceSub, Nat.reduceLT, List.length_map, true_and, and_true, decide_true, decide_false, Bool.not_true, Bool.not_false, hz, Nat.reduceLeDiff, src_ref (app_at _ _)]
  refine for_live (a := h9.length) (l := [.bl true, .bl false, .bl true]) (fun i δ h' => Kp0 (h9 ++ [O.lst [.bl true, .bl false, .bl true]]) h' ∧ ∃ o, δ = [some (.rol (ns.map .int)), some (.ref s.1), some (.int w), some (.int x), some (.int u), some (.int y), some (.int n), some (.int q), some (.ref a), some (.ref b), o]) (by simp; omega) ⟨.refl _, _, rfl⟩ (fun i δ h1 ⟨e, _⟩ => e.at_ _ _ (app_at _ _) id) (fun i d δ h' e ⟨kp, o, e2⟩ => ?_) fun δ h' ⟨kp, o, e2⟩ => ?_
  · obtain ⟨up, rfl⟩ : ∃ up : Bool, d = .bl up := by
      have := List.mem_of_getElem? e
      simp only [List.mem_cons, List.not_mem_nil, or_false] at this
      rcases this with rfl | rfl | rfl
      · exact ⟨_, rfl⟩
      · exact ⟨_, rfl⟩
      · exact ⟨_, rfl⟩
    subst e2
    have kp0 : Kp0 h9 h' := (Keep.app _ _).trans kp
    have A := A.kp kp0
    have B := B.kp kp0
    simp only [we_fold, wss_fold, wt_fold, we_non, we_bl, we_int, we_str, we_bty, we_var, we_glob, we_bin, we_un, wt_def, we_not, we_and, we_or, we_cmp, we_cmp2, we_ife, we_tup, we_lst, we_idx, we_sl, we_attr, we_call, we_make, we_meth, we_bi, we_bm, wes_nil, wes_cons, wo_none, wo_some, wi_e, wi_rng, we_lc, ws_expr, ws_ret, ws_retN, ws_pass, ws_brk, ws_cont, ws_asg, ws_sub, ws_fld, ws_aug, ws_iff, ws_for, ws_whl, ws_raise, ws_try, op_some, opD_some, br_some, binG_int, binI_add, binI_sub, binI_and, binI_or, binI_xor, binI_mod, binI_shr, cmpG_int, cmpB_lt, cmpB_le, cmpB_gt, cmpB_ge, cmpB_eq, cmpB_ne, cmpB_eqB, truthD_bl, truthD_int, truthD_non, truthD_tup, get_tup, get_rol, bi_len_tup, bi_len_rol, bi_int_int, bi_int_bl, bi_abs, asgP_name, op_ite, opL_some, get_ref, set_ref, bi_len_ref, bi_tuple_ref, bi_tuple_tup, bi_list_ref, bi_list_tup, bi_sum_ref, bi_sum_tup, bi_all_ref, bi_any_ref, bi_max, bi_min, truthD_ref, trO_lst, atI_pos, ixN_pos, bi_isi, gM_cf, gM_gl, gM_fld, gM_mth, gM_opo, gM_opi, gM_opu, gM_eqo, gM_isi, gM_ist, gM_xfd, gM_xiz, gM_exm, gM_fuel, gM_hot0, gM_hot1, List.getElem?_cons_zero, List.getElem?_cons_succ, List.set_cons_zero, List.set_cons_succ, decide_eq_true_eq, Bool.true_eq_false, Bool.false_eq_true, if_true, if_false, ite_true, ite_false, reduceIte, Int.reduceLE, Int.reduceLT, Int.reduceNeg, Int.reduceToNat, Int.reduceEq, Int.reduceNe, List.length_cons, List.length_nil, Nat.reduceAdd, Nat.reduceSub, Nat.reduceLT, List.length_map, true_and, and_true, decide_true, decide_false, Bool.not_true, Bool.not_false, wss_cons, wss_nil]
    refine (one_ok K A cn).imp fun r g1 ⟨l1, e⟩ => ?_
    subst e
    have A := A.kp l1
    have B := B.kp l1
    try simp only [we_fold, wss_fold, wt_fold, we_non, we_bl, we_int, we_str, we_bty, we_var, we_glob, we_bin, we_un, wt_def, we_not, we_and, we_or, we_cmp, we_cmp2, we_ife, we_tup, we_lst, we_idx, we_sl, we_attr, we_call, we_make, we_meth, we_bi, we_bm, wes_nil, wes_cons, wo_none, wo_some, wi_e, wi_rng, we_lc, ws_expr, ws_ret, ws_retN, ws_pass, ws_brk, ws_cont, ws_asg, ws_sub, ws_fld, ws_aug, ws_iff, ws_for, ws_whl, ws_raise, ws_try, op_some, opD_some, br_some, binG_int, binI_add, binI_sub, binI_and, binI_or, binI_xor, binI_mod, binI_shr, cmpG_int, cmpB_lt, cmpB_le, cmpB_gt, cmpB_ge, cmpB_eq, cmpB_ne, cmpB_eqB, truthD_bl, truthD_int, truthD_non, truthD_tup, get_tup, get_rol, bi_len_tup, bi_len_rol, bi_int_int, bi_int_bl, bi_abs, asgP_name, op_ite, opL_some, get_ref, set_ref, bi_len_ref, bi_tuple_ref, bi_tuple_tup, bi_list_ref, bi_list_tup, bi_sum_ref, bi_sum_tup, bi_all_ref, bi_any_ref, bi_max, bi_min, truthD_ref, trO_lst, atI_pos, ixN_pos, bi_isi, gM_cf, gM_gl, gM_fld, gM_mth, gM_opo, gM_opi, gM_opu, gM_eqo, gM_isi, gM_ist, gM_xfd, gM_xiz, gM_exm, gM_fuel, gM_hot0, gM_hot1, List.getElem?_cons_zero, List.getElem?_cons_succ, List.set_cons_zero, List.set_cons_succ, decide_eq_true_eq, Bool.true_eq_false, Bool.false_eq_true, if_true, if_false, ite_true, ite_false, reduceIte, Int.reduceLE, Int.reduceLT, Int.reduceNeg, Int.reduceToNat, Int.reduceEq, Int.reduceNe, List.length_cons, List.length_nil, Nat.reduceAdd, Nat.reduceSub, Nat.reduceLT, List.length_map, true_and, and_true, decide_true, decide_false, Bool.not_true, Bool.not_false, wss_cons, wss_nil]
    refine (one_ok K B cq).imp fun r g2 ⟨l2, e⟩ => ?_
    subst e
    have A := A.kp l2
    have B := B.kp l2
    try simp only [we_fold, wss_fold, wt_fold, we_non, we_bl, we_int, we_str, we_bty, we_var, we_glob, we_bin, we_un, wt_def, we_not, we_and, we_or, we_cmp, we_cmp2, we_ife, we_tup, we_lst, we_idx, we_sl, we_attr, we_call, we_make, we_meth, we_bi, we_bm, wes_nil, wes_cons, wo_none, wo_some, wi_e, wi_rng, we_lc, ws_expr, ws_ret, ws_retN, ws_pass, ws_brk, ws_cont, ws_asg, ws_sub, ws_fld, ws_aug, ws_iff, ws_for, ws_whl, ws_raise, ws_try, op_some, opD_some, br_some, binG_int, binI_add, binI_sub, binI_and, binI_or, binI_xor, binI_mod, binI_shr, cmpG_int, cmpB_lt, cmpB_le, cmpB_gt, cmpB_ge, cmpB_eq, cmpB_ne, cmpB_eqB, truthD_bl, truthD_int, truthD_non, truthD_tup, get_tup, get_rol, bi_len_tup, bi_len_rol, bi_int_int, bi_int_bl, bi_abs, asgP_name, op_ite, opL_some, get_ref, set_ref, bi_len_ref, bi_tuple_ref, bi_tuple_tup, bi_list_ref, bi_list_tup, bi_sum_ref, bi_sum_tup, bi_all_ref, bi_any_ref, bi_max, bi_min, truthD_ref, trO_lst, atI_pos, ixN_pos, bi_isi, gM_cf, gM_gl, gM_fld, gM_mth, gM_opo, gM_opi, gM_opu, gM_eqo, gM_isi, gM_ist, gM_xfd, gM_xiz, gM_exm, gM_fuel, gM_hot0, gM_hot1, List.getElem?_cons_zero, List.getElem?_cons_succ, List.set_cons_zero, List.set_cons_succ, decide_eq_true_eq, Bool.true_eq_false, Bool.false_eq_true, if_true, if_false, ite_true, ite_false, reduceIte, Int.reduceLE, Int.reduceLT, Int.reduceNeg, Int.reduceToNat, Int.reduceEq, Int.reduceNe, List.length_cons, List.length_nil, Nat.reduceAdd, Nat.reduceSub, Nat.reduceLT, List.length_map, true_and, and_true, decide_true, decide_false, Bool.not_true, Bool.not_false, wss_cons, wss_nil]
    refine (one_ok K A cq).imp fun r g3 ⟨l3, e⟩ => ?_
    subst e
    have A := A.kp l3
    have B := B.kp l3
    try simp only [we_fold, wss_fold, wt_fold, we_non, we_bl, we_int, we_str, we_bty, we_var, we_glob, we_bin, we_un, wt_def, we_not, we_and, we_or, we_cmp, we_cmp2, we_ife, we_tup, we_lst, we_idx, we_sl, we_attr, we_call, we_make, we_meth, we_bi, we_bm, wes_nil, wes_cons, wo_none, wo_some, wi_e, wi_rng, we_lc, ws_expr, ws_ret, ws_retN, ws_pass, ws_brk, ws_cont, ws_asg, ws_sub, ws_fld, ws_aug, ws_iff, ws_for, ws_whl, ws_raise, ws_try, op_some, opD_some, br_some, binG_int, binI_add, binI_sub, binI_and, binI_or, binI_xor, binI_mod, binI_shr, cmpG_int, cmpB_lt, cmpB_le, cmpB_gt, cmpB_ge, cmpB_eq, cmpB_ne, cmpB_eqB, truthD_bl, truthD_int, truthD_non, truthD_tup, get_tup, get_rol, bi_len_tup, bi_len_rol, bi_int_int, bi_int_bl, bi_abs, asgP_name, op_ite, opL_some, get_ref, set_ref, bi_len_ref, bi_tuple_ref, bi_tuple_tup, bi_list_ref, bi_list_tup, bi_sum_ref, bi_sum_tup, bi_all_ref, bi_any_ref, bi_max, bi_min, truthD_ref, trO_lst, atI_pos, ixN_pos, bi_isi, gM_cf, gM_gl, gM_fld, gM_mth, gM_opo, gM_opi, gM_opu, gM_eqo, gM_isi, gM_ist, gM_xfd, gM_xiz, gM_exm, gM_fuel, gM_hot0, gM_hot1, List.getElem?_cons_zero, List.getElem?_cons_succ, List.set_cons_zero, List.set_cons_succ, decide_eq_true_eq, Bool.true_eq_false, Bool.false_eq_true, if_true, if_false, ite_true, ite_false, reduceIte, Int.reduceLE, Int.reduceLT, Int.reduceNeg, Int.reduceToNat, Int.reduceEq, Int.reduceNe, List.length_cons, List.length_nil, Nat.reduceAdd, Nat.reduceSub, Nat.reduceLT, List.length_map, true_and, and_true, decide_true, decide_false, Bool.not_true, Bool.not_false, wss_cons, wss_nil]
    refine (one_ok K A (cnt_of (by omega) (by omega))).imp fun r g4 ⟨l4, e⟩ => ?_
    subst e
    have A := A.kp l4
    have B := B.kp l4
    try simp only [we_fold, wss_fold, wt_fold, we_non, we_bl, we_int, we_str, we_bty, we_var, we_glob, we_bin, we_un, wt_def, we_not, we_and, we_or, we_cmp, we_cmp2, we_ife, we_tup, we_lst, we_idx, we_sl, we_attr, we_call, we_make, we_meth, we_bi, we_bm, wes_nil, wes_cons, wo_none, wo_some, wi_e, wi_rng, we_lc, ws_expr, ws_ret, ws_retN, ws_pass, ws_brk, ws_cont, ws_asg, ws_sub, ws_fld, ws_aug, ws_iff, ws_for, ws_whl, ws_raise, ws_try, op_some, opD_some, br_some, binG_int, binI_add, binI_sub, binI_and, binI_or, binI_xor, binI_mod, binI_shr, cmpG_int, cmpB_lt, cmpB_le, cmpB_gt, cmpB_ge, cmpB_eq, cmpB_ne, cmpB_eqB, truthD_bl, truthD_int, truthD_non, truthD_tup, get_tup, get_rol, bi_len_tup, bi_len_rol, bi_int_int, bi_int_bl, bi_abs, asgP_name, op_ite, opL_some, get_ref, set_ref, bi_len_ref, bi_tuple_ref, bi_tuple_tup, bi_list_ref, bi_list_tup, bi_sum_ref, bi_sum_tup, bi_all_ref, bi_any_ref, bi_max, bi_min, truthD_ref, trO_lst, atI_pos, ixN_pos, bi_isi, gM_cf, gM_gl, gM_fld, gM_mth, gM_opo, gM_opi, gM_opu, gM_eqo, gM_isi, gM_ist, gM_xfd, gM_xiz, gM_exm, gM_fuel, gM_hot0, gM_hot1, List.getElem?_cons_zero, List.getElem?_cons_succ, List.set_cons_zero, List.set_cons_succ, decide_eq_true_eq, Bool.true_eq_false, Bool.false_eq_true, if_true, if_false, ite_true, ite_false, reduceIte, Int.reduceLE, Int.reduceLT, Int.reduceNeg, Int.reduceToNat, Int.reduceEq, Int.reduceNe, List.length_cons, List.length_nil, Nat.reduceAdd, Nat.reduceSub, Nat.reduceLT, List.length_map, true_and, and_true, decide_true, decide_false, Bool.not_true, Bool.not_false, wss_cons, wss_nil]
    refine (one_ok K A cn).imp fun r g5 ⟨l5, e⟩ => ?_
    subst e
    have A := A.kp l5
    have B := B.kp l5
    try simp only [we_fold, wss_fold, wt_fold, we_non, we_bl, we_int, we_str, we_bty, we_var, we_glob, we_bin, we_un, wt_def, we_not, we_and, we_or, we_cmp, we_cmp2, we_ife, we_tup, we_lst, we_idx, we_sl, we_attr, we_call, we_make, we_meth, we_bi, we_bm, wes_nil, wes_cons, wo_none, wo_some, wi_e, wi_rng, we_lc, ws_expr, ws_ret, ws_retN, ws_pass, ws_brk, ws_cont, ws_asg, ws_sub, ws_fld, ws_aug, ws_iff, ws_for, ws_whl, ws_raise, ws_try, op_some, opD_some, br_some, binG_int, binI_add, binI_sub, binI_and, binI_or, binI_xor, binI_mod, binI_shr, cmpG_int, cmpB_lt, cmpB_le, cmpB_gt, cmpB_ge, cmpB_eq, cmpB_ne, cmpB_eqB, truthD_bl, truthD_int, truthD_non, truthD_tup, get_tup, get_rol, bi_len_tup, bi_len_rol, bi_int_int, bi_int_bl, bi_abs, asgP_name, op_ite, opL_some, get_ref, set_ref, bi_len_ref, bi_tuple_ref, bi_tuple_tup, bi_list_ref, bi_list_tup, bi_sum_ref, bi_sum_tup, bi_all_ref, bi_any_ref, bi_max, bi_min, truthD_ref, trO_lst, atI_pos, ixN_pos, bi_isi, gM_cf, gM_gl, gM_fld, gM_mth, gM_opo, gM_opi, gM_opu, gM_eqo, gM_isi, gM_ist, gM_xfd, gM_xiz, gM_exm, gM_fuel, gM_hot0, gM_hot1, List.getElem?_cons_zero, List.getElem?_cons_succ, List.set_cons_zero, List.set_cons_succ, decide_eq_true_eq, Bool.true_eq_false, Bool.false_eq_true, if_true, if_false, ite_true, ite_false, reduceIte, Int.reduceLE, Int.reduceLT, Int.reduceNeg, Int.reduceToNat, Int.reduceEq, Int.reduceNe, List.length_cons, List.length_nil, Nat.reduceAdd, Nat.reduceSub, Nat.reduceLT, List.length_map, true_and, and_true, decide_true, decide_false, Bool.not_true, Bool.not_false, wss_cons, wss_nil]
    refine (refuses_ok K B (show 0 - 1 - u < 0 by omega) (cnt_of (by omega) (by omega)).2).imp fun r g6 ⟨e1, e2⟩ => ?_
    subst e1 e2
    try simp only [we_fold, wss_fold, wt_fold, we_non, we_bl, we_int, we_str, we_bty, we_var, we_glob, we_bin, we_un, wt_def, we_not, we_and, we_or, we_cmp, we_cmp2, we_ife, we_tup, we_lst, we_idx, we_sl, we_attr, we_call, we_make, we_meth, we_bi, we_bm, wes_nil, wes_cons, wo_none, wo_some, wi_e, wi_rng, we_lc, ws_expr, ws_ret, ws_retN, ws_pass, ws_brk, ws_cont, ws_asg, ws_sub, ws_fld, ws_aug, ws_iff, ws_for, ws_whl, ws_raise, ws_try, op_some, opD_some, br_some, binG_int, binI_add, binI_sub, binI_and, binI_or, binI_xor, binI_mod, binI_shr, cmpG_int, cmpB_lt, cmpB_le, cmpB_gt, cmpB_ge, cmpB_eq, cmpB_ne, cmpB_eqB, truthD_bl, truthD_int, truthD_non, truthD_tup, get_tup, get_rol, bi_len_tup, bi_len_rol, bi_int_int, bi_int_bl, bi_abs, asgP_name, op_ite, opL_some, get_ref, set_ref, bi_len_ref, bi_tuple_ref, bi_tuple_tup, bi_list_ref, bi_list_tup, bi_sum_ref, bi_sum_tup, bi_all_ref, bi_any_ref, bi_max, bi_min, truthD_ref, trO_lst, atI_pos, ixN_pos, bi_isi, gM_cf, gM_gl, gM_fld, gM_mth, gM_opo, gM_opi, gM_opu, gM_eqo, gM_isi, gM_ist, gM_xfd, gM_xiz, gM_exm, gM_fuel, gM_hot0, gM_hot1, List.getElem?_cons_zero, List.getElem?_cons_succ, List.set_cons_zero, List.set_cons_succ, decide_eq_true_eq, Bool.true_eq_false, Bool.false_eq_true, if_true, if_false, ite_true, ite_false, reduceIte, Int.reduceLE, Int.reduceLT, Int.reduceNeg, Int.reduceToNat, Int.reduceEq, Int.reduceNe, List.length_cons, List.length_nil, Nat.reduceAdd, Nat.reduceSub, Nat.reduceLT, List.length_map, true_and, and_true, decide_true, decide_false, Bool.not_true, Bool.not_false, wss_cons, wss_nil]
    refine (two_ok K A).imp fun r g7 ⟨l7, e⟩ => ?_
    subst e
    try simp only [we_fold, wss_fold, wt_fold, we_non, we_bl, we_int, we_str, we_bty, we_var, we_glob, we_bin, we_un, wt_def, we_not, we_and, we_or, we_cmp, we_cmp2, we_ife, we_tup, we_lst, we_idx, we_sl, we_attr, we_call, we_make, we_meth, we_bi, we_bm, wes_nil, wes_cons, wo_none, wo_some, wi_e, wi_rng, we_lc, ws_expr, ws_ret, ws_retN, ws_pass, ws_brk, ws_cont, ws_asg, ws_sub, ws_fld, ws_aug, ws_iff, ws_for, ws_whl, ws_raise, ws_try, op_some, opD_some, br_some, binG_int, binI_add, binI_sub, binI_and, binI_or, binI_xor, binI_mod, binI_shr, cmpG_int, cmpB_lt, cmpB_le, cmpB_gt, cmpB_ge, cmpB_eq, cmpB_ne, cmpB_eqB, truthD_bl, truthD_int, truthD_non, truthD_tup, get_tup, get_rol, bi_len_tup, bi_len_rol, bi_int_int, bi_int_bl, bi_abs, asgP_name, op_ite, opL_some, get_ref, set_ref, bi_len_ref, bi_tuple_ref, bi_tuple_tup, bi_list_ref, bi_list_tup, bi_sum_ref, bi_sum_tup, bi_all_ref, bi_any_ref, bi_max, bi_min, truthD_ref, trO_lst, atI_pos, ixN_pos, bi_isi, gM_cf, gM_gl, gM_fld, gM_mth, gM_opo, gM_opi, gM_opu, gM_eqo, gM_isi, gM_ist, gM_xfd, gM_xiz, gM_exm, gM_fuel, gM_hot0, gM_hot1, List.getElem?_cons_zero, List.getElem?_cons_succ, List.set_cons_zero, List.set_cons_succ, decide_eq_true_eq, Bool.true_eq_false, Bool.false_eq_true, if_true, if_false, ite_true, ite_false, reduceIte, Int.reduceLE, Int.reduceLT, Int.reduceNeg, Int.reduceToNat, Int.reduceEq, Int.reduceNe, List.length_cons, List.length_nil, Nat.reduceAdd, Nat.reduceSub, Nat.reduceLT, List.length_map, true_and, and_true, decide_true, decide_false, Bool.not_true, Bool.not_false, wss_cons, wss_nil]
    exact ⟨(((((kp.trans l1).trans l2).trans l3).trans l4).trans l5).trans l7, _, rfl⟩
  · subst e2
    have kp0 : Kp0 h9 h' := (Keep.app _ _).trans kp
    have A := A.kp kp0
    have B := B.kp kp0
    simp only [we_fold, wss_fold, wt_fold, we_non, we_bl, we_int, we_str, we_bty, we_var, we_glob, we_bin, we_un, wt_def, we_not, we_and, we_or, we_cmp, we_cmp2, we_ife, we_tup, we_lst, we_idx, we_sl, we_attr, we_call, we_make, we_meth, we_bi, we_bm, wes_nil, wes_cons, wo_none, wo_some, wi_e, wi_rng, we_lc, ws_expr, ws_ret, ws_retN, ws_pass, ws_brk, ws_cont, ws_asg, ws_sub, ws_fld, ws_aug, ws_iff, ws_for, ws_whl, ws_raise, ws_try, op_some, opD_some, br_some, binG_int, binI_add, binI_sub, binI_and, binI_or, binI_xor, binI_mod, binI_shr, cmpG_int, cmpB_lt, cmpB_le, cmpB_gt, cmpB_ge, cmpB_eq, cmpB_ne, cmpB_eqB, truthD_bl, truthD_int, truthD_non, truthD_tup, get_tup, get_rol, bi_len_tup, bi_len_rol, bi_int_int, bi_int_bl, bi_abs, asgP_name, op_ite, opL_some, get_ref, set_ref, bi_len_ref, bi_tuple_ref, bi_tuple_tup, bi_list_ref, bi_list_tup, bi_sum_ref, bi_sum_tup, bi_all_ref, bi_any_ref, bi_max, bi_min, truthD_ref, trO_lst, atI_pos, ixN_pos, bi_isi, gM_cf, gM_gl, gM_fld, gM_mth, gM_opo, gM_opi, gM_opu, gM_eqo, gM_isi, gM_ist, gM_xfd, gM_xiz, gM_exm, gM_fuel, gM_hot0, gM_hot1, List.getElem?_cons_zero, List.getElem?_cons_succ, List.set_cons_zero, List.set_cons_succ, decide_eq_true_eq, Bool.true_eq_false, Bool.false_eq_true, if_true, if_false, ite_true, ite_false, reduceIte, Int.reduceLE, Int.reduceLT, Int.reduceNeg, Int.reduceToNat, Int.reduceEq, Int.reduceNe, List.length_cons, List.length_nil, Nat.reduceAdd, Nat.reduceSub, Nat.reduceLT, List.length_map, true_and, and_true, decide_true, decide_false, Bool.not_true, Bool.not_false, wss_cons, wss_nil]
    refine (isw_ok K A).imp fun r g1 ⟨e1, e2⟩ => ?_
    subst e1 e2
    try simp only [we_fold, wss_fold, wt_fold, we_non, we_bl, we_int, we_str, we_bty, we_var, we_glob, we_bin, we_un, wt_def, we_not, we_and, we_or, we_cmp, we_cmp2, we_ife, we_tup, we_lst, we_idx, we_sl, we_attr, we_call, we_make, we_meth, we_bi, we_bm, wes_nil, wes_cons, wo_none, wo_some, wi_e, wi_rng, we_lc, ws_expr, ws_ret, ws_retN, ws_pass, ws_brk, ws_cont, ws_asg, ws_sub, ws_fld, ws_aug, ws_iff, ws_for, ws_whl, ws_raise, ws_try, op_some, opD_some, br_some, binG_int, binI_add, binI_sub, binI_and, binI_or, binI_xor, binI_mod, binI_shr, cmpG_int, cmpB_lt, cmpB_le, cmpB_gt, cmpB_ge, cmpB_eq, cmpB_ne, cmpB_eqB, truthD_bl, truthD_int, truthD_non, truthD_tup, get_tup, get_rol, bi_len_tup, bi_len_rol, bi_int_int, bi_int_bl, bi_abs, asgP_name, op_ite, opL_some, get_ref, set_ref, bi_len_ref, bi_tuple_ref, bi_tuple_tup, bi_list_ref, bi_list_tup, bi_sum_ref, bi_sum_tup, bi_all_ref, bi_any_ref, bi_max, bi_min, truthD_ref, trO_lst, atI_pos, ixN_pos, bi_isi, gM_cf, gM_gl, gM_fld, gM_mth, gM_opo, gM_opi, gM_opu, gM_eqo, gM_isi, gM_ist, gM_xfd, gM_xiz, gM_exm, gM_fuel, gM_hot0, gM_hot1, List.getElem?_cons_zero, List.getElem?_cons_succ, List.set_cons_zero, List.set_cons_succ, decide_eq_true_eq, Bool.true_eq_false, Bool.false_eq_true, if_true, if_false, ite_true, ite_false, reduceIte, Int.reduceLE, Int.reduceLT, Int.reduceNeg, Int.reduceToNat, Int.reduceEq, Int.reduceNe, List.length_cons, List.length_nil, Nat.reduceAdd, Nat.reduceSub, Nat.reduceLT, List.length_map, true_and, and_true, decide_true, decide_false, Bool.not_true, Bool.not_false, wss_cons, wss_nil]
    exact (isw_ok K B).imp fun r g1 ⟨e1, e2⟩ => e2
end
theorem k01 : K01 S.T S.gb where
  d := { fuel := by decide, mix := rfl, take := rfl, store := rfl, chance := rfl, pick := rfl, great := rfl, rowof := rfl, numof := rfl, row := rfl, lrow := rfl, width := rfl, value := rfl }
  s := by constructor <;> first | rfl | decide +kernel
  w := ⟨by constructor <;> first | rfl | decide +kernel, rfl, rfl, rfl, rfl, rfl⟩
  e := by constructor <;> first | rfl | decide +kernel
  m_index := rfl
  shift := rfl
  shifted := rfl
  bit := rfl
  moved := rfl
  isw := rfl
  refuses := rfl
  one := rfl
  two := rfl
theorem plain (ns : List Int) (hl : ns.length ≤ 63) : ∃ h', (lvs S.T S.gb 60).1 none ("law", none) [.rol (ns.map .int)] [] = .ok (.bl true) h' := by
  obtain ⟨r, h', e, rfl⟩ := wp_ok_of (law_ok (k := 50) (X := fun _ _ _ => False) k01 rfl ns hl) fun _ _ _ z => z
  exact ⟨h', e⟩
end Lk01
end
section
set_option Elab.async false
set_option linter.all false
set_option maxRecDepth 100000
set_option maxHeartbeats 0
open PySem PySem.W PySem.Calls PyProof.Rows
theorem PySem.Challenge.cw_wirewatch_k01_words_shift_holds : PySem.Challenge.rw_wirewatch_k01_words_shift.Holds := by
  w_on; o_law
  refine HandSHeadRun.head_any (r := OpenLaw.row PySem.Challenge.rw_wirewatch_k01_words_shift) (q := Lk01.qv) (H := Lk01.S.hook Lk01.file 5) (ob := Lk01.ob) (M := 20000) (loose := Lk01.names) (d := HandSHeadRun.topDef (OpenLaw.row PySem.Challenge.rw_wirewatch_k01_words_shift).prog 39) (kwd := []) Lk01.ob_eq
    (by kernel_rfl) (fun s => by kernel_rfl) Lk01.run (by kernel_rfl) (by kernel_rfl) (by kernel_rfl) (by rfl) (by first | assumption | decide +kernel) (by decide +kernel) ⟨rfl, rfl, rfl, rfl, rfl, by decide +kernel⟩ ?hw ?hc
  case hw => w_witness2
  case hc =>
    exact Ip.law_walk (l := PySem.Challenge.rw_wirewatch_k01_words_shift) (S := Lk01.S) (file := Lk01.file) (n := 63) (k := 60) (x := "_law_script") (fn := Lk01.f_law) rfl (by decide) (by kernel_rfl) ⟨rfl, by decide, by decide⟩ (by kernel_rfl) Lk01.stat rfl (by decide +kernel) (by decide +kernel) (by kernel_rfl) rfl Lk01.plain
end
