import PyProof.Rows.All
import Wide.All
import OpenK.AllK
import Wide.FinOn
import HandS.ForMost
import HandS.TupAny
import HandS.IsInst
import HandS.Wide
import HandS.Lambda
import HandS.Exc
import HandS.ExcIs
import HandS.ExcOwn
import HandS.WordsExc
import HandS.ExcInit
import HandS.ExcField
import HandS.ClsMeth
import HandS.ExcCtx
import HandS.HotCalls
import HandS.TupMul
import PyProof.StrBlock2
import HandS.Deep
import HandS.More
import HandS.SortInts
import HandS.Rev
import HandS.Conv
import HandS.Replace
import HandS.TryElse
import HandS.RevRange
import HandS.SetFor
import HandS.ReplaceLit
import KE.SortKeyHeap
import KE.SortData
import HandS.SortKw
import HandS.Nested
import KE.KNestM
import HandS.EndTab
import PyProof.Rows.StrSplitJoin
import PyProof.Rows.StrFromFirst
import PyProof.Rows.StrLawsPart
import PyProof.Rows.StrSplitCount
import PySem.Challenge.RW_boughback_k51_sets_of_one_part
set_option Elab.async false
set_option linter.all false
set_option maxRecDepth 100000
set_option maxRecDepth 100000
/-! Part 1: values as trees, a small language, and what it computes. -/
namespace Bv
open PySem L2
/-- the keys of a dict -/
abbrev DK := Sum Key (List Key)
inductive Kd where
  | tup | lst
  | dct (ks : List DK)
  | ins (C : Str) (ns : List Str)
  deriving DecidableEq, Inhabited
/-- a value as a tree: nothing in it changes any more -/
inductive T where
  | non | bl (b : Bool) | int (i : Int) | str (s : Str)
  | nod (k : Kd) (ts : List T)
  deriving Inhabited
/-- a value some of whose parts are owned (true) or borrowed (false) -/
inductive G where
  | val (t : T)
  | nod (own : Bool) (k : Kd) (gs : List G)
  deriving Inhabited
mutual
def G.toT : G → T
  | .val t => t
  | .nod _ k gs => .nod k (G.toTs gs)
def G.toTs : List G → List T
  | [] => []
  | g :: gs => g.toT :: G.toTs gs
end
mutual
def G.bor : G → G
  | .val t => .val t
  | .nod _ k gs => .nod false k (G.bors gs)
def G.bors : List G → List G
  | [] => []
  | g :: gs => g.bor :: G.bors gs
end
mutual
/-- nothing borrowed in it -/
def G.free : G → Bool
  | .val _ => true
  | .nod o _ gs => o && G.frees gs
def G.frees : List G → Bool
  | [] => true
  | g :: gs => g.free && G.frees gs
end
/-- what a def gets -/
def G.arg (g : G) : G := if g.free then .val g.toT else g.bor
def G.args : List G → List G
  | [] => []
  | g :: gs => g.arg :: G.args gs
/-- a tree alone -/
def G.val? : G → Option T
  | .val t => some t
  | .nod .. => none
def G.vals? : List G → Option (List T)
  | [] => some []
  | g :: gs => match g.val?, G.vals? gs with
    | some t, some ts => some (t :: ts)
    | _, _ => none
/-- a node's parts -/
def G.parts : G → Option (Kd × List G)
  | .val (.nod k ts) => some (k, ts.map .val)
  | .nod _ k gs => some (k, gs)
  | _ => none
/-- the trees of a list or a tuple -/
def G.items (g : G) : Option (List T) := match g.parts with
  | some (.lst, gs) => G.vals? gs
  | some (.tup, gs) => G.vals? gs
  | _ => none
def G.own (k : Kd) (ts : List T) : G := .nod true k (ts.map .val)
/-- an exception: its class, its fields -/
structure Exn where
  cls : Str
  fs : List (Str × T)
inductive Res (α : Type) where
  | ok (a : α) | exc (x : Exn) | stk
def Res.bind {α β : Type} (r : Res α) (f : α → Res β) : Res β := match r with
  | .ok a => f a
  | .exc x => .exc x
  | .stk => .stk
/-- a call's end: the result, the lent arguments as they are now -/
inductive CRes where
  | ok (r : G) (gs : List G) | exc (x : Exn) (gs : List G) | stk
structure Fns where
  call : Str → List G → CRes
  /-- a class's method: the def's name, its parameters -/
  meth : Str → Str → Option (Str × Nat)
  init : Str → Option (Str × Nat)
  /-- no class attribute of that name -/
  fld : Str → Str → Bool
  /-- isinstance -/
  sub : Str → Str → Option Bool
  /-- the own exception classes that are made by a text alone -/
  xcl : Str → Bool
  /-- an own exception class below another class -/
  xsub : Str → Str → Option Bool
  /-- the own exception classes that are made by one value: the field that it goes to -/
  xin : Str → Option Str
  /-- the defs that ask whether a value is a number, no truth, and which -/
  isd : Str → Bool
  /-- the own exception classes that are made by two values: their fields -/
  xin2 : Str → Option (Str × Str) := fun _ => none
  /-- the defs that ask of which class an exception is: the classes -/
  xkd : Str → Option (List Str) := fun _ => none
abbrev Env := List (Option G)
inductive BOp where
  | add | sub | mul | fdiv | mod | pow
  deriving DecidableEq
inductive COp where
  | eq | ne | lt | le | gt | ge | is | nis | in_ | nin
  deriving DecidableEq
inductive Bf where
  | len | list | tuple | int | str | abs | max | min | sum | any | all | sorted | divmod
  deriving DecidableEq
inductive Ty where
  | ty (n : String) | cls (C : Str)
  deriving DecidableEq
/-- where an item goes -/
inductive Tg where
  | nm (i : Nat)
  | pr (is : List Nat)
  deriving Inhabited
/-- how a comprehension walks -/
inductive IK where
  | it | rng1 | rng2 | zip | enm
  deriving DecidableEq, Inhabited
inductive E where
  | var (i : Nat)
  | glb (x : Str)
  | con (t : T)
  | neg (a : E)
  | not (a : E)
  | bin (o : BOp) (a b : E)
  | cmp (o : COp) (a b : E)
  | and (es : List E)
  | or (es : List E)
  | idx (a i : E)
  | slc (a : E) (lo hi : Option E)
  | fld (a : E) (f : Str)
  | tup (es : List E)
  | lst (es : List E)
  | call (f : Str) (es : List E)
  | bif (b : Bf) (es : List E)
  | isi (a : E) (c : Ty)
  | lc (tg : Tg) (k : IK) (as : List E) (c : List E) (e : E)
  | meth (a : E) (m : Str) (es : List E)
  | mk (C : Str) (es : List E)
  | dct
  | lrg (a : E)
  deriving Inhabited
/-! ### what the operations give -/
mutual
def T.pd : T → Option PyData
  | .non => some .none
  | .bl b => some (.bool b)
  | .int i => some (.int i)
  | .str s => some (.str s)
  | .nod .tup ts => (T.pds ts).map .tuple
  | .nod .lst ts => (T.pds ts).map .list
  | .nod (.dct _) _ => none
  | .nod (.ins _ _) _ => none
def T.pds : List T → Option (List PyData)
  | [] => some []
  | t :: ts => match t.pd, T.pds ts with
    | some d, some ds => some (d :: ds)
    | _, _ => none
end
/-- a == b, of data -/
def eqD (a b : T) : Res Bool := match a.pd, b.pd with
  | some d, some e => if SeqAt.shaped d && SeqAt.shaped e then .ok (PyData.eqv d e) else .stk
  | _, _ => .stk
def ints? : List T → Option (List Int)
  | [] => some []
  | .int i :: ts => (ints? ts).map (i :: ·)
  | _ :: _ => none
/-- two lists of unlike lengths -/
def lenNe : T → T → Bool
  | .nod .lst xs, .nod .lst ys => xs.length != ys.length
  | _, _ => false
/-- a == b -/
def eqT (a b : T) : Res Bool := if lenNe a b then .ok false else eqD a b
def isOwn : G → Bool
  | .nod true _ _ => true
  | _ => false
def mulOk (i j : Int) : Bool := decide (i.natAbs.log2 + j.natAbs.log2 < 100000000)
def divOk (j : Int) : Bool := decide (0 < j) && decide (j.natAbs.log2 < 9000)
def powOk (i j : Int) : Bool := decide (0 ≤ j) && decide (j ≤ 1000000) && decide (i.natAbs < 2 ^ 64)
def tupCat (xs ys : List T) : Res G := if xs.length + ys.length ≤ sizeLine then .ok (.val (.nod .tup (xs ++ ys))) else .stk
def strMulOk (x : Str) (n : Int) : Bool := decide (0 ≤ n) && decide (n ≤ 1000) && decide (x.length ≤ 1000)
def binG (o : BOp) (a b : G) : Res G := match o, a.toT, b.toT with
  | .add, .int i, .int j => .ok (.val (.int (i + j)))
  | .sub, .int i, .int j => .ok (.val (.int (i - j)))
  | .mul, .int i, .int j => if mulOk i j then .ok (.val (.int (i * j))) else .stk
  | .fdiv, .int i, .int j => if divOk j then .ok (.val (.int (i / j))) else .stk
  | .mod, .int i, .int j => if 0 < j then .ok (.val (.int (i % j))) else .stk
  | .pow, .int i, .int j => if powOk i j then .ok (.val (.int (i ^ j.toNat))) else .stk
  | .add, .str x, .str y => if x.length + y.length ≤ sizeLine then .ok (.val (.str (x ++ y))) else .stk
  | .mul, .str x, .int n => if strMulOk x n then .ok (.val (.str (Txt.mul x n))) else .stk
  | .add, .nod .tup _, .nod .tup _ => match a, b with
    | .val (.nod .tup xs), .val (.nod .tup ys) => tupCat xs ys
    | _, _ => .stk
  | .add, .nod .lst _, .nod .lst _ => match a.items, b.items with
    | some xs, some ys => if xs.length + ys.length ≤ sizeLine then .ok (.own .lst (xs ++ ys)) else .stk
    | _, _ => .stk
  | .mul, .nod .lst _, .int n => match a.items, isOwn a with
    | some xs, true => if decide (-1000 ≤ n) && decide (n ≤ 1000) && decide (xs.length * n.toNat ≤ sizeLine) then .ok (.own .lst (List.replicate n.toNat xs).flatten) else .stk
    | _, _ => .stk
  | .mul, .nod .tup _, .int n => match a with
    | .val (.nod .tup xs) => if decide (2 ≤ n) && decide (n ≤ 1000) && decide (xs.length ≤ 1000) && !xs.isEmpty then .ok (.val (.nod .tup (List.replicate n.toNat xs).flatten)) else .stk
    | _ => .stk
  | _, _, _ => .stk
def strs? : List T → Option (List Str)
  | [] => some []
  | .str i :: ts => (strs? ts).map (i :: ·)
  | _ :: _ => none
/-- None in a list of data -/
def nonIn (ts : List T) : Res Bool := match T.pds ts with
  | some ds => if SeqAt.shaped (.list ds) then .ok (ds.any fun z => PyData.eqv z .none) else .stk
  | none => .stk
/-- a value in a list of data -/
def dataIn (a : T) (ts : List T) : Res Bool := match a.pd, T.pds ts with
  | some d, some ds => if SeqAt.shaped d && SeqAt.shaped (.list ds) then .ok (ds.any fun z => PyData.eqv z d) else .stk
  | _, _ => .stk
def inStr (i j : Str) : Bool := !(Builtin.Str.occurrences j i 0 j.length 1).isEmpty
def flatT : T → Bool
  | .nod .. => false
  | _ => true
def toV : T → V
  | .non => .non | .bl b => .bl b | .int i => .int i | .str s => .str s
  | .nod .. => .non
def isNon : T → Bool
  | .non => true
  | _ => false
def cmpT (o : COp) (a b : T) : Res Bool := match o with
  | .eq => eqT a b
  | .ne => (eqT a b).bind fun r => .ok (!r)
  | .lt => match a, b with
    | .int i, .int j => .ok (decide (i < j))
    | .str x, .str y => .ok (decide (x.cps.toList < y.cps.toList))
    | _, _ => .stk
  | .le => match a, b with
    | .int i, .int j => .ok (decide (i ≤ j))
    | _, _ => .stk
  | .gt => match a, b with
    | .int i, .int j => .ok (decide (j < i))
    | .str x, .str y => .ok (decide (y.cps.toList < x.cps.toList))
    | _, _ => .stk
  | .ge => match a, b with
    | .int i, .int j => .ok (decide (j ≤ i))
    | _, _ => .stk
  | .is => match b with
    | .non => .ok (isNon a)
    | _ => .stk
  | .nis => match b with
    | .non => .ok (!isNon a)
    | _ => .stk
  | .in_ => match a, b with
    | .str x, .str y => .ok (inStr x y)
    | .int i, .nod (.dct ks) _ => .ok (ks.any fun k => decide (k = .inl (.inl i)))
    | .int i, .nod .lst ts => match ints? ts with
      | some ns => .ok (decide (i ∈ ns))
      | none => .stk
    | .str i, .nod .lst ts => match strs? ts with
      | some ns => .ok (decide (i ∈ ns))
      | none => .stk
    | .non, .nod .lst ts => nonIn ts
    | _, _ => .stk
  | .nin => match a, b with
    | .str x, .str y => .ok (!inStr x y)
    | .int i, .nod (.dct ks) _ => .ok (!ks.any fun k => decide (k = .inl (.inl i)))
    | .int i, .nod .lst ts => match ints? ts with
      | some ns => .ok (!decide (i ∈ ns))
      | none => .stk
    | .str i, .nod .lst ts => match strs? ts with
      | some ns => .ok (!decide (i ∈ ns))
      | none => .stk
    | .nod .tup xs, .nod .lst ts => (dataIn (.nod .tup xs) ts).bind fun r => .ok (!r)
    | _, _ => .stk
def idxG (g : G) (i : Int) : Res G := match g.parts with
  | some (.lst, gs) => match atI gs i with
    | some x => .ok x
    | none => .stk
  | some (.tup, gs) => match atI gs i with
    | some x => .ok x
    | none => .stk
  | _ => match g with
    | .val (.str z) => match atI z.cps.toList i with
      | some c => if z.length ≤ sizeLine then .ok (.val (.str ⟨#[c]⟩)) else .stk
      | none => .stk
    | _ => .stk
def cutL {α : Type} (xs : List α) (lo hi : Option Int) : List α := (xs.drop (HT.sIx xs.length 0 lo)).take (HT.sIx xs.length xs.length hi - HT.sIx xs.length 0 lo)
def slcG (g : G) (lo hi : Option Int) : Res G := match g with
  | .val (.str z) => if z.length ≤ sizeLine then .ok (.val (.str (cutS z lo hi))) else .stk
  | .val (.nod .tup ts) => .ok (.val (.nod .tup (cutL ts lo hi)))
  | g => match g.parts with
    | some (.lst, gs) => match G.vals? gs with
      | some ts => .ok (.own .lst (cutL ts lo hi))
      | none => .stk
    | _ => .stk
def lenT : T → Res Int
  | .str s => if s.length ≤ sizeLine then .ok s.length else .stk
  | .nod .lst ts => .ok ts.length
  | .nod .tup ts => .ok ts.length
  | _ => .stk
def lstItems (g : G) : Option (List T) := match g.parts with
  | some (.lst, gs) => G.vals? gs
  | _ => none
def bls? : List T → Option (List Bool)
  | [] => some []
  | .bl i :: ts => (bls? ts).map (i :: ·)
  | _ :: _ => none
def maxI : List Int → Option Int
  | [] => none
  | n :: ns => some (ns.foldl max n)
def minI : List Int → Option Int
  | [] => none
  | n :: ns => some (ns.foldl min n)
def sortI (ns : List Int) : List Int := ns.mergeSort fun a b => decide (a ≤ b)
/-- the keys of a dict of ints -/
def dkI : List DK → Option (List Int)
  | [] => some []
  | .inl (.inl i) :: ks => (dkI ks).map (i :: ·)
  | _ :: _ => none
def srtKeys (g : G) : Res G := match g.parts with
  | some (.dct ks, _) => match dkI ks with
    | some ns => .ok (.nod true .lst ((sortI ns).map fun i => .val (.int i)))
    | none => .stk
  | _ => .stk
def intS (a : Str) : Res G := match PySem.intText? a with
  | some n => if a.length ≤ 640 then .ok (.val (.int n)) else .stk
  | none => .stk
def bifG (b : Bf) (gs : List G) : Res G := match b, gs with
  | .len, [g] => (lenT g.toT).bind fun n => .ok (.val (.int n))
  | .list, [g] => match g.items with
    | some ts => .ok (.own .lst ts)
    | none => .stk
  | .abs, [g] => match g.toT with
    | .int i => .ok (.val (.int (if i < 0 then -i else i)))
    | _ => .stk
  | .max, [a, b] => match a.toT, b.toT with
    | .int i, .int j => .ok (.val (.int (if j > i then j else i)))
    | _, _ => .stk
  | .min, [a, b] => match a.toT, b.toT with
    | .int i, .int j => .ok (.val (.int (if j < i then j else i)))
    | _, _ => .stk
  | .sum, [g] => match (lstItems g).bind ints? with
    | some ns => .ok (.val (.int ns.sum))
    | none => .stk
  | .max, [g] => match ((lstItems g).bind ints?).bind maxI with
    | some m => .ok (.val (.int m))
    | none => .stk
  | .min, [g] => match ((lstItems g).bind ints?).bind minI with
    | some m => .ok (.val (.int m))
    | none => .stk
  | .any, [g] => match (lstItems g).bind bls? with
    | some bs => .ok (.val (.bl (bs.any id)))
    | none => .stk
  | .all, [g] => match (lstItems g).bind bls? with
    | some bs => .ok (.val (.bl (bs.all id)))
    | none => .stk
  | .sorted, [g] => match (lstItems g).bind ints? with
    | some ns => .ok (.nod true .lst ((sortI ns).map fun i => .val (.int i)))
    | none => srtKeys g
  | .tuple, [g] => match lstItems g with
    | some ts => .ok (.val (.nod .tup ts))
    | none => .stk
  | .int, [g] => match g.toT with
    | .int i => .ok (.val (.int i))
    | .bl b => .ok (.val (.int (if b then 1 else 0)))
    | .str a => intS a
    | _ => .stk
  | .str, [g] => match g.toT with
    | .int i => if i.natAbs.log2 < 1920 then .ok (.val (.str (toString i))) else .stk
    | _ => .stk
  | .divmod, [a, b] => match a.toT, b.toT with
    | .int i, .int j => if 0 < j ∧ j < 1073741824 then .ok (.val (.nod .tup [.int (i / j), .int (i % j)])) else .stk
    | _, _ => .stk
  | _, _ => .stk
def tyOf : T → Option String
  | .non => some "NoneType" | .bl _ => some "bool" | .int _ => some "int" | .str _ => some "str"
  | .nod .lst _ => some "list" | .nod .tup _ => some "tuple" | .nod (.dct _) _ => some "dict" | .nod (.ins _ _) _ => none
def isiT (t : T) (c : Ty) : Res Bool := match tyOf t, c with
  | some m, .ty n => match kitB m n with
    | some b => .ok b
    | none => .stk
  | _, _ => .stk
def isiX (Φ : Fns) (t : T) (c : Ty) : Res Bool := match c with
  | .ty _ => isiT t c
  | .cls D => match t with
    | .nod (.ins C _) _ => match Φ.sub C D with
      | some b => .ok b
      | none => .stk
    | _ => .stk
/-- a field -/
def fldG (Φ : Fns) (g : G) (f : Str) : Res G := match g.parts with
  | some (.ins C ns, gs) => if Φ.fld C f then (match (ns.zip gs).lookup f with
    | some x => .ok x
    | none => .stk) else .stk
  | _ => .stk
def backR : CRes → Res G
  | .ok r _ => if r.free then .ok r else .stk
  | .exc x _ => .exc x
  | .stk => .stk
/-- a text's method called by a text -/
def smG (m a b : Str) : Res G :=
  if m = ("split" : Str) then (if b.length ≠ 0 ∧ a.length + 2 ≤ sizeLine then .ok (.own .lst ((Txt.split a b).map .str)) else .stk)
  else if m = ("partition" : Str) then (if b.length ≠ 0 ∧ a.length ≤ sizeLine then .ok (.val (.nod .tup [.str (Txt.partition a b).1, .str (Txt.partition a b).2.1, .str (Txt.partition a b).2.2])) else .stk)
  else if m = ("startswith" : Str) then .ok (.val (.bl (Txt.startswith a b)))
  else if m = ("index" : Str) then (match Builtin.Str.occurrences a b 0 a.length 1 with
    | i :: _ => .ok (.val (.int (i : Nat)))
    | [] => .stk)
  else .stk
/-- a.join(..) -/
def joinG (m a : Str) (g : G) : Res G := if m = ("join" : Str) then (match g.items.bind strs? with
    | some ys => if (ys.map (·.length)).sum + ys.length * a.length ≤ 16777216 then .ok (.val (.str (Txt.join a ys))) else .stk
    | none => .stk) else .stk
/-- a text's method called -/
def txG (m : Str) (g : G) (gs : List G) : Res G := match g, gs with
  | .val (.str a), [.val (.str b)] => smG m a b
  | .val (.str a), [x] => joinG m a x
  | _, _ => .stk
/-- a builtin's method called -/
def bmG (m : Str) (g : G) (gs : List G) : Res G :=
  if m = ("index" : Str) then (match (lstItems g).bind ints?, gs with
    | some ns, [.val (.int y)] => (match ns.findIdx? (fun x => decide (x = y)) with
      | some j => .ok (.val (.int (j : Nat)))
      | none => .stk)
    | _, _ => txG m g gs)
  else txG m g gs
/-- a method called -/
def methG (Φ : Fns) (m : Str) (g : G) (gs : List G) : Res G := match g.parts with
  | some (.ins C ns, _) => if ns.contains m then .stk else match Φ.meth C m with
    | some (f, n) => if n = gs.length + 1 then backR (Φ.call f (G.args (g :: gs))) else .stk
    | none => .stk
  | _ => bmG m g gs
def madeR : CRes → Res G
  | .ok (.val .non) [g] => if g.free then .ok g else .stk
  | .exc x _ => .exc x
  | _ => .stk
/-- an instance made -/
def mkG (Φ : Fns) (C : Str) (gs : List G) : Res G := match Φ.init C with
  | some (f, n) => if n = gs.length + 1 then madeR (Φ.call f (.nod true (.ins C []) [] :: G.args gs)) else .stk
  | none => .stk
def asBool : G → Res Bool
  | .val (.bl b) => .ok b
  | _ => .stk
def asInt : G → Res Int
  | .val (.int i) => .ok i
  | _ => .stk
/-! ### walks -/
def setAll : List Nat → List T → Env → Option Env
  | [], [], env => some env
  | i :: is, t :: ts, env => setAll is ts (env.set i (some (.val t)))
  | _, _, _ => none
def tgSet (P : List Nat) (n : Nat) : Tg → T → Env → Option Env
  | .nm i, t, env => if i ∉ P ∧ i < env.length then some (env.set i (some (.val t))) else none
  | .pr is, .nod .tup ts, env => if (∀ i ∈ is, i ∉ P ∧ i < env.length) ∧ ts.length = is.length then setAll is ts env else none
  | .pr _, _, _ => none
def rngT (lo : Int) (n : Nat) : List T := (List.range n).map fun k => .int (lo + (k : Nat))
def enmT (ts : List T) : List T := ts.zipIdx.map fun p => .nod .tup [.int (p.2 : Nat), p.1]
def smallI (i : Int) : Bool := decide (-(2 ^ 62) ≤ i) && decide (i < 2 ^ 62)
def strItems (z : Str) : List T := z.cps.toList.map fun c => .str ⟨#[c]⟩
def itItems (g : G) : Option (List T) := match g with
  | .val (.str z) => some (strItems z)
  | g => g.items
def zipT (xs ys : List T) : List T := List.zipWith (fun x y => .nod .tup [x, y]) xs ys
def itG (k : IK) (gs : List G) : Res (List T) := match k, gs with
  | .it, [g] => match itItems g with
    | some ts => .ok ts
    | none => .stk
  | .rng1, [a] => (asInt a).bind fun n => if smallI n then .ok (rngT 0 n.toNat) else .stk
  | .rng2, [a, b] => (asInt a).bind fun i => (asInt b).bind fun j => if smallI i && smallI j then .ok (rngT i (j - i).toNat) else .stk
  | .zip, [a, b] => match lstItems a, lstItems b with
    | some xs, some ys => .ok (zipT xs ys)
    | _, _ => .stk
  | .enm, [a] => match lstItems a with
    | some xs => .ok (enmT xs)
    | none => .stk
  | _, _ => .stk
/-- the slots of a target -/
def tgIs : Tg → List Nat
  | .nm i => [i]
  | .pr is => is
def wipeE (is : List Nat) (env : Env) : Env := is.foldr (fun i e => e.set i none) env
/-- a comprehension over trees, each turn from env -/
def lcT (st : T → Env → Option Env) (c : Env → Res Bool) (f : Env → Res G) (env : Env) : List T → Res (List G)
  | [] => .ok []
  | t :: ts => match st t env with
    | none => .stk
    | some env1 => (c env1).bind fun b => if b then (f env1).bind fun g => if g.free then (lcT st c f env ts).bind fun gs => .ok (g :: gs) else .stk else lcT st c f env ts
/-! ### expressions: nothing that stands changes -/
mutual
def ev (Φ : Fns) (gl : Str → Option T) (env : Env) : E → Res G
  | .var i => match env[i]? with
    | some (some g) => .ok g.bor
    | _ => .stk
  | .glb x => match gl x with
    | some t => .ok (.val t)
    | none => .stk
  | .con t => if flatT t then .ok (.val t) else .stk
  | .neg a => (ev Φ gl env a).bind fun g => (asInt g).bind fun i => .ok (.val (.int (-i)))
  | .not a => (ev Φ gl env a).bind fun g => (asBool g).bind fun b => .ok (.val (.bl (!b)))
  | .bin o a b => (ev Φ gl env a).bind fun x => (ev Φ gl env b).bind fun y => binG o x y
  | .cmp o a b => (ev Φ gl env a).bind fun x => (ev Φ gl env b).bind fun y => (cmpT o x.toT y.toT).bind fun r => .ok (.val (.bl r))
  | .and es => (evAnd Φ gl env es).bind fun b => .ok (.val (.bl b))
  | .or es => (evOr Φ gl env es).bind fun b => .ok (.val (.bl b))
  | .idx a i => (ev Φ gl env a).bind fun g => (ev Φ gl env i).bind fun k => (asInt k).bind fun i => idxG g i
  | .slc a lo hi => (ev Φ gl env a).bind fun g => (evOpt Φ gl env lo).bind fun l => (evOpt Φ gl env hi).bind fun h => slcG g l h
  | .fld a f => (ev Φ gl env a).bind fun g => fldG Φ g f
  | .meth a m es => (ev Φ gl env a).bind fun g => (evs Φ gl env es).bind fun gs => methG Φ m g gs
  | .mk C es => (evs Φ gl env es).bind fun gs => mkG Φ C gs
  | .tup es => (evs Φ gl env es).bind fun gs => match G.vals? gs with
    | some ts => if ts.length ≤ sizeLine then .ok (.val (.nod .tup ts)) else .stk
    | none => if gs.length ≤ sizeLine then .ok (.nod true .tup gs) else .stk
  | .lst es => (evs Φ gl env es).bind fun gs => if gs.length ≤ sizeLine then .ok (.nod true .lst gs) else .stk
  | .dct => .ok (.nod true (.dct []) [])
  | .lrg a => (ev Φ gl env a).bind fun g => (asInt g).bind fun n => if smallI n && decide (n.toNat ≤ sizeLine) then .ok (.own .lst (rngT 0 n.toNat)) else .stk
  | .lc tg k as c e => (evs Φ gl env as).bind fun gs => (itG k gs).bind fun ts => if ts.length ≤ sizeLine then
      (lcT (tgSet [] 0 tg) (fun env1 => evAnd Φ gl env1 c) (fun env1 => ev Φ gl env1 e) (wipeE (tgIs tg) env) ts).bind fun rs => .ok (.nod true .lst rs) else .stk
  | .call f es => (evs Φ gl env es).bind fun gs => backR (Φ.call f (G.args gs))
  | .bif b es => (evs Φ gl env es).bind fun gs => bifG b gs
  | .isi a c => (ev Φ gl env a).bind fun g => (isiX Φ g.toT c).bind fun b => .ok (.val (.bl b))
def evs (Φ : Fns) (gl : Str → Option T) (env : Env) : List E → Res (List G)
  | [] => .ok []
  | e :: es => (ev Φ gl env e).bind fun g => (evs Φ gl env es).bind fun gs => .ok (g :: gs)
def evOpt (Φ : Fns) (gl : Str → Option T) (env : Env) : Option E → Res (Option Int)
  | none => .ok none
  | some e => (ev Φ gl env e).bind fun g => (asInt g).bind fun i => .ok (some i)
def evAnd (Φ : Fns) (gl : Str → Option T) (env : Env) : List E → Res Bool
  | [] => .ok true
  | e :: es => (ev Φ gl env e).bind fun g => (asBool g).bind fun b => if b then evAnd Φ gl env es else .ok false
def evOr (Φ : Fns) (gl : Str → Option T) (env : Env) : List E → Res Bool
  | [] => .ok false
  | e :: es => (ev Φ gl env e).bind fun g => (asBool g).bind fun b => if b then .ok true else evOr Φ gl env es
end
/-- a test -/
def evB (Φ : Fns) (gl : Str → Option T) (env : Env) (c : E) : Res Bool := (ev Φ gl env c).bind asBool
end Bv
set_option maxRecDepth 100000
/-! Part 2: what a tree stands for in the heap. -/
namespace Bv
open PySem L2
/-- the class addresses -/
structure CA where
  K : PySem.W.Frag
  ad : Str → Addr
def dkOf : List DK → List V → HO → Prop := fun ks vs o => ∃ kk : List Key, ks = kk.map Sum.inl ∧ kk.length = vs.length ∧ o = .dK (kk.zip vs)
/-- the object at p, of kind k, holds vs -/
def At (cA : CA) (H : Hp) (k : Kd) (p : Addr) (vs : List V) : Prop := match k with
  | .tup => Rd H p (.tup vs)
  | .lst => SqL cA.K H p vs
  | .dct ks => ∃ o, dkOf ks vs o ∧ Rd H p o
  | .ins C ns => ns.length = vs.length ∧ ∃ dx, H p = some (.ins (cA.ad C) dx (ns.zip vs))
mutual
/-- a tree that is frozen in HP -/
def RT (cA : CA) (HP : Hp) : T → V → Prop
  | .non, v => v = .non
  | .bl b, v => v = .bl b
  | .int i, v => v = .int i
  | .str s, v => v = .str s
  | .nod k ts, v => ∃ p vs, v = .ref p ∧ At cA HP k p vs ∧ RTs cA HP ts vs
def RTs (cA : CA) (HP : Hp) : List T → List V → Prop
  | [], vs => vs = []
  | t :: ts, vs => ∃ v r, vs = v :: r ∧ RT cA HP t v ∧ RTs cA HP ts r
end
/-- an object that is owned: no lock upon it -/
def Own (cA : CA) (H : Hp) (k : Kd) (p : Addr) (vs : List V) : Prop := match k with
  | .tup => H p = some (.tup vs)
  | .lst => H p = some (.lst vs)
  | .dct ks => ∃ o, dkOf ks vs o ∧ H p = some o
  | .ins C ns => ns.length = vs.length ∧ ∃ dx, H p = some (.ins (cA.ad C) dx (ns.zip vs))
mutual
/-- HP: what is frozen; HB: what is borrowed; H: what stands; the list: the addresses that are owned -/
def RG (cA : CA) (HP HB H : Hp) : G → V → List Addr → Prop
  | .val t, v, O => RT cA HP t v ∧ O = []
  | .nod true k gs, v, O => ∃ p vs O', v = .ref p ∧ Own cA H k p vs ∧ RGs cA HP HB H gs vs O' ∧ O = p :: O'
  | .nod false k gs, v, O => ∃ p vs, v = .ref p ∧ At cA HB k p vs ∧ RGs cA HP HB H gs vs O
def RGs (cA : CA) (HP HB H : Hp) : List G → List V → List Addr → Prop
  | [], vs, O => vs = [] ∧ O = []
  | g :: gs, vs, O => ∃ v r O1 O2, vs = v :: r ∧ RG cA HP HB H g v O1 ∧ RGs cA HP HB H gs r O2 ∧ O = O1 ++ O2
end
/-- what HP knows stands in H (a dict may be locked) -/
def Sees (HP H : Hp) : Prop := ∀ p u, HP p = some u → H p = some u
/-- no table of code objects -/
def nt (o : HO) : Prop := ∀ ps, o ≠ .tbl ps
/-- what stands in the one stands in the other; a table may have grown -/
structure Ex (H H' : Hp) : Prop where
  k : ∀ a o, nt o → H a = some o → H' a = some o
  t : ∀ a ps, H a = some (.tbl ps) → ∃ qs, H' a = some (.tbl qs)
theorem Ex.of {H H' : Hp} (e : ∀ a o, H a = some o → H' a = some o) : Ex H H' := ⟨fun a o _ h => e a o h, fun a ps h => ⟨ps, e a _ h⟩⟩
theorem Ex.refl (H : Hp) : Ex H H := .of fun _ _ h => h
theorem Ex.trans {H H1 H2 : Hp} (a : Ex H H1) (b : Ex H1 H2) : Ex H H2 := ⟨fun x o n h => b.k x o n (a.k x o n h), fun x ps h => by
  obtain ⟨qs, h1⟩ := a.t x ps h
  exact b.t x qs h1⟩
theorem Ex.some {H H' : Hp} (e : Ex H H') {a : Addr} {o : HO} (h : H a = some o) : ∃ o', H' a = some o' := by
  by_cases n : nt o
  · exact ⟨o, e.k a o n h⟩
  · have : ∃ ps, o = .tbl ps := Classical.byContradiction fun z => n fun ps q => z ⟨ps, q⟩
    obtain ⟨ps, rfl⟩ := this
    obtain ⟨qs, h1⟩ := e.t a ps h
    exact ⟨_, h1⟩
theorem nt_tup {vs : List V} : nt (.tup vs) := fun _ z => by cases z
theorem nt_lst {vs : List V} : nt (.lst vs) := fun _ z => by cases z
theorem nt_ins {C dx : Addr} {fs : List (Str × V)} : nt (.ins C dx fs) := fun _ z => by cases z
theorem nt_frz {o : Obj} {u : HO} : nt (.frz o u) := fun _ z => by cases z
theorem nt_dk {ks : List DK} {vs : List V} {o : HO} (h : dkOf ks vs o) : nt o := fun ps z => by
  obtain ⟨_, _, _, e⟩ := h
  rw [e] at z; cases z
/-- the tables of code objects that are about -/
class TC where
  T : List (Addr × Str)
  cs : List (Addr × Addr)
abbrev Tbs [TC] (H : Hp) : Prop := LamX.Tabs TC.T H
theorem Ex.new {H : Hp} {p : Addr} {o : HO} (h : H p = none) : Ex H (upd H p o) := .of fun a u e => by
  rw [upd_ne (ne_of_none e h)]
  exact e
theorem Ex.none {H H' : Hp} (e : Ex H H') {p : Addr} (h : H' p = none) : H p = none := by
  cases q : H p with
  | none => rfl
  | some o => obtain ⟨o', h1⟩ := e.some q; rw [h1] at h; cases h
theorem Ex.rd {H H' : Hp} (e : Ex H H') {a : Addr} {u : HO} (h : Rd H a u) (n : nt u := by first | exact nt_tup | exact nt_lst) : Rd H' a u := by
  rcases h with h | ⟨o, h⟩
  · exact .inl (e.k a _ n h)
  · exact .inr ⟨o, e.k a _ nt_frz h⟩
theorem Sees.rd {H H' : Hp} (e : Sees H H') {a : Addr} {u : HO} (h : Rd H a u) : Rd H' a u := by
  rcases h with h | ⟨o, h⟩
  · exact .inl (e a _ h)
  · exact .inr ⟨o, e a _ h⟩
section
variable {cA : CA} {H H' HP HP' HB HB' : Hp}
theorem At.mono {k : Kd} {p : Addr} {vs : List V} (e : Ex H H') (h : At cA H k p vs) : At cA H' k p vs := by
  cases k with
  | tup => exact e.rd h
  | lst => exact h.imp (fun z => e.rd z) id
  | dct ks => obtain ⟨o, h1, h2⟩ := h; exact ⟨o, h1, e.rd h2 (nt_dk h1)⟩
  | ins C ns => obtain ⟨h1, dx, h2⟩ := h; exact ⟨h1, dx, e.k _ _ nt_ins h2⟩
theorem Own.at {k : Kd} {p : Addr} {vs : List V} (h : Own cA H k p vs) : At cA H k p vs := by
  cases k with
  | tup => exact .inl h
  | lst => exact .inl (.inl h)
  | dct ks => obtain ⟨o, h1, h2⟩ := h; exact ⟨o, h1, .inl h2⟩
  | ins C ns => exact h
theorem Own.mono {k : Kd} {p : Addr} {vs : List V} (e : Ex H H') (h : Own cA H k p vs) : Own cA H' k p vs := by
  cases k with
  | tup => exact e.k _ _ nt_tup h
  | lst => exact e.k _ _ nt_lst h
  | dct ks => obtain ⟨o, h1, h2⟩ := h; exact ⟨o, h1, e.k _ _ (nt_dk h1) h2⟩
  | ins C ns => obtain ⟨h1, dx, h2⟩ := h; exact ⟨h1, dx, e.k _ _ nt_ins h2⟩
/-- what is owned is no table and no code object -/
theorem Own.plain {k : Kd} {p : Addr} {vs : List V} (h : Own cA H k p vs) : ∃ o, H p = some o ∧ nt o ∧ ∀ c q, o ≠ LamX.CodeO c q := by
  have ne : ∀ c q (f : Heap → Prop), LamX.CodeO c q = .ext f ∨ True := fun _ _ _ => .inr trivial
  cases k with
  | tup => exact ⟨_, h, nt_tup, fun c q z => by unfold LamX.CodeO at z; cases z⟩
  | lst => exact ⟨_, h, nt_lst, fun c q z => by unfold LamX.CodeO at z; cases z⟩
  | dct ks =>
    obtain ⟨o, h1, h2⟩ := h
    refine ⟨o, h2, nt_dk h1, fun c q z => ?_⟩
    obtain ⟨_, _, _, e⟩ := h1
    rw [e] at z
    unfold LamX.CodeO at z
    cases z
  | ins C ns => obtain ⟨h1, dx, h2⟩ := h; exact ⟨_, h2, nt_ins, fun c q z => by unfold LamX.CodeO at z; cases z⟩
theorem Own.some {k : Kd} {p : Addr} {vs : List V} (h : Own cA H k p vs) : ∃ o, H p = some o := by
  cases k with
  | tup => exact ⟨_, h⟩
  | lst => exact ⟨_, h⟩
  | dct ks => obtain ⟨o, h1, h2⟩ := h; exact ⟨_, h2⟩
  | ins C ns => obtain ⟨h1, dx, h2⟩ := h; exact ⟨_, h2⟩
mutual
theorem RT.mono (e : Ex H H') : ∀ {t : T} {v : V}, RT cA H t v → RT cA H' t v
  | .non, _, h => h
  | .bl _, _, h => h
  | .int _, _, h => h
  | .str _, _, h => h
  | .nod _ _, _, ⟨p, vs, h1, h2, h3⟩ => ⟨p, vs, h1, h2.mono e, RTs.mono e h3⟩
theorem RTs.mono (e : Ex H H') : ∀ {ts : List T} {vs : List V}, RTs cA H ts vs → RTs cA H' ts vs
  | [], _, h => h
  | _ :: _, _, ⟨v, r, h1, h2, h3⟩ => ⟨v, r, h1, RT.mono e h2, RTs.mono e h3⟩
end
mutual
theorem RG.mono (eP : Ex HP HP') (eB : Ex HB HB') (e : Ex H H') : ∀ {g : G} {v : V} {O : List Addr}, RG cA HP HB H g v O → RG cA HP' HB' H' g v O
  | .val _, _, _, ⟨h1, h2⟩ => ⟨RT.mono eP h1, h2⟩
  | .nod true _ _, _, _, ⟨p, vs, O', h1, h2, h3, h4⟩ => ⟨p, vs, O', h1, h2.mono e, RGs.mono eP eB e h3, h4⟩
  | .nod false _ _, _, _, ⟨p, vs, h1, h2, h3⟩ => ⟨p, vs, h1, h2.mono eB, RGs.mono eP eB e h3⟩
theorem RGs.mono (eP : Ex HP HP') (eB : Ex HB HB') (e : Ex H H') : ∀ {gs : List G} {vs : List V} {O : List Addr}, RGs cA HP HB H gs vs O → RGs cA HP' HB' H' gs vs O
  | [], _, _, h => h
  | _ :: _, _, _, ⟨v, r, O1, O2, h1, h2, h3, h4⟩ => ⟨v, r, O1, O2, h1, RG.mono eP eB e h2, RGs.mono eP eB e h3, h4⟩
end
theorem RTs.len : ∀ {ts : List T} {vs : List V}, RTs cA H ts vs → ts.length = vs.length
  | [], _, h => by rw [show _ = [] from h]; rfl
  | _ :: _, _, ⟨v, r, h1, h2, h3⟩ => by rw [h1, List.length_cons, List.length_cons, RTs.len h3]
theorem RGs.len : ∀ {gs : List G} {vs : List V} {O : List Addr}, RGs cA HP HB H gs vs O → gs.length = vs.length
  | [], _, _, h => by rw [h.1]; rfl
  | _ :: _, _, _, ⟨v, r, O1, O2, h1, h2, h3, h4⟩ => by rw [h1, List.length_cons, List.length_cons, RGs.len h3]
theorem RTs.get : ∀ {ts : List T} {vs : List V} {i : Nat} {t : T}, RTs cA H ts vs → ts[i]? = some t → ∃ v, vs[i]? = some v ∧ RT cA H t v
  | [], _, _, _, _, e => by simp at e
  | _ :: _, _, 0, _, ⟨v, r, h1, h2, h3⟩, e => by
    simp at e; subst e; subst h1
    exact ⟨v, rfl, h2⟩
  | _ :: _, _, i + 1, t, ⟨v, r, h1, h2, h3⟩, e => by
    subst h1
    obtain ⟨w, e1, e2⟩ := RTs.get (i := i) (t := t) h3 (by simpa using e)
    exact ⟨w, by simpa using e1, e2⟩
theorem RTs.append : ∀ {ts us : List T} {vs ws : List V}, RTs cA H ts vs → RTs cA H us ws → RTs cA H (ts ++ us) (vs ++ ws)
  | [], _, _, _, h, k => by rw [show _ = [] from h]; exact k
  | _ :: _, _, _, _, ⟨v, r, h1, h2, h3⟩, k => by subst h1; exact ⟨v, r ++ _, rfl, h2, RTs.append h3 k⟩
theorem RTs.drop : ∀ {ts : List T} {vs : List V} (n : Nat), RTs cA H ts vs → RTs cA H (ts.drop n) (vs.drop n)
  | _, _, 0, h => h
  | [], _, _ + 1, h => by rw [show _ = [] from h]; rfl
  | _ :: _, _, n + 1, ⟨v, r, h1, h2, h3⟩ => by subst h1; exact RTs.drop n h3
theorem RTs.take : ∀ {ts : List T} {vs : List V} (n : Nat), RTs cA H ts vs → RTs cA H (ts.take n) (vs.take n)
  | _, _, 0, _ => rfl
  | [], _, _ + 1, h => by rw [show _ = [] from h]; rfl
  | _ :: _, _, n + 1, ⟨v, r, h1, h2, h3⟩ => by subst h1; exact ⟨v, r.take n, rfl, h2, RTs.take n h3⟩
theorem RTs.cut {ts : List T} {vs : List V} (h : RTs cA H ts vs) (lo hi : Option Int) : RTs cA H (cutL ts lo hi) (cutV vs lo hi) := by
  unfold cutL cutV
  rw [RTs.len h]
  exact (h.drop _).take _
/-- the trees of lists of val -/
theorem RGs.vals : ∀ {gs : List G} {vs : List V} {O : List Addr} {ts : List T}, RGs cA HP HB H gs vs O → G.vals? gs = some ts → RTs cA HP ts vs ∧ O = []
  | [], _, _, _, h, e => by cases e; exact ⟨h.1, h.2⟩
  | .val t :: gs, _, _, _, ⟨v, r, O1, O2, h1, h2, h3, h4⟩, e => by
    unfold G.vals? at e
    simp only [G.val?] at e
    cases q : G.vals? gs with
    | none => rw [q] at e; cases e
    | some us =>
      rw [q] at e; cases e
      obtain ⟨a, b⟩ := RGs.vals h3 q
      exact ⟨⟨v, r, h1, h2.1, a⟩, by rw [h4, h2.2, b]; rfl⟩
  | .nod _ _ _ :: gs, _, _, _, _, e => by
    unfold G.vals? at e
    simp only [G.val?] at e
    cases e
theorem RTs.toG : ∀ {ts : List T} {vs : List V}, RTs cA HP ts vs → RGs cA HP HB H (ts.map .val) vs []
  | [], _, h => ⟨h, rfl⟩
  | _ :: _, _, ⟨v, r, h1, h2, h3⟩ => ⟨v, r, [], [], h1, ⟨h2, rfl⟩, RTs.toG h3, rfl⟩
theorem vals_map : ∀ (ts : List T), G.vals? (ts.map .val) = some ts
  | [] => rfl
  | t :: ts => by
    show G.vals? (.val t :: ts.map .val) = _
    unfold G.vals?
    rw [vals_map ts]
    rfl
/-- all owned is borrowed: read off the heap -/
def HBof (HB H : Hp) : Prop := Ex HB H
mutual
theorem RG.bor (e : Ex HB H) : ∀ {g : G} {v : V} {O : List Addr}, RG cA HP HB H g v O → RG cA HP H H g.bor v []
  | .val _, _, _, ⟨h1, h2⟩ => ⟨h1, rfl⟩
  | .nod true _ _, _, _, ⟨p, vs, O', h1, h2, h3, h4⟩ => ⟨p, vs, h1, h2.at, RGs.bor e h3⟩
  | .nod false _ _, _, _, ⟨p, vs, h1, h2, h3⟩ => ⟨p, vs, h1, h2.mono e, RGs.bor e h3⟩
theorem RGs.bor (e : Ex HB H) : ∀ {gs : List G} {vs : List V} {O : List Addr}, RGs cA HP HB H gs vs O → RGs cA HP H H (G.bors gs) vs []
  | [], _, _, h => ⟨h.1, rfl⟩
  | _ :: _, _, _, ⟨v, r, O1, O2, h1, h2, h3, h4⟩ => ⟨v, r, [], [], h1, RG.bor e h2, RGs.bor e h3, rfl⟩
end
mutual
/-- all of it read off one heap -/
theorem RG.toT (eP : Ex HP H) (e : Ex HB H) : ∀ {g : G} {v : V} {O : List Addr}, RG cA HP HB H g v O → RT cA H g.toT v
  | .val _, _, _, ⟨h1, h2⟩ => RT.mono eP h1
  | .nod true _ _, _, _, ⟨p, vs, O', h1, h2, h3, h4⟩ => ⟨p, vs, h1, h2.at, RGs.toT eP e h3⟩
  | .nod false _ _, _, _, ⟨p, vs, h1, h2, h3⟩ => ⟨p, vs, h1, h2.mono e, RGs.toT eP e h3⟩
theorem RGs.toT (eP : Ex HP H) (e : Ex HB H) : ∀ {gs : List G} {vs : List V} {O : List Addr}, RGs cA HP HB H gs vs O → RTs cA H (G.toTs gs) vs
  | [], _, _, h => h.1
  | _ :: _, _, _, ⟨v, r, O1, O2, h1, h2, h3, h4⟩ => ⟨v, r, h1, RG.toT eP e h2, RGs.toT eP e h3⟩
end
mutual
theorem RG.ownIn : ∀ {g : G} {v : V} {O : List Addr}, RG cA HP HB H g v O → ∀ p ∈ O, ∃ o, H p = some o
  | .val _, _, _, ⟨_, h2⟩ => by intro p hp; rw [h2] at hp; cases hp
  | .nod true _ _, _, _, ⟨p, vs, O', h1, h2, h3, h4⟩ => by
    intro q hq
    rw [h4] at hq
    rcases List.mem_cons.mp hq with rfl | hq
    · exact h2.some
    · exact RGs.ownIn h3 q hq
  | .nod false _ _, _, _, ⟨p, vs, h1, h2, h3⟩ => RGs.ownIn h3
theorem RGs.ownIn : ∀ {gs : List G} {vs : List V} {O : List Addr}, RGs cA HP HB H gs vs O → ∀ p ∈ O, ∃ o, H p = some o
  | [], _, _, h => by intro p hp; rw [h.2] at hp; cases hp
  | _ :: _, _, _, ⟨v, r, O1, O2, h1, h2, h3, h4⟩ => by
    intro p hp
    rw [h4] at hp
    rcases List.mem_append.mp hp with hp | hp
    · exact RG.ownIn h2 p hp
    · exact RGs.ownIn h3 p hp
end
end
/-- tables stay where one other thing changes -/
theorem tbs_upd [TC] {H : Hp} {p : Addr} {o u : HO} (h : H p = some u) (n : nt u) (c : ∀ a q, u ≠ LamX.CodeO a q) (t : Tbs H) : Tbs (upd H p o) := fun x hx => by
  obtain ⟨ps, h1, h2, h3⟩ := t x hx
  have n1 : x.1 ≠ p := fun z => by rw [z, h] at h1; cases h1; exact n ps rfl
  refine ⟨ps, by rw [upd_ne n1]; exact h1, h2, fun pos cv hc => ?_⟩
  obtain ⟨a, e1, e2⟩ := h3 pos cv hc
  have n2 : a ≠ p := fun z => by rw [z, h] at e2; cases e2; exact c _ _ rfl
  exact ⟨a, e1, by rw [upd_ne n2]; exact e2⟩
theorem Ex.updR {H H' : Hp} {p : Addr} {o : HO} (e : Ex H H') (h : H p = Option.none) : Ex H (upd H' p o) := ⟨fun a u n z => by
  have ne : a ≠ p := fun q => by rw [q, h] at z; cases z
  rw [upd_ne ne]; exact e.k a u n z, fun a ps z => by
  have ne : a ≠ p := fun q => by rw [q, h] at z; cases z
  rw [upd_ne ne]; exact e.t a ps z⟩
theorem tbs_lst [TC] {H : Hp} {p : Addr} {o : HO} {vs : List V} (h : H p = some (.lst vs)) (t : Tbs H) : Tbs (upd H p o) :=
  tbs_upd h nt_lst (fun c q z => by unfold LamX.CodeO at z; cases z) t
theorem tbs_new [TC] {H : Hp} {p : Addr} {o : HO} (h : H p = none) (t : Tbs H) : Tbs (upd H p o) := t.ext fun a u e => by
  rw [upd_ne (ne_of_none e h)]; exact e
section
variable [TC]
/-- what a pure step leaves -/
structure Step (HP H HP1 H1 : Hp) : Prop where
  ex : Ex H H1
  tb : Tbs H → Tbs H1
  exP : Ex HP HP1
  new : ∀ p, HP1 p ≠ none → HP p ≠ none ∨ H p = none
  sees : Ex HP1 H1
theorem Step.refl {HP H : Hp} (h : Ex HP H) : Step HP H HP H := ⟨Ex.refl _, id, Ex.refl _, fun _ h => .inl h, h⟩
theorem Step.trans {HP H HP1 H1 HP2 H2 : Hp} (a : Step HP H HP1 H1) (b : Step HP1 H1 HP2 H2) : Step HP H HP2 H2 :=
  ⟨a.ex.trans b.ex, fun z => b.tb (a.tb z), a.exP.trans b.exP, fun p h => (b.new p h).elim (a.new p) fun q => .inr (a.ex.none q), b.sees⟩
/-- a new object that is not frozen -/
theorem Step.own {HP H : Hp} {p : Addr} {o : HO} (h : Ex HP H) (hp : H p = none) : Step HP H HP (upd H p o) :=
  ⟨Ex.new hp, tbs_new hp, Ex.refl _, fun _ h => .inl h, h.trans (Ex.new hp)⟩
/-- a new object that is frozen -/
theorem Step.frz {HP H : Hp} {p : Addr} {o : HO} (h : Ex HP H) (hp : H p = none) : Step HP H (upd HP p o) (upd H p o) :=
  ⟨Ex.new hp, tbs_new hp, Ex.new (h.none hp), fun q hq => by
    by_cases e : q = p
    · subst e; exact .inr hp
    · rw [upd_ne e] at hq; exact .inl hq, ⟨fun a u n e => by
    by_cases q : a = p
    · subst q; rw [upd_same] at e ⊢; exact e
    · rw [upd_ne q] at e ⊢; exact h.k _ _ n e, fun a ps e => by
    by_cases q : a = p
    · subst q; rw [upd_same] at e ⊢; exact ⟨ps, e⟩
    · rw [upd_ne q] at e ⊢; exact h.t _ _ e⟩⟩
end
/-- what is frozen, with the objects at O -/
def ad (HP : Hp) (O : List Addr) (H : Hp) : Hp := fun p => if p ∈ O then H p else HP p
theorem ad_nil (HP H : Hp) : ad HP [] H = HP := by funext p; unfold ad; rw [if_neg (by simp)]
theorem ad_in {HP H : Hp} {O : List Addr} {p : Addr} (h : p ∈ O) : ad HP O H p = H p := if_pos h
theorem ad_out {HP H : Hp} {O : List Addr} {p : Addr} (h : p ∉ O) : ad HP O H p = HP p := if_neg h
section
variable {cA : CA} {HP HP' HB HB' H H' : Hp} {O O1 O2 : List Addr}
theorem ex_ad (e : Ex HP H) : Ex HP (ad HP O H) := ⟨fun p u n h => by
  by_cases q : p ∈ O
  · rw [ad_in q]; exact e.k p u n h
  · rw [ad_out q]; exact h, fun p ps h => by
  by_cases q : p ∈ O
  · rw [ad_in q]; exact e.t p ps h
  · rw [ad_out q]; exact ⟨ps, h⟩⟩
theorem ad_ex (e : Ex HP H) : Ex (ad HP O H) H := ⟨fun p u n h => by
  by_cases q : p ∈ O
  · rw [ad_in q] at h; exact h
  · rw [ad_out q] at h; exact e.k p u n h, fun p ps h => by
  by_cases q : p ∈ O
  · rw [ad_in q] at h; exact ⟨ps, h⟩
  · rw [ad_out q] at h; exact e.t p ps h⟩
theorem ad_mono (e : Ex HP H) (s : ∀ p ∈ O1, p ∈ O) : Ex (ad HP O1 H) (ad HP O H) := ⟨fun p u n h => by
  by_cases q : p ∈ O
  · rw [ad_in q]; exact (ad_ex e).k p u n h
  · rw [ad_out q]; rw [ad_out (fun z => q (s p z))] at h; exact h, fun p ps h => by
  by_cases q : p ∈ O
  · rw [ad_in q]; exact (ad_ex e).t p ps h
  · rw [ad_out q]; rw [ad_out (fun z => q (s p z))] at h; exact ⟨ps, h⟩⟩
theorem Own.ad {k : Kd} {p : Addr} {vs : List V} (h : Own cA H k p vs) (hp : p ∈ O) : At cA (Bv.ad HP O H) k p vs := by
  cases k with
  | tup => exact .inl ((ad_in hp).trans h)
  | lst => exact .inl (.inl ((ad_in hp).trans h))
  | dct ks => obtain ⟨o, h1, h2⟩ := h; exact ⟨o, h1, .inl ((ad_in hp).trans h2)⟩
  | ins C ns => obtain ⟨h1, dx, h2⟩ := h; exact ⟨h1, dx, (ad_in hp).trans h2⟩
mutual
/-- all of it is frozen -/
theorem RG.frz (e : Ex HP H) : ∀ {g : G} {v : V} {O : List Addr}, g.free = true → RG cA HP HB H g v O → RT cA (ad HP O H) g.toT v
  | .val _, _, _, _, ⟨h1, h2⟩ => by subst h2; rw [ad_nil]; exact h1
  | .nod true _ gs, _, _, f, ⟨p, vs, O', h1, h2, h3, h4⟩ => by
    subst h4
    have f' : G.frees gs = true := by unfold G.free at f; rw [Bool.true_and] at f; exact f
    exact ⟨p, vs, h1, h2.ad List.mem_cons_self, RTs.mono (ad_mono e fun q hq => List.mem_cons_of_mem _ hq) (RGs.frz e f' h3)⟩
  | .nod false _ _, _, _, f, _ => by unfold G.free at f; cases f
theorem RGs.frz (e : Ex HP H) : ∀ {gs : List G} {vs : List V} {O : List Addr}, G.frees gs = true → RGs cA HP HB H gs vs O → RTs cA (ad HP O H) (G.toTs gs) vs
  | [], _, _, _, h => h.1
  | g :: gs, _, _, f, ⟨v, r, O1, O2, h1, h2, h3, h4⟩ => by
    subst h4
    unfold G.frees at f
    rw [Bool.and_eq_true] at f
    exact ⟨v, r, h1, RT.mono (ad_mono e fun q hq => List.mem_append_left _ hq) (RG.frz e f.1 h2), RTs.mono (ad_mono e fun q hq => List.mem_append_right _ hq) (RGs.frz e f.2 h3)⟩
end
end
/-- what a def gets: a fresh thing is frozen -/
theorem RGs.args {cA : CA} {HP HB H : Hp} (eP : Ex HP H) (eB : Ex HB H) : ∀ {gs : List G} {vs : List V} {O : List Addr}, RGs cA HP HB H gs vs O → RGs cA (ad HP O H) H H (G.args gs) vs []
  | [], _, _, h => ⟨h.1, rfl⟩
  | g :: gs, _, _, ⟨v, r, O1, O2, h1, h2, h3, h4⟩ => by
    subst h4
    have ih := RGs.args eP eB h3
    refine ⟨v, r, [], [], h1, ?_, ih.mono (ad_mono eP fun q hq => List.mem_append_right _ hq) (Ex.refl _) (Ex.refl _), rfl⟩
    unfold G.arg
    by_cases f : g.free = true
    · rw [if_pos f]
      exact ⟨RT.mono (ad_mono eP fun q hq => List.mem_append_left _ hq) (RG.frz eP f h2), rfl⟩
    · rw [if_neg f]
      exact (h2.bor eB).mono (ex_ad eP) (Ex.refl _) (Ex.refl _)
theorem Step.freeze [TC] {HP H HP1 H1 : Hp} {O : List Addr} (st : Step HP H HP1 H1) (fr : ∀ p ∈ O, H p = none) : Step HP H (ad HP1 O H1) H1 where
  ex := st.ex
  tb := st.tb
  exP := st.exP.trans (ex_ad st.sees)
  new := fun p hp => by
    by_cases q : p ∈ O
    · exact .inr (fr p q)
    · rw [ad_out q] at hp; exact st.new p hp
  sees := ad_ex st.sees
end Bv
set_option maxRecDepth 100000
/-! Part 3: expressions: the text, the small language, and that the one does what the other tells. -/
namespace Bv
open PySem L2
/-! ### from the text to the small language -/
structure Tb where
  N : List Str
  fns : List (Str × Nat)
  gls : List Str
  bls : List Str
  cls : List Str
  xcs : List Str
def slotOf (N : List Str) (x : Str) : Option Nat := N.findIdx? (· == x)
def visB (sc : Scope) (x : Str) : Bool := match sc.names.lookup x with
  | some .local => true
  | some .cell => true
  | some .free => true
  | _ => false
def glB (sc : Scope) (x : Str) : Bool := match sc.names.lookup x with
  | some .globalImplicit => true
  | _ => false
def sane (x : Str) : Bool := !(x == ("__debug__" : Str)) && !(x == ("__classdict__" : Str)) && !(x == ("__name__" : Str))
def toBOp : Operator → Option BOp
  | .Add => some .add | .Sub => some .sub | .Mult => some .mul | .FloorDiv => some .fdiv | .Mod => some .mod | .Pow => some .pow
  | _ => none
def toCOp : CmpOp → Option COp
  | .Eq => some .eq | .NotEq => some .ne | .Lt => some .lt | .LtE => some .le | .Gt => some .gt | .GtE => some .ge
  | .Is => some .is | .IsNot => some .nis | .In => some .in_ | .NotIn => some .nin
def bfName : Bf → Str
  | .len => "len" | .list => "list" | .tuple => "tuple" | .int => "int" | .str => "str" | .abs => "abs" | .max => "max" | .min => "min" | .sum => "sum" | .any => "any" | .all => "all" | .sorted => "sorted" | .divmod => "divmod"
def toBf (x : Str) : Option Bf := [Bf.len, .list, .abs, .max, .min, .sum, .any, .all, .sorted, .tuple, .int, .str, .divmod].find? fun b => bfName b == x
def tyNames : List (Str × String) := [("int", "int"), ("str", "str"), ("bool", "bool"), ("list", "list"), ("tuple", "tuple"), ("dict", "dict")]
def clsB (tb : Tb) (sc : Scope) (x : Str) : Bool := glB sc x && tb.cls.contains x && sane x
def builtinB (tb : Tb) (sc : Scope) (x : Str) : Bool := glB sc x && tb.bls.contains x && sane x
def toEs (f : Expr → Option E) : List Expr → Option (List E)
  | [] => some []
  | e :: es => match f e, toEs f es with
    | some a, some as => some (a :: as)
    | _, _ => none
def toOpt (f : Expr → Option E) : Option Expr → Option (Option E)
  | none => some none
  | some e => match f e with
    | some a => some (some a)
    | none => none
def locB (sc : Scope) (x : Str) : Bool := match sc.names.lookup x with
  | some .local => true
  | some .cell => true
  | _ => false
theorem loc_of {sc : Scope} {x : Str} (h : locB sc x = true) : Loc sc x := by
  unfold locB at h
  split at h
  · rename_i e; exact .inl e
  · rename_i e; exact .inr e
  · cases h
/-- a name that is stored -/
def toNm (tb : Tb) (sc : Scope) : Expr → Option Nat
  | .Name x _ => if locB sc x then slotOf tb.N x else none
  | _ => none
def toNms (tb : Tb) (sc : Scope) : List Expr → Option (List Nat)
  | [] => some []
  | e :: es => match toNm tb sc e, toNms tb sc es with
    | some i, some is => some (i :: is)
    | _, _ => none
def toTg (tb : Tb) (sc : Scope) : Expr → Option Tg
  | .Name x _ => if locB sc x then (slotOf tb.N x).map .nm else none
  | .Tuple es _ _ => (toNms tb sc es).map .pr
  | _ => none
/-- what a comprehension walks -/
def toWk (tb : Tb) (sc : Scope) (f : Expr → Option E) (e : Expr) : Option (IK × List E) := match e with
  | .Call (.Name g _) [a] [] _ => if g == ("range" : Str) && builtinB tb sc g then (f a).map fun x => (.rng1, [x]) else if g == ("enumerate" : Str) && builtinB tb sc g then (f a).map fun x => (.enm, [x]) else (f e).map fun x => (.it, [x])
  | .Call (.Name g _) [a, b] [] _ => if g == ("range" : Str) && builtinB tb sc g then (match f a, f b with | some x, some y => some (.rng2, [x, y]) | _, _ => none)
    else if g == ("zip" : Str) && builtinB tb sc g then (match f a, f b with | some x, some y => some (.zip, [x, y]) | _, _ => none) else (f e).map fun x => (.it, [x])
  | e => (f e).map fun x => (.it, [x])
def isNm : Tg → Bool
  | .nm _ => true
  | _ => false
def tupW : IK → Bool
  | .zip => true
  | .enm => true
  | _ => false
def tgOwn (N : List Str) (t : Tg) : List (Str × Nat) := (tgIs t).map fun i => (N.getD i "", i)
def lcOk (tb : Tb) (sc scope : Scope) (t : Tg) (k : IK) (cs : List E) : Bool := blkC tb.N sc scope (tgOwn tb.N t) && decide (cs.length ≤ 1) && !(isNm t && tupW k)
/-- list(range(x)): x -/
def lrgOf (f : Str) (a : Expr) (as : List Expr) : Option Expr := if f == ("list" : Str) && as.isEmpty then (match a with
  | .Call (.Name g _) [x] [] _ => if g == ("range" : Str) then some x else none
  | _ => none) else none
def toE (tb : Tb) (sc : Scope) : Nat → Expr → Option E
  | 0, _ => none
  | n + 1, e => match e with
    | .Name x _ => if visB sc x then (if sane x then (slotOf tb.N x).map .var else none) else if glB sc x && sane x && tb.gls.contains x then some (.glb x) else none
    | .Constant .none _ _ => some (.con .non)
    | .Constant (.bool b) _ _ => some (.con (.bl b))
    | .Constant (.int i) _ _ => some (.con (.int i))
    | .Constant (.str s) _ _ => some (.con (.str s))
    | .BinOp a op b _ => match toBOp op, toE tb sc n a, toE tb sc n b with
      | some o, some x, some y => some (.bin o x y)
      | _, _, _ => none
    | .UnaryOp .USub a _ => (toE tb sc n a).map .neg
    | .UnaryOp .Not a _ => (toE tb sc n a).map .not
    | .Compare a [op] [b] _ => match toCOp op, toE tb sc n a, toE tb sc n b with
      | some o, some x, some y => some (.cmp o x y)
      | _, _, _ => none
    | .BoolOp .And (a :: as) _ => (toEs (toE tb sc n) (a :: as)).map .and
    | .BoolOp .Or (a :: as) _ => (toEs (toE tb sc n) (a :: as)).map .or
    | .Subscript a (.Slice lo hi none _) _ => match toE tb sc n a, toOpt (toE tb sc n) lo, toOpt (toE tb sc n) hi with
      | some x, some l, some h => some (.slc x l h)
      | _, _, _ => none
    | .Subscript a i _ => match toE tb sc n a, toE tb sc n i with
      | some x, some y => some (.idx x y)
      | _, _ => none
    | .Tuple es _ _ => (toEs (toE tb sc n) es).map .tup
    | .List es _ => (toEs (toE tb sc n) es).map .lst
    | .ListComp elt [⟨tg, iter, ifs, 0⟩] scope _ => match toTg tb scope tg, toWk tb sc (toE tb sc n) iter, toEs (toE tb (relS scope sc) n) ifs, toE tb (relS scope sc) n elt with
      | some t, some (k, as), some cs, some e => if lcOk tb sc scope t k cs then some (.lc t k as cs e) else none
      | _, _, _, _ => none
    | .Call (.Name f _) (a :: as) [] _ => match lrgOf f a as with
     | some x => match toE tb sc n x with
       | some y => if builtinB tb sc "list" && builtinB tb sc "range" then some (.lrg y) else none
       | none => none
     | none =>
      if f == ("isinstance" : Str) then
        match as with
        | [.Name c _] => match toE tb sc n a, tyNames.lookup c with
          | some x, some m => if builtinB tb sc f && builtinB tb sc c then some (.isi x (.ty m)) else none
          | some x, none => if builtinB tb sc f && clsB tb sc c then some (.isi x (.cls c)) else none
          | _, _ => none
        | _ => none
      else match toEs (toE tb sc n) (a :: as) with
        | some es => if glB sc f && sane f && (tb.fns.lookup f == some es.length) then some (.call f es) else if clsB tb sc f then some (.mk f es) else match toBf f with
          | some b => if builtinB tb sc f then some (.bif b es) else none
          | none => none
        | none => none
    | .Attribute a f _ => (toE tb sc n a).map fun x => .fld x f
    | .Call (.Attribute a m apos) es [] pos => match toE tb sc n a, toEs (toE tb sc n) es with
      | some x, some ys => if (apos.endLine == pos.line) && decide (es.length < 30) then some (.meth x m ys) else none
      | _, _ => none
    | .Dict [] [] _ => some .dct
    | _ => none
/-! ### the wish ahead -/
def wpE (X : Cx) (e : Expr) : TE := fun σ H Q => ∃ t, PE X e t ∧ t σ H Q
theorem peE {X : Cx} {e : Expr} : PE X e (wpE X e) := ⟨fun pins s σ H Q I ⟨t, h, q⟩ => h.run pins s σ H Q I q⟩
def wpT (X : Cx) (e : Expr) : TT := fun σ H Q => ∃ t, PT X e t ∧ t σ H Q
theorem ptT {X : Cx} {e : Expr} : PT X e (wpT X e) := ⟨fun pins s σ H Q I ⟨t, h, q⟩ => h.run pins s σ H Q I q⟩
def wpA (X : Cx) (es : List Expr) : TA := fun σ H Q => ∃ t, PA X es t ∧ t σ H Q
theorem paA {X : Cx} {es : List Expr} : PA X es (wpA X es) := ⟨fun pos pins s σ H Q I ⟨t, h, q⟩ => h.run pos pins s σ H Q I q⟩
/-- H without the addresses of a list -/
def mn (H : Hp) (L : List Addr) : Hp := fun p => if p ∈ L then none else H p
theorem mn_nil (H : Hp) : mn H [] = H := by funext p; unfold mn; rw [if_neg (by simp)]
/-- the owned ones of some parts -/
def ownOf : List G → List V → List V
  | .nod true _ _ :: gs, v :: vs => v :: ownOf gs vs
  | _ :: gs, _ :: vs => ownOf gs vs
  | _, _ => []
/-- what stands, and the tables -/
structure Eh [TC] (Hs H : Hp) : Prop where
  e : Ex Hs H
  tb : Tbs H
theorem Eh.step [TC] {Hs H HP HP1 H1 : Hp} (h : Eh Hs H) (st : Step HP H HP1 H1) : Eh Hs H1 := ⟨h.e.trans st.ex, st.tb h.tb⟩
theorem Ex.mnR {H H' : Hp} {L : List Addr} (e : Ex H H') (h : ∀ p ∈ L, H p = Option.none) : Ex H (mn H' L) := ⟨fun a u n z => by
  have ne : a ∉ L := fun q => by rw [h a q] at z; cases z
  unfold mn
  rw [if_neg ne]; exact e.k a u n z, fun a ps z => by
  have ne : a ∉ L := fun q => by rw [h a q] at z; cases z
  unfold mn
  rw [if_neg ne]; exact e.t a ps z⟩
structure StepL [TC] (HP H : Hp) (L : List Addr) (HP1 H1 : Hp) : Prop where
  ex : Ex (mn H L) H1
  tb : Tbs H → Tbs H1
  exP : Ex HP HP1
  new : ∀ p, HP1 p ≠ none → HP p ≠ none ∨ H p = none ∨ p ∈ L
  sees : Ex HP1 H1
theorem StepL.nil [TC] {HP H HP1 H1 : Hp} (s : StepL HP H [] HP1 H1) : Step HP H HP1 H1 :=
  ⟨by rw [← mn_nil H]; exact s.ex, s.tb, s.exP, fun p h => (s.new p h).elim .inl (fun q => q.elim .inr (fun z => absurd z (by simp))), s.sees⟩
theorem Step.toL [TC] {HP H HP1 H1 : Hp} (s : Step HP H HP1 H1) : StepL HP H [] HP1 H1 :=
  ⟨by rw [mn_nil H]; exact s.ex, s.tb, s.exP, fun p h => (s.new p h).elim .inl (fun q => .inr (.inl q)), s.sees⟩
/-- what an exception of ours is -/
def XAt (cA : CA) (HP H : Hp) (x : Exn) (d : Option Addr) : Prop := (x.fs = [] ∧ d = Option.none) ∨ ∃ dd vs, x.fs ≠ [] ∧ d = some dd ∧ H dd = some (.xd ((x.fs.map (·.1)).zip vs)) ∧ RTs cA HP (x.fs.map (·.2)) vs
def XVal (cA : CA) (HP H : Hp) (x : Exn) (cls : Value) (d : Option Addr) : Prop := cls = .ref (cA.ad x.cls) ∧ XAt cA HP H x d
/-- the promise of a def, from what the small language tells of it -/
def spOf [TC] (cA : CA) (Φ : Fns) (f : Str) (n : Nat) : Sp := fun vs H Q E => vs.length = n ∧ Tbs H ∧ ∃ (HP : Hp) (gs : List G) (L : List Addr), Ex HP H ∧ RGs cA HP (mn H L) H gs vs L ∧ L.Nodup ∧ (∀ p ∈ L, HP p = none) ∧
  match Φ.call f gs with
  | .ok r gs' => r.free = true ∧ ∀ v HP1 H1 O O', RG cA HP1 (mn H L) H1 r v O → RGs cA HP1 (mn H L) H1 gs' (ownOf gs vs) O' → (O ++ O').Nodup → (∀ p ∈ O ++ O', (H p = none ∨ p ∈ L) ∧ HP1 p = none) → StepL HP H L HP1 H1 → Q v H1
  | .exc x _ => ∀ cls d HP1 H1, XVal cA HP1 H1 x cls d → StepL HP H L HP1 H1 → E cls d H1
  | .stk => False
/-- an own exception class -/
structure XcOk (K : PySem.W.Frag) (C : Addr) : Prop where
  ex : PySem.W.excIn K C [.type "ValueError", .type "Exception", .type "BaseException", .type "object"] "ValueError.__new__" = true
  kp : PySem.W.keepIn K (.ref C) = true
  sb : PySem.W.subIn K (.ref C) (.type "BaseException") = some true
  ty : PySem.W.typeIn K (.ref C) = some (.type "type")
/-- a class that an exception is asked for -/
def xval (cA : CA) (D : Str) : Value := if D = ("ValueError" : Str) then .type "ValueError" else .ref (cA.ad D)
structure XsOk (K : PySem.W.Frag) (C : Addr) (v : Value) (b : Bool) : Prop where
  kit : PySem.W.kitOne K (.ref C) v = some b
  em : ∀ a, v = .ref a → PySem.W.exmOne K (.ref C) v = some b
  ec : ExcC K C
/-- what isinstance asks of an instance's class -/
structure InsA (K : PySem.W.Frag) (C : Addr) : Prop where
  cl : Cls K C
  ha : PySem.W.findIn K (.ref C) "__class__" = some (some (.builtin "object.__class__"))
  hn : PySem.W.specialIn K (.builtin "object.__class__") "__get__" = some (some (.builtin "getset_descriptor.__get__"))
  htk : PySem.W.takesIn K (.builtin "object.__class__") = some true
  hm : PySem.W.mroIn K C (.type "object") = some true
/-- the promise of such an __init__ -/
def spXi (C : Addr) (f : Str) : Sp := fun vs H Q E => ∃ a y, vs = [.ref a, y] ∧ H a = some (exo a C none) ∧ ∀ dx, H dx = none → dx ≠ a → Q .non (upd (upd H dx (exd dx [(f, y)])) a (exo a C (some dx)))
def xiBody (b self x m f : Str) (j : Nat) (p1 p2 p3 p4 p5 p6 p7 p8 p9 p10 : Pos) : List Stmt :=
  [.Expr (.Call (.Attribute (.Name b p1) "__init__" p2) [.Name self p3, .Constant (.str m) j p4] [] p5) p6, .Assign [.Attribute (.Name self p7) f p8] (.Name x p9) p10]
/-- what the text says of such a class; fI: its __init__ -/
structure XiOk (K : PySem.W.Frag) (mg : Str → Option Value) (C fI : Addr) (f : Str) (fdt : FuncData) : Prop where
  oc : OexC K C
  iC : PySem.W.findIn K (.ref C) "__init__" = some (some (.ref fI))
  tI : PySem.W.typeIn K (.ref fI) = some (.type "function")
  no : PySem.W.findIn K (.ref C) f = some none
  ex : ∃ (B : Addr) (b qual nm self x m : Str) (st : Stmt) (j : Nat) (p1 p2 p3 p4 p5 p6 p7 p8 p9 p10 : Pos), L2.Fun K nm qual st fI fdt ∧ FnScope [self, x] [self, x] (defScope st) ∧ defBody st = xiBody b self x m f j p1 p2 p3 p4 p5 p6 p7 p8 p9 p10 ∧
    mg b = some (.ref B) ∧ glB (defScope st) b = true ∧ sane b = true ∧ sane self = true ∧ sane x = true ∧ ClX.CRead K B (.type "type") ∧ PySem.W.findCls K (.ref B) (.type "type") "__init__" = some (.val (.builtin "ValueError.__init__")) ∧
    (∀ us : List Value, us.length = 2 → bindArgs fdt ⟨us, []⟩ = pure ([self, x].zip us)) ∧ visB (defScope st) self = true ∧ visB (defScope st) x = true ∧ (p2.endLine == p5.line) = true
/-- def g(a, b): return isinstance(a, int) and not isinstance(a, bool) and a == b -/
def isdBody (a b : Str) (p1 p2 p3 p4 p5 p6 p7 p8 p9 p10 p11 p12 p13 p14 : Pos) : List Stmt :=
  [.Return (some (.BoolOp .And [.Call (.Name "isinstance" p1) [.Name a p2, .Name "int" p3] [] p4, .UnaryOp .Not (.Call (.Name "isinstance" p5) [.Name a p6, .Name "bool" p7] [] p8) p9, .Compare (.Name a p10) [.Eq] [.Name b p11] p12] p13)) p14]
def spIs : Sp := fun vs H Q E => ∃ i j, vs = [.int i, .int j] ∧ Q (.bl (decide (i = j))) H
structure IsdOk (K : PySem.W.Frag) (mg : Str → Option Value) (g : Str) (fa : Addr) (fdt : FuncData) : Prop where
  mn : mg g = some (.ref fa)
  kp : PySem.W.keepIn K (.ref fa) = true
  ex : ∃ (nm a b : Str) (st : Stmt) (p1 p2 p3 p4 p5 p6 p7 p8 p9 p10 p11 p12 p13 p14 : Pos), L2.Fun K nm g st fa fdt ∧ FnScope [a, b] [a, b] (defScope st) ∧ defBody st = isdBody a b p1 p2 p3 p4 p5 p6 p7 p8 p9 p10 p11 p12 p13 p14 ∧
    glB (defScope st) "isinstance" = true ∧ glB (defScope st) "int" = true ∧ glB (defScope st) "bool" = true ∧ mg "isinstance" = none ∧ mg "int" = none ∧ mg "bool" = none ∧ sane a = true ∧ sane b = true ∧ visB (defScope st) a = true ∧ visB (defScope st) b = true ∧
    (∀ us : List Value, us.length = 2 → bindArgs fdt ⟨us, []⟩ = pure ([a, b].zip us))
/-- the promise of an __init__ that stores two -/
def spXi2 (C : Addr) (f g : Str) : Sp := fun vs H Q E => ∃ a y z, vs = [.ref a, y, z] ∧ H a = some (exo a C none) ∧ ∀ dx, H dx = none → dx ≠ a → Q .non (upd (upd (upd H dx (exd dx [(f, y)])) a (exo a C (some dx))) dx (exd dx [(g, z), (f, y)]))
def xi2Body (b self x y m f g : Str) (j : Nat) (p1 p2 p3 p4 p5 p6 p7 p8 p9 p10 q7 q8 q9 q10 : Pos) : List Stmt :=
  [.Expr (.Call (.Attribute (.Name b p1) "__init__" p2) [.Name self p3, .Constant (.str m) j p4] [] p5) p6, .Assign [.Attribute (.Name self p7) f p8] (.Name x p9) p10, .Assign [.Attribute (.Name self q7) g q8] (.Name y q9) q10]
structure XiOk2 (K : PySem.W.Frag) (mg : Str → Option Value) (C fI : Addr) (f g : Str) (fdt : FuncData) : Prop where
  oc : OexC K C
  iC : PySem.W.findIn K (.ref C) "__init__" = some (some (.ref fI))
  tI : PySem.W.typeIn K (.ref fI) = some (.type "function")
  no : PySem.W.findIn K (.ref C) f = some none
  no2 : PySem.W.findIn K (.ref C) g = some none
  ex : ∃ (B : Addr) (b qual nm self x y m : Str) (st : Stmt) (j : Nat) (p1 p2 p3 p4 p5 p6 p7 p8 p9 p10 q7 q8 q9 q10 : Pos), L2.Fun K nm qual st fI fdt ∧ FnScope [self, x, y] [self, x, y] (defScope st) ∧ defBody st = xi2Body b self x y m f g j p1 p2 p3 p4 p5 p6 p7 p8 p9 p10 q7 q8 q9 q10 ∧
    mg b = some (.ref B) ∧ glB (defScope st) b = true ∧ sane b = true ∧ sane self = true ∧ sane x = true ∧ sane y = true ∧ ClX.CRead K B (.type "type") ∧ PySem.W.findCls K (.ref B) (.type "type") "__init__" = some (.val (.builtin "ValueError.__init__")) ∧
    (∀ us : List Value, us.length = 3 → bindArgs fdt ⟨us, []⟩ = pure ([self, x, y].zip us)) ∧ visB (defScope st) self = true ∧ visB (defScope st) x = true ∧ visB (defScope st) y = true ∧ (p2.endLine == p5.line) = true
/-! a def that asks of which class an exception is -/
def kdEs (sc : Scope) (x : Str) : List Expr → Option (List Str)
  | [] => some []
  | .Call (.Name f p) [.Name y py, .Name C pC] [] pos :: r => if f == ("isinstance" : Str) && y == x && glB sc C && sane C && !(C == ("ValueError" : Str)) then (kdEs sc x r).map (C :: ·) else none
  | _ :: _ => none
def kdSts (sc : Scope) (x k : Str) : List Stmt → Option (List Str)
  | .Assign [.Name k1 p1] (.BinOp (.Name k2 p2) .Add (.List es lp) bp) pos :: r => if k1 == k && k2 == k && decide (es.length ≤ 100) then (match kdEs sc x es, kdSts sc x k r with
    | some a, some b => some (a ++ b)
    | _, _ => none) else none
  | [.If (.BoolOp .Or [.Compare (.Call (.Attribute (.Name k1 q1) m qa) [.Constant (.bool true) j1 q2] [] qc) [.NotEq] [.Constant (.int i1) j2 q3] q4, .UnaryOp .Not (.Call (.Name f q5) [.Name y q6, .Name v q7] [] q8) q9] q10) [.Return (some (.UnaryOp .USub (.Constant (.int i2) j3 q11) q12)) q13] [] q14, .Return (some (.Call (.Attribute (.Name k2 q15) m2 qb) [.Constant (.bool true) j4 q16] [] qd)) q17] =>
    if k1 == k && k2 == k && m == ("count" : Str) && m2 == ("index" : Str) && decide (i1 = 1) && decide (i2 = 1) && f == ("isinstance" : Str) && y == x && v == ("ValueError" : Str) && (qa.endLine == qc.line) && (qb.endLine == qd.line) then some [] else none
  | _ => none
def kdBody (sc : Scope) (x k : Str) : List Stmt → Option (List Str)
  | .Assign [.Name k1 p1] (.List es lp) pos :: r => if k1 == k && decide (es.length ≤ 100) then (match kdEs sc x es, kdSts sc x k r with
    | some a, some b => some (a ++ b)
    | _, _ => none) else none
  | _ => none
/-- which, by how it is asked -/
def kdN (bs : List Bool) (v : Bool) : Option Int := if bs.count true ≠ 1 ∨ v = false then some (-1) else (bs.findIdx? id).map fun j => ((j : Nat) : Int)
structure XkOk (K : PySem.W.Frag) (mg : Str → Option Value) (ad : Str → Addr) (g : Str) (Cs : List Str) : Prop where
  ex : ∃ (fa : Addr) (fdt : FuncData) (nm x k : Str) (st : Stmt), L2.Fun K nm g st fa fdt ∧ FnScope [x, k] [x] (defScope st) ∧ kdBody (defScope st) x k (defBody st) = some Cs ∧ Cs.length ≤ 100 ∧ mg g = some (.ref fa) ∧ PySem.W.keepIn K (.ref fa) = true ∧
    glB (defScope st) "isinstance" = true ∧ glB (defScope st) "ValueError" = true ∧ mg "isinstance" = none ∧ mg "ValueError" = none ∧ (∀ C ∈ Cs, mg C = some (.ref (ad C)) ∧ ¬ (C == ("ValueError" : Str)) = true) ∧ sane x = true ∧ sane k = true ∧ visB (defScope st) x = true ∧ (defScope st).names.lookup k = some .local ∧
    (∀ us : List Value, us.length = 1 → bindArgs fdt ⟨us, []⟩ = pure ([x].zip us))
/-- what a body stands in -/
structure Ctx [TC] (X : Cx) (CX : CXT) (XE : XK) (tb : Tb) (sc : Scope) (Φ : Fns) (gl : Str → Option T) (cA : CA) : Prop where
  scp : X.env.scope = sc
  nm : X.N = tb.N
  nd : X.N.Nodup
  calm : X.calm = true
  un : X.A.units + 65 < cLine
  fn : ∀ f n, tb.fns.lookup f = some n → ∃ fa fd ps k, ps.length = n ∧ X.mg f = some (.ref fa) ∧ PySem.W.keepIn X.K (.ref fa) = true ∧ Binds X.K fd ps [] ∧ FnOk X.prog X.w X.K X.mg X.base CX k fa fd ps (spOf cA Φ f n) ∧ Room k X.A
  ps : ∀ Y : Cx, Passes CX Y XE
  kK : cA.K = X.K
  bl : ∀ x, tb.bls.contains x = true → X.mg x = none
  gv : ∀ x t, tb.gls.contains x = true → gl x = some t → flatT t = true ∧ ∃ u, X.mg x = some u ∧ RelV (toV t) u
  cv : ∀ C, tb.cls.contains C = true → X.mg C = some (.ref (cA.ad C))
  mt : ∀ C m f n, Φ.meth C m = some (f, n) → ∃ fa fd ps k, ps.length = n ∧ Cls X.K (cA.ad C) ∧ Meth X.K (cA.ad C) m fa ∧ Binds X.K fd ps [] ∧ FnOk X.prog X.w X.K X.mg X.base CX k fa fd ps (spOf cA Φ f n) ∧ Room k X.A
  mi : ∀ C f n, Φ.init C = some (f, n) → ∃ fa fd ps k, ps.length = n ∧ Mk X.K (cA.ad C) fa ∧ Binds X.K fd ps [] ∧ FnOk X.prog X.w X.K X.mg X.base CX k fa fd ps (spOf cA Φ f n) ∧ Room (k + 1) X.A
  fl : ∀ C f, Φ.fld C f = true → Cls X.K (cA.ad C) ∧ NoAttr X.K (cA.ad C) f
  su : ∀ C D b, Φ.sub C D = some b → InsA X.K (cA.ad C) ∧ PySem.W.kitOne X.K (.ref (cA.ad C)) (.ref (cA.ad D)) = some b
  xv : ∀ C, tb.xcs.contains C = true → X.mg C = some (.ref (cA.ad C))
  xc : ∀ C, Φ.xcl C = true → XcOk X.K (cA.ad C)
  xs : ∀ C D b, Φ.xsub C D = some b → XsOk X.K (cA.ad C) (xval cA D) b
  xi : ∀ C f, Φ.xin C = some f → ∃ fI fdt, XiOk X.K X.mg (cA.ad C) fI f fdt ∧ Room 2 X.A
  hd : ∀ g, Φ.isd g = true → ∃ fa fdt, IsdOk X.K X.mg g fa fdt ∧ Room 2 X.A
  xi2 : ∀ C f g, Φ.xin2 C = some (f, g) → ∃ fI fdt, XiOk2 X.K X.mg (cA.ad C) fI f g fdt ∧ Room 2 X.A
  xk : ∀ g Cs, Φ.xkd g = some Cs → XkOk X.K X.mg cA.ad g Cs ∧ Room 2 X.A
/-- the slots, read off HP and a heap of all that stands -/
structure PV (cA : CA) (HP Hs : Hp) (env : Env) (σ : St) : Prop where
  get : ∀ (i : Nat) g, env[i]? = some (some g) → ∃ v, σ[i]? = some (some v) ∧ RG cA HP Hs Hs g.bor v []
  len : env.length = σ.length
theorem PV.mono {cA : CA} {HP HP1 Hs : Hp} {env : Env} {σ : St} (e : Ex HP HP1) (h : PV cA HP Hs env σ) : PV cA HP1 Hs env σ := ⟨fun i g q => by
  obtain ⟨v, e1, e2⟩ := h.get i g q
  exact ⟨v, e1, e2.mono e (Ex.refl _) (Ex.refl _)⟩, h.len⟩
/-- an expression's result as it is wanted -/
def WpR [TC] (cA : CA) (r : Res G) (HP Hs H : Hp) (Q : VK) : Prop := match r with
  | .ok g => ∀ v HP1 H1 O, RG cA HP1 Hs H1 g v O → O.Nodup → (∀ p ∈ O, H p = none ∧ HP1 p = none) → Step HP H HP1 H1 → Q v H1
  | .exc _ => False
  | .stk => False
def WpRs [TC] (cA : CA) (r : Res (List G)) (HP Hs H : Hp) (Q : List V → Hp → Prop) : Prop := match r with
  | .ok gs => ∀ vs HP1 H1 O, RGs cA HP1 Hs H1 gs vs O → O.Nodup → (∀ p ∈ O, H p = none ∧ HP1 p = none) → Step HP H HP1 H1 → Q vs H1
  | .exc _ => False
  | .stk => False
def WpB [TC] (r : Res Bool) (HP H : Hp) (Q : Bool → Hp → Prop) : Prop := match r with
  | .ok b => ∀ HP1 H1, Step HP H HP1 H1 → Q b H1
  | .exc _ => False
  | .stk => False
def WpO [TC] (r : Res (Option Int)) (HP H : Hp) (Q : Option Int → Hp → Prop) : Prop := match r with
  | .ok b => ∀ HP1 H1, Step HP H HP1 H1 → Q b H1
  | .exc _ => False
  | .stk => False
section
variable [TC] {X : Cx} {CX : CXT} {XE : XK} {tb : Tb} {sc : Scope} {Φ : Fns} {gl : Str → Option T} {cA : CA}
def SndE (X : Cx) (Φ : Fns) (gl : Str → Option T) (cA : CA) (ex : Expr) (e : E) : Prop :=
  ∀ env σ HP Hs H Q, PV cA HP Hs env σ → Eh Hs H → Ex HP H → WpR cA (ev Φ gl env e) HP Hs H Q → wpE X ex σ H Q
def SndEs (X : Cx) (Φ : Fns) (gl : Str → Option T) (cA : CA) (exs : List Expr) (es : List E) : Prop :=
  ∀ env σ HP Hs H Q, PV cA HP Hs env σ → Eh Hs H → Ex HP H → WpRs cA (evs Φ gl env es) HP Hs H Q → wpA X exs σ H Q
theorem fresh_nd {O : List Addr} {H HP H0 HP0 : Hp} (s : Step HP0 H0 HP H) (h : ∀ p ∈ O, H p = none ∧ HP p = none) : ∀ p ∈ O, H0 p = none ∧ HP0 p = none := fun p hp => ⟨s.ex.none (h p hp).1, s.exP.none (h p hp).2⟩
theorem WpR.from {r : Res G} {HP Hs H HP1 H1 : Hp} {Q : VK} (s : Step HP H HP1 H1) (h : WpR cA r HP Hs H Q) : WpR cA r HP1 Hs H1 Q := by
  cases r with
  | ok g => exact fun v HP2 H2 O a b c d => h v HP2 H2 O a b (fun p hp => ⟨s.ex.none (c p hp).1, (c p hp).2⟩) (s.trans d)
  | exc x => exact h.elim
  | stk => exact h.elim
theorem WpRs.from {r : Res (List G)} {HP Hs H HP1 H1 : Hp} {Q : List V → Hp → Prop} (s : Step HP H HP1 H1) (h : WpRs cA r HP Hs H Q) : WpRs cA r HP1 Hs H1 Q := by
  cases r with
  | ok g => exact fun v HP2 H2 O a b c d => h v HP2 H2 O a b (fun p hp => ⟨s.ex.none (c p hp).1, (c p hp).2⟩) (s.trans d)
  | exc x => exact h.elim
  | stk => exact h.elim
/-- an expression, then what is made of it -/
theorem SndE.then {ex : Expr} {e : E} (S : SndE X Φ gl cA ex e) {env : Env} {σ : St} {HP Hs H : Hp} (pv : PV cA HP Hs env σ) (hs : Eh Hs H) (hp : Ex HP H) {Q Q' : VK} {f : G → Res G}
    (h : WpR cA ((ev Φ gl env e).bind f) HP Hs H Q)
    (k : ∀ g v HP1 H1 O, RG cA HP1 Hs H1 g v O → O.Nodup → (∀ p ∈ O, H p = none ∧ HP1 p = none) → Step HP H HP1 H1 → WpR cA (f g) HP1 Hs H1 Q → Q' v H1) : wpE X ex σ H Q' := by
  refine S env σ HP Hs H Q' pv hs hp ?_
  cases q : ev Φ gl env e with
  | ok g =>
    rw [q] at h
    exact fun v HP1 H1 O a b c d => k g v HP1 H1 O a b c d (WpR.from d h)
  | exc x => rw [q] at h; exact h.elim
  | stk => rw [q] at h; exact h.elim
theorem SndEs.then {exs : List Expr} {es : List E} (S : SndEs X Φ gl cA exs es) {env : Env} {σ : St} {HP Hs H : Hp} (pv : PV cA HP Hs env σ) (hs : Eh Hs H) (hp : Ex HP H) {Q : VK} {Q' : List V → Hp → Prop} {f : List G → Res G}
    (h : WpR cA ((evs Φ gl env es).bind f) HP Hs H Q)
    (k : ∀ gs vs HP1 H1 O, RGs cA HP1 Hs H1 gs vs O → O.Nodup → (∀ p ∈ O, H p = none ∧ HP1 p = none) → Step HP H HP1 H1 → WpR cA (f gs) HP1 Hs H1 Q → Q' vs H1) : wpA X exs σ H Q' := by
  refine S env σ HP Hs H Q' pv hs hp ?_
  cases q : evs Φ gl env es with
  | ok g =>
    rw [q] at h
    exact fun v HP1 H1 O a b c d => k g v HP1 H1 O a b c d (WpR.from d h)
  | exc x => rw [q] at h; exact h.elim
  | stk => rw [q] at h; exact h.elim
end
/-! ### operations by values -/
section
variable [TC] {X : Cx} {cA : CA} {HP Hs H : Hp} {Q : VK} {x y v : V} {O O1 O2 : List Addr} {a b g : G}
def wpOp (X : Cx) (f : Value → Value → PySem.Sem Value) : R2 := fun x y H Q => ∃ r, OpR X f r ∧ r x y H Q
theorem opW {f : Value → Value → PySem.Sem Value} : OpR X f (wpOp X f) := fun pins s σ H x y v u Q I rx ry ⟨r, h, q⟩ => h pins s σ H x y v u Q I rx ry q
/-- a plain value -/
theorem WpR.val {t : T} (h : WpR cA (.ok (.val t)) HP Hs H Q) (hp : Ex HP H) (r : RT cA HP t v) : Q v H :=
  h v HP H [] ⟨r, rfl⟩ List.nodup_nil (fun _ z => nomatch z) (Step.refl hp)
/-- a new list -/
theorem WpR.newL {ts : List T} {vs : List V} (h : WpR cA (.ok (.own .lst ts)) HP Hs H Q) (hp : Ex HP H) (r : RTs cA HP ts vs) : ∀ p, H p = none → Q (.ref p) (upd H p (.lst vs)) := fun p hn =>
  h (.ref p) HP (upd H p (.lst vs)) [p] ⟨p, vs, [], rfl, upd_same, RTs.toG r, rfl⟩ (by simp) (fun q hq => by rw [List.mem_singleton.mp hq]; exact ⟨hn, hp.none hn⟩) (Step.own hp hn)
/-- a new tuple -/
theorem WpR.newT {ts : List T} {vs : List V} (h : WpR cA (.ok (.val (.nod .tup ts))) HP Hs H Q) (hp : Ex HP H) (r : RTs cA HP ts vs) : ∀ p, H p = none → Q (.ref p) (upd H p (.tup vs)) := fun p hn =>
  h (.ref p) (upd HP p (.tup vs)) (upd H p (.tup vs)) [] ⟨⟨p, vs, rfl, .inl upd_same, RTs.mono (Ex.new (hp.none hn)) r⟩, rfl⟩ List.nodup_nil (fun _ z => nomatch z) (Step.frz hp hn)
theorem RG.int (h : RG cA HP Hs H g v O) (hp : Ex HP H) (hs : Ex Hs H) {i : Int} (e : g.toT = .int i) : v = .int i := by
  have r := RG.toT hp hs h
  rw [e] at r; exact r
theorem RG.str (h : RG cA HP Hs H g v O) (hp : Ex HP H) (hs : Ex Hs H) {i : Str} (e : g.toT = .str i) : v = .str i := by
  have r := RG.toT hp hs h
  rw [e] at r; exact r
theorem RG.bl (h : RG cA HP Hs H g v O) (hp : Ex HP H) (hs : Ex Hs H) {i : Bool} (e : g.toT = .bl i) : v = .bl i := by
  have r := RG.toT hp hs h
  rw [e] at r; exact r
/-- the items of a list or a tuple -/
theorem RG.parts (h : RG cA HP Hs H g v O) (hp : Ex HP H) (hs : Ex Hs H) {k : Kd} {gs : List G} (e : g.parts = some (k, gs)) : ∃ p vs O', v = .ref p ∧ At cA H k p vs ∧ RGs cA HP Hs H gs vs O' ∧ (∀ q ∈ O', q ∈ O) ∧ (O.Nodup → O'.Nodup) := by
  cases g with
  | val t =>
    cases t with
    | nod k' ts =>
      obtain ⟨⟨p, vs, h1, h2, h3⟩, h4⟩ := h
      cases e
      exact ⟨p, vs, [], h1, h2.mono hp, RTs.toG h3, (fun _ z => nomatch z), fun _ => List.nodup_nil⟩
    | non => cases e
    | bl _ => cases e
    | int _ => cases e
    | str _ => cases e
  | nod o k' gs' =>
    cases e
    cases o with
    | true =>
      obtain ⟨p, vs, O', h1, h2, h3, h4⟩ := h
      exact ⟨p, vs, O', h1, h2.at, h3, fun q hq => by rw [h4]; exact List.mem_cons_of_mem _ hq, fun nd => by rw [h4] at nd; exact (List.nodup_cons.mp nd).2⟩
    | false =>
      obtain ⟨p, vs, h1, h2, h3⟩ := h
      exact ⟨p, vs, O, h1, h2.mono hs, h3, (fun _ z => z), id⟩
theorem RG.lst (h : RG cA HP Hs H g v O) (hp : Ex HP H) (hs : Ex Hs H) {ts us : List T} (e : g.items = some ts) (e2 : g.toT = .nod .lst us) : ∃ p vs, v = .ref p ∧ SqL cA.K H p vs ∧ RTs cA HP ts vs := by
  unfold G.items at e
  cases q : g.parts with
  | none => rw [q] at e; cases e
  | some kg =>
    obtain ⟨k, gs⟩ := kg
    obtain ⟨p, vs, O', h1, h2, h3, _⟩ := RG.parts h hp hs q
    have hk : k = .lst := by
      cases g with
      | val t =>
        cases t with
        | nod k' ts' => cases q; cases e2; rfl
        | non => cases q
        | bl _ => cases q
        | int _ => cases q
        | str _ => cases q
      | nod o k' gs' => cases q; cases e2; rfl
    subst hk
    rw [q] at e
    exact ⟨p, vs, h1, h2, (RGs.vals h3 e).1⟩
/-- a list that is read -/
theorem lstR {pins : List (Addr × Obj)} {σ : St} {s : Shared} {l : Addr} {xs : List V} (I : Inv X pins σ H s) (h : Rd H l (.lst xs)) : xs.length ≤ sizeLine ∧ ∃ its n, Vals xs its ∧ xs.length = its.length ∧ s.heap.get? l = some { cls := .type "list", data := .seq its.toArray n } := by
  obtain ⟨z, its, n, r, e⟩ := h.ok I.hok
  exact ⟨z, its, n, r, r.length, e⟩
def rCatR (K : PySem.W.Frag) : R2 := fun x y H Q => ∃ l b xs zs, x = .ref l ∧ y = .ref b ∧ SqL K H l xs ∧ SqL K H b zs ∧ xs.length + zs.length ≤ sizeLine ∧ ∀ p, H p = none → Q (.ref p) (upd H p (.lst (xs ++ zs)))
open PySem.Spec PyProof.Rows in
theorem op_catR : OpR X (binaryOp .Add) (rCatR X.K) := by
  intro pins s σ H x y v u Q I rx ry h
  obtain ⟨l, b, xs, zs, rfl, rfl, hH, hB, hz, q⟩ := h
  cases rx
  cases ry
  obtain ⟨its, r, pl, z⟩ := I.list hH
  obtain ⟨its2, r2, pl2, z2⟩ := I.list hB
  have hl := r.length
  have hl2 := r2.length
  obtain ⟨⟨cls, dd, data, sl⟩, ho, hc, n, hd⟩ := pl.isList
  obtain ⟨⟨cls2, dd2, data2, sl2⟩, ho2, hc2, n2, hd2⟩ := pl2.isList
  simp only at hc hd hc2 hd2
  subst hc hd hc2 hd2
  have e : its.toArray ++ its2.toArray = (its ++ its2).toArray := by simp
  refine concat_meets ⟨_, ho, rfl⟩ ⟨_, ho2, rfl⟩ noFill_list_add seq_list_add PySem.F.slot_list_add PySem.F.entry_list_add (PySem.F.args_list_add_2 _ _) (list_addW l b its.toArray its2.toArray n n2 dd dd2 sl sl2 (by rw [List.size_toArray, List.size_toArray]; omega)) ⟨ho, ho2, ?_⟩
  rw [e]
  exact ⟨.ref _, _, I.lnew (t' := s.toks) (r.append r2) (by rw [List.length_append]; omega), rfl, q _ I.fresh⟩
end
end Bv
set_option maxRecDepth 100000
set_option maxHeartbeats 1000000
/-! Part 4: the operations do what they are told to. -/
namespace Bv
open PySem L2
section
variable [TC] {X : Cx} {cA : CA} {HP Hs H : Hp} {Q : VK} {x y v : V} {O O1 O2 : List Addr} {a b g : G}
theorem opI' {f : Value → Value → PySem.Sem Value} {C : Int → Int → Prop} {h : Int → Int → V} (o : OpR X f (rI C h)) {i j : Int} (c : C i j) (q : Q (h i j) H) : wpOp X f (.int i) (.int j) H Q := ⟨_, o, i, j, rfl, rfl, c, q⟩
theorem opI0' {f : Value → Value → PySem.Sem Value} {h : Int → Int → V} (o : OpR X f (rI0 h)) {i j : Int} (q : Q (h i j) H) : wpOp X f (.int i) (.int j) H Q := ⟨_, o, i, j, rfl, rfl, q⟩
def CMulX (i j : Int) : Prop := i.natAbs.log2 + j.natAbs.log2 < 100000000
theorem op_mulX : OpR X (binaryOp .Mult) (rI CMulX fun i j => .int (i * j)) := by
  intro pins s σ H x y v u Q I rx ry h
  obtain ⟨i, j, rfl, rfl, hc, q⟩ := h
  obtain ⟨t, rfl⟩ := rx
  obtain ⟨t', rfl⟩ := ry
  refine PyProof.Rows.mul_int ⟨.int _, H, I.tok _, ⟨_, rfl⟩, q⟩ ?_
  have b : ∀ x : Int, Builtin.Int.intBits x ≤ x.natAbs.log2 + 1 := fun x => by
    unfold Builtin.Int.intBits
    split <;> omega
  have h1 := b i
  have h2 := b j
  have h3 : i.natAbs.log2 + j.natAbs.log2 < 100000000 := hc
  have e : bitsLine = 134217728 := by decide
  unfold IntMulOk
  intro z
  rw [Bool.and_eq_true] at z
  have z2 := z.2
  unfold Builtin.Int.intTooBig at z2
  have z3 := of_decide_eq_true z2
  rw [e] at z3
  omega
theorem op_mulS : OpR X (binaryOp .Mult) (fun x y H Q => ∃ z n, x = .str z ∧ y = .int n ∧ strMulOk z n = true ∧ Q (.str (Txt.mul z n)) H) := by
  intro pins s σ H x y v u Q I rx ry h
  obtain ⟨z, n, rfl, rfl, hc, q⟩ := h
  obtain ⟨t, rfl⟩ := rx
  obtain ⟨t', rfl⟩ := ry
  unfold strMulOk at hc
  simp only [Bool.and_eq_true, decide_eq_true_eq] at hc
  obtain ⟨⟨h1, h2⟩, h3⟩ := hc
  refine PySem.SB.mul ⟨?_, fun hn _ => ?_, fun hn _ => ?_⟩ fun t' k => ⟨.str _, H, I.tok k, ⟨_, rfl⟩, q⟩
  · have e1 : decide (n < -(2 ^ 63 : Int)) = false := decide_eq_false (by omega)
    have e2 : decide (n ≥ 2 ^ 63) = false := decide_eq_false (by omega)
    rw [e1, e2]; rfl
  · have : (1000 : Int) ≤ (2 ^ 63 - 1) / n := by
      refine Int.le_ediv_of_mul_le (by omega) ?_
      have : (1000 : Int) * n ≤ 1000 * 1000 := Int.mul_le_mul_of_nonneg_left h2 (by decide)
      omega
    omega
  · have e : z.length * n.toNat ≤ 1000 * 1000 := Nat.mul_le_mul h3 (by omega)
    unfold Builtin.Str.tooLong
    have e2 : (sizeLine : Nat) = 16777216 := by decide
    exact decide_eq_false (by rw [e2]; omega)
def rRepR : R2 := fun x y H Q => ∃ l k xs, x = .ref l ∧ y = .int k ∧ Rd H l (.lst xs) ∧ -(2 ^ 63) ≤ k ∧ k < 2 ^ 63 ∧ xs.length * k.toNat ≤ sizeLine ∧
  ∀ p, H p = none → Q (.ref p) (upd H p (.lst (List.replicate k.toNat xs).flatten))
open PySem.Spec PyProof.Rows HT in
theorem op_repR : OpR X (binaryOp .Mult) rRepR := by
  intro pins s σ H x y v u Q I rx ry h
  obtain ⟨l, k, xs, rfl, rfl, hH, h1, h2, hz, q⟩ := h
  cases rx
  obtain ⟨t, rfl⟩ := ry
  obtain ⟨z, its, n, r, hl, e⟩ := lstR I hH
  have hlen : its.toArray.size * k.toNat ≤ sizeLine := by rw [List.size_toArray, ← hl]; exact hz
  have hcap : ¬ its.toArray.size * k.toNat > (2 ^ 63 - 1) / 8 := by
    have : (sizeLine : Nat) ≤ (2 ^ 63 - 1) / 8 := by decide
    omega
  have hfit : ¬ (!Builtin.List.listFitsIndex k) = true := by
    rw [fitsIndex_both h1 h2]
    exact Bool.false_ne_true
  have hlong : ¬ Builtin.List.listTooLong (its.toArray.size * k.toNat) = true := by
    rw [notLongL hlen]
    exact Bool.false_ne_true
  have hnew : List.foldl (fun x1 x2 => x1 ++ x2) #[] (List.replicate (if its.toArray.isEmpty = true then 0 else k.toNat) its.toArray) = (List.replicate k.toNat its).flatten.toArray := by
    have f0 : ∀ m : Nat, List.foldl (fun x1 x2 => x1 ++ x2) #[] (List.replicate m its.toArray) = (List.replicate m its).flatten.toArray := fun m => by
      have := foldl_rep its m []
      rw [List.nil_append] at this
      exact this
    rw [f0]
    cases its with
    | nil => simp
    | cons a r' => rw [if_neg (by simp)]
  refine wpAny_binaryOp_repeat_ref (T := "list") (U := "int") (by decide) ⟨_, e, rfl⟩ (fun s' => typeIs_int s' k t) noFill_list_mul F.fills_int_mul F.slot_int_rmul repeat_list F.slot_int_index.lookup
    (call_meets F.slot_int_rmul (typeIs_int s k t) F.entry_int_rmul (F.args_int_rmul_2 _ _) (int___rmul___int_list k t l its.toArray n)
      ⟨e, rfl, ⟨_, e, rfl⟩, call_meets F.slot_list_mul ⟨_, e, rfl⟩ F.entry_list_mul (F.args_list_mul_2 _ _) (AutoListH.list___mul___list_int_3 l its.toArray n k t hfit hcap hlong) ⟨e, ?_⟩⟩)
  rw [hnew]
  exact ⟨.ref _, _, I.lnew (t' := s.toks) (r.rep k.toNat) (by rw [PyProof.Rows.lm_len_rep_flat, Nat.mul_comm]; exact hz), rfl, q _ I.fresh⟩
theorem RG.lstO (h : RG cA HP Hs H g v O) {ts us : List T} (e : g.items = some ts) (e2 : g.toT = .nod .lst us) (ho : isOwn g = true) : ∃ p vs, v = .ref p ∧ Rd H p (.lst vs) ∧ RTs cA HP ts vs := by
  cases g with
  | val t => cases ho
  | nod o k gs =>
    cases o with
    | false => cases ho
    | true =>
      cases e2
      obtain ⟨p, vs, O', h1, h2, h3, h4⟩ := h
      unfold G.items at e
      simp only [G.parts] at e
      exact ⟨p, vs, h1, .inl h2, (h3.vals e).1⟩
theorem RTs.rep {ts : List T} {vs : List V} (h : RTs cA HP ts vs) : ∀ n, RTs cA HP (List.replicate n ts).flatten (List.replicate n vs).flatten
  | 0 => rfl
  | n + 1 => by rw [List.replicate_succ, List.replicate_succ, List.flatten_cons, List.flatten_cons]; exact h.append (RTs.rep h n)
theorem binG_ok (hK : cA.K = X.K) (hp : Ex HP H) (hs : Ex Hs H) (ra : RG cA HP Hs H a x O1) (rb : RG cA HP Hs H b y O2) (o : BOp) (op : Operator) (ho : toBOp op = some o) (h : WpR cA (binG o a b) HP Hs H Q) : wpOp X (binaryOp op) x y H Q := by
  unfold binG at h
  split at h
  · rename_i i j e1 e2
    cases ra.int hp hs e1; cases rb.int hp hs e2
    cases op <;> simp [toBOp] at ho
    exact opI0' op_add (h.val hp rfl)
  · rename_i i j e1 e2
    cases ra.int hp hs e1; cases rb.int hp hs e2
    cases op <;> simp [toBOp] at ho
    exact opI0' op_sub (h.val hp rfl)
  · rename_i i j e1 e2
    cases ra.int hp hs e1; cases rb.int hp hs e2
    cases op <;> simp [toBOp] at ho
    split at h
    · rename_i c
      exact opI' op_mulX (c := of_decide_eq_true (p := i.natAbs.log2 + j.natAbs.log2 < 100000000) c) (h.val hp rfl)
    · exact h.elim
  · rename_i i j e1 e2
    cases ra.int hp hs e1; cases rb.int hp hs e2
    cases op <;> simp [toBOp] at ho
    split at h
    · rename_i c
      unfold divOk at c
      simp only [Bool.and_eq_true, decide_eq_true_eq] at c
      exact opI' op_fdivW c (h.val hp rfl)
    · exact h.elim
  · rename_i i j e1 e2
    cases ra.int hp hs e1; cases rb.int hp hs e2
    cases op <;> simp [toBOp] at ho
    split at h
    · rename_i c
      exact opI' op_mod c (h.val hp rfl)
    · exact h.elim
  · rename_i i j e1 e2
    cases ra.int hp hs e1; cases rb.int hp hs e2
    cases op <;> simp [toBOp] at ho
    split at h
    · rename_i c
      unfold powOk at c
      simp only [Bool.and_eq_true, decide_eq_true_eq] at c
      exact opI' op_pow ⟨c.1.1, c.1.2, c.2⟩ (h.val hp rfl)
    · exact h.elim
  · rename_i i j e1 e2
    cases ra.str hp hs e1; cases rb.str hp hs e2
    cases op <;> simp [toBOp] at ho
    split at h
    · rename_i c
      exact ⟨_, op_add_str, i, j, rfl, rfl, c, h.val hp rfl⟩
    · exact h.elim
  · rename_i i j e1 e2
    cases ra.str hp hs e1; cases rb.int hp hs e2
    cases op <;> simp [toBOp] at ho
    split at h
    · rename_i c
      exact ⟨_, op_mulS, i, j, rfl, rfl, c, h.val hp rfl⟩
    · exact h.elim
  · cases op <;> simp [toBOp] at ho
    split at h
    · rename_i xs ys _ _
      obtain ⟨⟨p, vs, rfl, h2, h3⟩, _⟩ := ra
      obtain ⟨⟨q, ws, rfl, k2, k3⟩, _⟩ := rb
      unfold tupCat at h
      split at h
      · rename_i hl
        have l1 := h3.len
        have l2 := k3.len
        refine ⟨_, op_catA, p, q, vs, ws, rfl, rfl, .inl (hp.rd h2), .inl (hp.rd k2), by omega, fun z => ?_, fun z1 z2 => ?_, fun _ _ => h.newT hp (h3.append k3)⟩
        · subst z
          have : xs = [] := List.eq_nil_of_length_eq_zero l1
          subst this
          exact h.val hp ⟨q, ws, rfl, k2, k3⟩
        · subst z2
          have : ys = [] := List.eq_nil_of_length_eq_zero l2
          subst this
          rw [List.append_nil] at h
          exact h.val hp ⟨p, vs, rfl, h2, h3⟩
      · exact h.elim
    · exact h.elim
  · cases op <;> simp [toBOp] at ho
    rename_i e1 e2
    split at h
    · rename_i xs ys i1 i2
      obtain ⟨p, vs, rfl, h2, h3⟩ := ra.lst hp hs i1 e1
      obtain ⟨q, ws, rfl, k2, k3⟩ := rb.lst hp hs i2 e2
      rw [hK] at h2 k2
      split at h
      · rename_i hl
        have l1 := h3.len
        have l2 := k3.len
        exact ⟨_, op_catR, p, q, vs, ws, rfl, rfl, h2, k2, by omega, h.newL hp (h3.append k3)⟩
      · exact h.elim
    · exact h.elim
  · cases op <;> simp [toBOp] at ho
    rename_i e1 e2
    cases rb.int hp hs e2
    split at h
    · rename_i xs i1 ho1
      obtain ⟨p, vs, rfl, h2, h3⟩ := ra.lstO i1 e1 ho1
      split at h
      · rename_i c
        simp only [Bool.and_eq_true, decide_eq_true_eq] at c
        have l1 := h3.len
        exact ⟨_, op_repR, p, _, vs, rfl, rfl, h2, by omega, by omega, by rw [← l1]; exact c.2, h.newL hp (h3.rep _)⟩
      · exact h.elim
    · exact h.elim
  · cases op <;> simp [toBOp] at ho
    rename_i e1 e2
    cases rb.int hp hs e2
    split at h
    · rename_i xs
      obtain ⟨⟨p, vs, rfl, h2, h3⟩, _⟩ := ra
      split at h
      · rename_i c
        simp only [Bool.and_eq_true, decide_eq_true_eq, Bool.not_eq_true'] at c
        have l1 := h3.len
        exact ⟨_, op_repT, p, _, vs, rfl, rfl, .inl (hp.rd h2), fun z => by rw [z] at l1; rw [List.eq_nil_of_length_eq_zero l1] at c; simp at c, c.1.1.1, c.1.1.2, by omega, fun q hq => h.newT hp (h3.rep _) q hq⟩
      · exact h.elim
    · exact h.elim
  · exact h.elim
end
end Bv
set_option maxRecDepth 100000
set_option maxHeartbeats 1000000
/-! Part 5: comparisons, places, calls of built-ins. -/
namespace Bv
open PySem L2
section
variable [TC] {X : Cx} {cA : CA} {HP Hs H : Hp} {Q : VK} {x y v : V} {vs : List V} {O O1 O2 : List Addr} {a b g : G}
mutual
theorem RT.dp : ∀ {t : T} {v : V} {d : PyData}, RT cA H t v → t.pd = some d → Dp cA.K H v d
  | .non, _, _, h, e => by cases e; rw [show _ = V.non from h]; exact .non
  | .bl b, _, _, h, e => by cases e; rw [show _ = V.bl b from h]; exact .bl b
  | .int i, _, _, h, e => by cases e; rw [show _ = V.int i from h]; exact .int i
  | .str i, _, _, h, e => by cases e; rw [show _ = V.str i from h]; exact .str i
  | .nod .tup ts, _, _, ⟨p, vs, h1, h2, h3⟩, e => by
    unfold T.pd at e
    cases q : T.pds ts with
    | none => rw [q] at e; cases e
    | some ds => rw [q] at e; cases e; subst h1; exact .tup (.inl h2) (RTs.dp h3 q)
  | .nod .lst ts, _, _, ⟨p, vs, h1, h2, h3⟩, e => by
    unfold T.pd at e
    cases q : T.pds ts with
    | none => rw [q] at e; cases e
    | some ds => rw [q] at e; cases e; subst h1; exact .lst h2 (RTs.dp h3 q)
  | .nod (.dct _) ts, _, _, _, e => by unfold T.pd at e; cases e
  | .nod (.ins _ _) ts, _, _, _, e => by unfold T.pd at e; cases e
theorem RTs.dp : ∀ {ts : List T} {vs : List V} {ds : List PyData}, RTs cA H ts vs → T.pds ts = some ds → DpAll cA.K H vs ds
  | [], _, _, h, e => by cases e; rw [show _ = [] from h]; exact .nil
  | t :: ts, _, _, ⟨v, r, h1, h2, h3⟩, e => by
    unfold T.pds at e
    cases q : t.pd with
    | none => rw [q] at e; cases e
    | some d =>
      cases q2 : T.pds ts with
      | none => rw [q, q2] at e; cases e
      | some ds => rw [q, q2] at e; cases e; subst h1; exact .cons (RT.dp h2 q) (RTs.dp h3 q2)
end
theorem op_eqLen (hu : X.A.units + 65 < cLine) : OpR X (compareOp .Eq) (fun x y H Q => ∃ a b xs ys, x = .ref a ∧ y = .ref b ∧ SqL X.K H a xs ∧ SqL X.K H b ys ∧ xs.length ≠ ys.length ∧ Q (.bl false) H) := by
  intro pins s σ H x y v u Q I rx ry h
  obtain ⟨a, b, xs, ys, rfl, rfl, ha, hb, hl, q⟩ := h
  cases (show v = Value.ref a from rx)
  cases (show u = Value.ref b from ry)
  obtain ⟨us, r1, p1, _⟩ := I.list ha
  obtain ⟨ws, r2, p2, _⟩ := I.list hb
  refine SeqAt.eq_list_lengthsAt p1.isList p2.isList ?_ (by omega) ⟨.bl false, H, I, rfl, q⟩
  rw [List.size_toArray, List.size_toArray, ← r1.length, ← r2.length]
  exact bne_iff_ne.mpr hl
theorem op_neLen (hu : X.A.units + 65 < cLine) : OpR X (compareOp .NotEq) (fun x y H Q => ∃ a b xs ys, x = .ref a ∧ y = .ref b ∧ SqL X.K H a xs ∧ SqL X.K H b ys ∧ xs.length ≠ ys.length ∧ Q (.bl true) H) := by
  intro pins s σ H x y v u Q I rx ry h
  obtain ⟨a, b, xs, ys, rfl, rfl, ha, hb, hl, q⟩ := h
  cases (show v = Value.ref a from rx)
  cases (show u = Value.ref b from ry)
  obtain ⟨us, r1, p1, _⟩ := I.list ha
  obtain ⟨ws, r2, p2, _⟩ := I.list hb
  refine SeqAt.RcNeAt.lists_lengths p1.isList p2.isList ?_ (by omega) X.prog X.w _ _ ⟨.bl true, H, I, rfl, q⟩
  rw [List.size_toArray, List.size_toArray, ← r1.length, ← r2.length]
  exact bne_iff_ne.mpr hl
theorem lenNe_ok (hK : cA.K = X.K) {s t : T} (rs : RT cA H s x) (rt : RT cA H t y) (h : lenNe s t = true) : ∃ a b xs ys, x = .ref a ∧ y = .ref b ∧ SqL X.K H a xs ∧ SqL X.K H b ys ∧ xs.length ≠ ys.length := by
  unfold lenNe at h
  split at h
  · obtain ⟨p, vs, rfl, h2, h3⟩ := rs
    obtain ⟨q, ws, rfl, k2, k3⟩ := rt
    exact ⟨p, q, vs, ws, rfl, rfl, hK ▸ h2, hK ▸ k2, by rw [← h3.len, ← k3.len]; exact bne_iff_ne.mp h⟩
  · cases h
theorem eqT_ok (hK : cA.K = X.K) {r : Bool} {s t : T} (rs : RT cA H s x) (rt : RT cA H t y) (h : eqD s t = .ok r) :
    ∃ d e, Dp X.K H x d ∧ Dp X.K H y e ∧ SeqAt.shaped d = true ∧ SeqAt.shaped e = true ∧ PyData.eqv d e = r := by
  unfold eqD at h
  split at h
  · rename_i d e e1 e2
    split at h
    · rename_i c
      simp only [Bool.and_eq_true] at c
      cases h
      exact ⟨d, e, hK ▸ rs.dp e1, hK ▸ rt.dp e2, c.1, c.2, rfl⟩
    · cases h
  · cases h
theorem not_non {t : T} (r : RT cA H t v) : isNon t = decide (v = .non) := by
  cases t with
  | non => cases r; rfl
  | bl _ => cases r; rfl
  | int _ => cases r; rfl
  | str _ => cases r; rfl
  | nod k ts => obtain ⟨p, vs, rfl, _⟩ := r; rfl
theorem op_gt_s : OpR X (compareOp .Gt) (fun x y H Q => ∃ i j, x = .str i ∧ y = .str j ∧ Q (.bl (decide (j.cps.toList < i.cps.toList))) H) := by
  intro pins s σ H x y v u Q I rx ry h
  obtain ⟨i, j, rfl, rfl, q⟩ := h
  exact op_gt_str pins s σ H _ _ v u Q I rx ry ⟨i, j, rfl, rfl, q⟩
theorem ints_eq : ∀ {ts : List T} {ns : List Int}, ints? ts = some ns → ts = ns.map .int
  | [], _, h => by cases h; rfl
  | .int i :: ts, _, h => by
    unfold ints? at h
    cases q : ints? ts with
    | none => rw [q] at h; cases h
    | some ms => rw [q] at h; cases h; rw [ints_eq q]; rfl
  | .non :: _, _, h => by cases h
  | .bl _ :: _, _, h => by cases h
  | .str _ :: _, _, h => by cases h
  | .nod _ _ :: _, _, h => by cases h
theorem RTs.ints : ∀ {ns : List Int} {vs : List V}, RTs cA HP (ns.map .int) vs → vs = ns.map V.int
  | [], _, h => h
  | n :: ns, _, ⟨v, r, h1, h2, h3⟩ => by rw [h1, RTs.ints h3]; cases h2; rfl
theorem flat_ints (ns : List Int) : (ns.map V.int).all flatV = true := by
  rw [List.all_eq_true]
  intro v hv
  obtain ⟨i, _, rfl⟩ := List.mem_map.mp hv
  rfl
theorem eqV_int (i j : Int) : eqV (.int i) (.int j) = decide (i = j) := by
  unfold eqV
  first
    | rfl
    | (by_cases h : i = j <;> simp [h])
theorem inV_ints (i : Int) (ns : List Int) : inV (.int i) (ns.map V.int) = decide (i ∈ ns) := by
  unfold inV
  induction ns with
  | nil => simp
  | cons n ns ih =>
    rw [List.map_cons, List.any_cons, ih, eqV_int]
    by_cases h : n = i
    · simp [h]
    · have : ¬ i = n := fun z => h z.symm
      simp [h, this]
theorem lst_in (hK : cA.K = X.K) {i : Int} {ns : List Int} {ts : List T} (e : ints? ts = some ns) (rt : RT cA H (.nod .lst ts) y) : ∃ p, y = .ref p ∧ SqL X.K H p (ns.map V.int) := by
  obtain ⟨p, vs, rfl, h2, h3⟩ := rt
  rw [ints_eq e] at h3
  rw [h3.ints] at h2
  exact ⟨p, rfl, hK ▸ h2⟩
theorem strs_eq0 : ∀ {ts : List T} {ns : List Str}, strs? ts = some ns → ts = ns.map .str
  | [], _, h => by cases h; rfl
  | .str i :: ts, _, h => by
    unfold strs? at h
    cases q : strs? ts with
    | none => rw [q] at h; cases h
    | some ms => rw [q] at h; cases h; rw [strs_eq0 q]; rfl
  | .non :: _, _, h => by cases h
  | .bl _ :: _, _, h => by cases h
  | .int _ :: _, _, h => by cases h
  | .nod _ _ :: _, _, h => by cases h
theorem RTs.strs0 : ∀ {ns : List Str} {vs : List V}, RTs cA HP (ns.map .str) vs → vs = ns.map V.str
  | [], _, h => h
  | n :: ns, _, ⟨v, r, h1, h2, h3⟩ => by rw [h1, RTs.strs0 h3]; cases h2; rfl
theorem flat_strs (ns : List Str) : (ns.map V.str).all flatV = true := by
  rw [List.all_eq_true]
  intro v hv
  obtain ⟨i, _, rfl⟩ := List.mem_map.mp hv
  rfl
theorem eqV_str (i j : Str) : eqV (.str i) (.str j) = decide (i = j) := by
  unfold eqV
  first
    | rfl
    | (by_cases h : i = j <;> simp [h])
theorem inV_strs (i : Str) (ns : List Str) : inV (.str i) (ns.map V.str) = decide (i ∈ ns) := by
  unfold inV
  induction ns with
  | nil => simp
  | cons n ns ih =>
    rw [List.map_cons, List.any_cons, ih, eqV_str]
    by_cases h : n = i
    · simp [h]
    · have : ¬ i = n := fun z => h z.symm
      simp [h, this]
theorem lst_inS (hK : cA.K = X.K) {ns : List Str} {ts : List T} (e : strs? ts = some ns) (rt : RT cA H (.nod .lst ts) y) : ∃ p, y = .ref p ∧ SqL X.K H p (ns.map V.str) := by
  obtain ⟨p, vs, rfl, h2, h3⟩ := rt
  rw [strs_eq0 e] at h3
  rw [h3.strs0] at h2
  exact ⟨p, rfl, hK ▸ h2⟩
/-- a comparison -/
theorem op_dIn (hu : X.A.units + 1 < cLine) : OpR X (compareOp .In) (fun y x H Q => ∃ a o, x = .ref a ∧ DGet H a y o ∧ Q (.bl o.isSome) H) := by
  intro pins s σ H y x u v Q I ry rx h
  obtain ⟨a, o, rfl, g, q⟩ := h
  obtain rfl : v = Value.ref a := rx
  exact d_in hu I g ry fun s3 I3 => ⟨.bl o.isSome, H, I3, rfl, q⟩
theorem op_dNotIn (hu : X.A.units + 1 < cLine) : OpR X (compareOp .NotIn) (fun y x H Q => ∃ a o, x = .ref a ∧ DGet H a y o ∧ Q (.bl (!o.isSome)) H) := by
  intro pins s σ H y x u v Q I ry rx h
  obtain ⟨a, o, rfl, g, q⟩ := h
  obtain rfl : v = Value.ref a := rx
  exact d_notIn hu I g ry fun s3 I3 => ⟨.bl (!o.isSome), H, I3, rfl, q⟩
theorem dk_has : ∀ {kk : List Key} {vs : List V} (k : Key), kk.length = vs.length → ((kk.map (Sum.inl : Key → DK)).any fun x => decide (x = .inl k)) = (valV (kk.zip vs) k).isSome
  | [], vs, k, _ => by simp [valV]
  | a :: kk, [], k, h => by cases h
  | a :: kk, v :: vs, k, h => by
    have ih := dk_has (kk := kk) (vs := vs) k (by simpa using h)
    by_cases e : a = k
    · rw [List.zip_cons_cons, valV_pos e]
      simp [e]
    · rw [List.zip_cons_cons, valV_neg e, ← ih]
      have : decide ((Sum.inl a : DK) = Sum.inl k) = false := decide_eq_false fun z => e (Sum.inl.inj z)
      rw [List.map_cons, List.any_cons, this, Bool.false_or]
theorem dct_get {ks : List DK} {ts : List T} {i : Int} (rt : RT cA H (.nod (.dct ks) ts) y) : ∃ a o, y = .ref a ∧ DGet H a (.int i) o ∧ o.isSome = ks.any fun k => decide (k = .inl (.inl i)) := by
  obtain ⟨a, vs, rfl, ⟨o, ⟨kk, rfl, h2, rfl⟩, hr⟩, _⟩ := rt
  exact ⟨a, _, rfl, .inl ⟨_, .inl i, hr, rfl, rfl⟩, (dk_has _ h2).symm⟩
theorem cmp_ok (hK : cA.K = X.K) (hu : X.A.units + 65 < cLine) {s t : T} {o : COp} {op : CmpOp} (ho : toCOp op = some o) (rs : RT cA H s x) (rt : RT cA H t y) {r : Bool} (h : cmpT o s t = .ok r) (q : Q (.bl r) H) : wpOp X (compareOp op) x y H Q := by
  cases op <;> simp [toCOp] at ho <;> subst ho <;> unfold cmpT at h <;> simp only at h
  · unfold eqT at h
    split at h
    · rename_i hn
      cases h
      obtain ⟨a, b, xs, ys, h1, h2, h3, h4, h5⟩ := lenNe_ok (X := X) hK rs rt hn
      exact ⟨_, op_eqLen hu, a, b, xs, ys, h1, h2, h3, h4, h5, q⟩
    · obtain ⟨d, e, h1, h2, h3, h4, rfl⟩ := eqT_ok (X := X) hK rs rt h
      exact ⟨_, op_eqD (by omega), d, e, h1, h2, h3, h4, q⟩
  · cases c : eqT s t with
    | ok k =>
      rw [c] at h
      cases h
      unfold eqT at c
      split at c
      · rename_i hn
        cases c
        obtain ⟨a, b, xs, ys, h1, h2, h3, h4, h5⟩ := lenNe_ok (X := X) hK rs rt hn
        exact ⟨_, op_neLen hu, a, b, xs, ys, h1, h2, h3, h4, h5, q⟩
      · obtain ⟨d, e, h1, h2, h3, h4, rfl⟩ := eqT_ok (X := X) hK rs rt c
        exact ⟨_, op_neD (by omega), d, e, h1, h2, h3, h4, q⟩
    | exc _ => rw [c] at h; cases h
    | stk => rw [c] at h; cases h
  · split at h
    · cases h; cases rs; cases rt; exact opI0' op_lt q
    · cases h; cases rs; cases rt; exact ⟨_, op_lt_str, _, _, rfl, rfl, q⟩
    · cases h
  · split at h
    · cases h; cases rs; cases rt; exact opI0' op_le q
    · cases h
  · split at h
    · cases h; cases rs; cases rt; exact opI0' op_gt q
    · cases h; cases rs; cases rt; exact ⟨_, op_gt_s, _, _, rfl, rfl, q⟩
    · cases h
  · split at h
    · cases h; cases rs; cases rt; exact opI0' op_ge q
    · cases h
  · split at h
    · cases h; cases rt
      rw [not_non rs] at q
      exact ⟨_, op_isN, rfl, q⟩
    · cases h
  · split at h
    · cases h; cases rt
      rw [not_non rs] at q
      exact ⟨_, op_notN, rfl, q⟩
    · cases h
  · split at h
    · cases h; cases rs; cases rt; exact ⟨_, op_in_str, _, _, rfl, rfl, q⟩
    · cases h; cases rs
      obtain ⟨a, o, rfl, g, e⟩ := dct_get rt
      exact ⟨_, op_dIn (by omega), a, o, rfl, g, by rw [e]; exact q⟩
    · split at h
      · rename_i ns e
        cases h; cases rs
        obtain ⟨p, rfl, hq⟩ := lst_in (X := X) (i := 0) hK e rt
        exact ⟨_, op_in_seq, p, _, rfl, .inl hq, rfl, flat_ints ns, by rw [if_neg (by decide), inV_ints]; exact q⟩
      · cases h
    · split at h
      · rename_i ns e
        cases h; cases rs
        obtain ⟨p, rfl, hq⟩ := lst_inS (X := X) hK e rt
        exact ⟨_, op_in_seq, p, _, rfl, .inl hq, rfl, flat_strs ns, by rw [if_neg (by decide), inV_strs]; exact q⟩
      · cases h
    · cases rs
      unfold nonIn at h
      split at h
      · rename_i ds e
        split at h
        · rename_i hs
          cases h
          have dp := RT.dp (t := .nod .lst _) rt (by unfold T.pd; rw [e]; rfl)
          rw [hK] at dp
          exact ⟨_, op_inD hu, .none, ds, .non, dp, by decide, hs, q⟩
        · cases h
      · cases h
    · cases h
  · split at h
    · cases h; cases rs; cases rt; exact ⟨_, op_notin_str, _, _, rfl, rfl, q⟩
    · cases h; cases rs
      obtain ⟨a, o, rfl, g, e⟩ := dct_get rt
      exact ⟨_, op_dNotIn (by omega), a, o, rfl, g, by rw [e]; exact q⟩
    · split at h
      · rename_i ns e
        cases h; cases rs
        obtain ⟨p, rfl, hq⟩ := lst_in (X := X) (i := 0) hK e rt
        exact ⟨_, op_notIn_seq, p, _, rfl, .inl hq, rfl, flat_ints ns, by rw [if_pos rfl, inV_ints]; exact q⟩
      · cases h
    · split at h
      · rename_i ns e
        cases h; cases rs
        obtain ⟨p, rfl, hq⟩ := lst_inS (X := X) hK e rt
        exact ⟨_, op_notIn_seq, p, _, rfl, .inl hq, rfl, flat_strs ns, by rw [if_pos rfl, inV_strs]; exact q⟩
      · cases h
    · unfold dataIn at h
      split at h
      · rename_i d ds e0 e
        split at h
        · rename_i hs
          rw [Bool.and_eq_true] at hs
          cases h
          have dp := RT.dp (t := .nod .lst _) rt (by unfold T.pd; rw [e]; rfl)
          have dq := RT.dp rs e0
          rw [hK] at dp dq
          exact ⟨_, op_notInD hu, d, ds, dq, dp, hs.1, hs.2, q⟩
        · cases h
      · cases h
    · cases h
/-! ### a subscript, a slice -/
def wpIx (X : Cx) : R2 := fun x y H Q => ∃ r, IxR X r ∧ r x y H Q
theorem ixW : IxR X (wpIx X) := fun value slice pins s σ H x y v u Q I rx ry ⟨r, h, q⟩ hs => h value slice pins s σ H x y v u Q I rx ry q hs
def wpSl (X : Cx) : V → Option Int → Option Int → Hp → VK → Prop := fun x lo hi H Q => ∃ r, SlR X r ∧ r x lo hi H Q
theorem slW : SlR X (wpSl X) := fun pins s σ H x v vl vu lo hi sl Q I rx hs pl pu ⟨r, h, q⟩ => h pins s σ H x v vl vu lo hi sl Q I rx hs pl pu q
theorem RGs.get : ∀ {gs : List G} {vs : List V} {O : List Addr} {i : Nat} {g : G}, RGs cA HP Hs H gs vs O → gs[i]? = some g → ∃ v O1, vs[i]? = some v ∧ RG cA HP Hs H g v O1 ∧ (∀ q ∈ O1, q ∈ O) ∧ (O.Nodup → O1.Nodup)
  | [], _, _, _, _, _, e => by simp at e
  | _ :: _, _, _, 0, _, ⟨v, r, O1, O2, h1, h2, h3, h4⟩, e => by
    simp at e; subst e; subst h1
    exact ⟨v, O1, rfl, h2, fun q hq => by rw [h4]; exact List.mem_append_left _ hq, fun nd => by rw [h4] at nd; exact (List.nodup_append.mp nd).1⟩
  | _ :: _, _, _, i + 1, g, ⟨v, r, O1, O2, h1, h2, h3, h4⟩, e => by
    subst h1
    obtain ⟨w, O', e1, e2, e3, e4⟩ := RGs.get (i := i) (g := g) h3 (by simpa using e)
    exact ⟨w, O', by simpa using e1, e2, fun q hq => by rw [h4]; exact List.mem_append_right _ (e3 q hq), fun nd => by rw [h4] at nd; exact e4 (List.nodup_append.mp nd).2.1⟩
theorem RGs.at {gs : List G} {vs : List V} {i : Int} (h : RGs cA HP Hs H gs vs O) (e : atI gs i = some g) : ∃ v O1, atI vs i = some v ∧ RG cA HP Hs H g v O1 ∧ (∀ q ∈ O1, q ∈ O) ∧ (O.Nodup → O1.Nodup) := by
  unfold atI at e ⊢
  rw [← h.len]
  cases q : ixN gs.length i with
  | none => rw [q] at e; cases e
  | some j =>
    rw [q] at e
    exact h.get e
theorem idx_ok (hK : cA.K = X.K) (hp : Ex HP H) (hs : Ex Hs H) {HP0 H0 : Hp} (st : Step HP0 H0 HP H) (rg : RG cA HP Hs H g x O) (nd : O.Nodup) (fr : ∀ p ∈ O, H0 p = none ∧ HP p = none) {i : Int} (h : WpR cA (idxG g i) HP0 Hs H0 Q) : wpIx X x (.int i) H Q := by
  unfold idxG at h
  split at h
  · rename_i gs e
    obtain ⟨p, vs, O', rfl, h2, h3, h4, h5⟩ := rg.parts hp hs e
    split at h
    · rename_i y ey
      obtain ⟨w, O1, e1, e2, e3, e4⟩ := h3.at ey
      exact ⟨_, ix_list, p, vs, i, w, rfl, rfl, hK ▸ h2, e1, h w HP H O1 e2 (e4 (h5 nd)) (fun q hq => fr q (h4 q (e3 q hq))) st⟩
    · exact h.elim
  · rename_i gs e
    obtain ⟨p, vs, O', rfl, h2, h3, h4, h5⟩ := rg.parts hp hs e
    split at h
    · rename_i y ey
      obtain ⟨w, O1, e1, e2, e3, e4⟩ := h3.at ey
      exact ⟨_, ix_tup, p, vs, i, w, rfl, rfl, .inl h2, e1, h w HP H O1 e2 (e4 (h5 nd)) (fun q hq => fr q (h4 q (e3 q hq))) st⟩
    · exact h.elim
  · split at h
    · rename_i z _ _
      cases rg.1
      split at h
      · rename_i c ec
        split at h
        · rename_i hz
          exact ⟨_, ix_str, z, i, c, rfl, rfl, hz, ec, h (.str ⟨#[c]⟩) HP H [] ⟨rfl, rfl⟩ List.nodup_nil (fun _ z => nomatch z) st⟩
        · exact h.elim
      · exact h.elim
    · exact h.elim
theorem slc_ok (hK : cA.K = X.K) (hp : Ex HP H) (hs : Ex Hs H) (rg : RG cA HP Hs H g x O) {lo hi : Option Int} (h : WpR cA (slcG g lo hi) HP Hs H Q) : wpSl X x lo hi H Q := by
  unfold slcG at h
  split at h
  · rename_i z
    cases rg.1
    split at h
    · rename_i hz
      exact ⟨_, sl_str, z, rfl, hz, h.val hp rfl⟩
    · exact h.elim
  · rename_i ts
    obtain ⟨⟨p, vs, rfl, h2, h3⟩, _⟩ := rg
    refine ⟨_, sl_tupA, p, vs, rfl, .inl (hp.rd h2), fun hw => ?_, fun hw => h.newT hp (h3.cut lo hi)⟩
    have e : cutL ts lo hi = ts := by
      unfold cutL
      rw [h3.len, hw.1, hw.2, List.drop_zero, Nat.sub_zero, ← h3.len, List.take_length]
    rw [e] at h
    exact h.val hp ⟨p, vs, rfl, h2, h3⟩
  · split at h
    · rename_i gs e
      obtain ⟨p, vs, O', rfl, h2, h3, _⟩ := rg.parts hp hs e
      split at h
      · rename_i ts et
        exact ⟨_, sl_list, p, vs, rfl, hK ▸ h2, h.newL hp ((h3.vals et).1.cut lo hi)⟩
      · exact h.elim
    · exact h.elim
/-! ### built-ins -/
def wpC (X : Cx) (f : Value) : List V → Hp → VK → Prop := fun xs H Q => ∃ r, CallR X f r ∧ r xs H Q
theorem call_isiF : CallR X (.builtin "isinstance") (fun xs H Q => ∃ (a : Addr) (ob : Obj) (kvs : List (List Key × V)) (n : String) (b : Bool), xs = [.ref a, .ty n] ∧ H a = some (.frz ob (.dT kvs)) ∧ PySem.W.kitOne X.K (.type "dict") (.type n) = some b ∧ Q (.bl b) H) := by
  intro pins s σ H xs us Q I r h
  obtain ⟨a, ob, kvs, n, b, rfl, ea, e, q⟩ := h
  obtain ⟨u1, u2, rfl, r1, r2⟩ := vals2 r
  have e2 := (ClsV.ty n).eq r2
  subst e2
  cases (show u1 = Value.ref a from r1)
  obtain ⟨_, _, _, vs, _, o, es, ep, h1, h2, _⟩ := (show ObjOk X.prog X.w H s.heap a (.frz ob (.dT kvs)) from I.hok a _ ea)
  exact PySem.W.kia_one PySem.W.kitx_dict I.kIn ⟨o, h1, h2.1⟩ e (fun z => nomatch z) fun tk => ⟨.bl b, H, I.tok tk, rfl, q⟩
theorem isi_ok (hK : cA.K = X.K) {t : T} (rs : RT cA H t x) {n : String} {b : Bool} (h : isiT t (.ty n) = .ok b) (q : Q (.bl b) H) : wpC X (.builtin "isinstance") [x, .ty n] H Q := by
  unfold isiT at h
  split at h
  · rename_i m n' e1 e2
    cases e2
    split at h
    · rename_i b' hb
      cases h
      have ty : TyX X.K H x (.type m) ∨ (m = "dict" ∧ ∃ p ob kvs, x = .ref p ∧ H p = some (.frz ob (.dT kvs))) := by
        unfold tyOf at e1
        split at e1
        · cases e1; cases rs; exact .inl (.base .non)
        · cases e1; cases rs; exact .inl (.base (.bl _))
        · cases e1; cases rs; exact .inl (.base (.int _))
        · cases e1; cases rs; exact .inl (.base (.str _))
        · cases e1
          obtain ⟨p, vs, rfl, h2, h3⟩ := rs
          rcases h2 with (h2 | ⟨o, h2⟩) | ⟨o, its, n, h2, h4, _⟩
          · exact .inl (.base (.lst h2))
          · exact .inl (.base (.frz h2))
          · exact .inl (.kList (hK ▸ h2) h4)
        · cases e1
          obtain ⟨p, vs, rfl, h2, h3⟩ := rs
          rcases h2 with h2 | ⟨o, h2⟩
          · exact .inl (.base (.tup h2))
          · exact .inl (.fTuple h2)
        · cases e1
          obtain ⟨p, vs, rfl, ⟨o, hd, h2⟩, h3⟩ := rs
          obtain ⟨kk, _, _, rfl⟩ := hd
          rcases h2 with h2 | ⟨o, h2⟩
          · exact .inl (.base (.dK h2))
          · exact .inl (.fDict h2)
        · cases e1
      rcases ty with ty | ⟨rfl, p, ob, kvs, rfl, hp⟩
      · exact ⟨_, call_isi, x, .ty n, .type m, .type n, b, rfl, .ty n, ty, kit_ty hb, q⟩
      · exact ⟨_, call_isiF, _, _, _, _, b, rfl, hp, kit_ty hb, q⟩
    · cases h
  · cases h
theorem len_ok (hK : cA.K = X.K) {t : T} (rs : RT cA H t x) {n : Int} (h : lenT t = .ok n) (q : Q (.int n) H) : wpC X (.builtin "len") [x] H Q := by
  unfold lenT at h
  split at h
  · split at h
    · rename_i hz
      cases h; cases rs
      exact ⟨_, call_len_str, _, rfl, hz, q⟩
    · cases h
  · cases h
    obtain ⟨p, vs, rfl, h2, h3⟩ := rs
    exact ⟨_, call_len_seq, p, vs, rfl, .inl (hK ▸ h2), by rw [← h3.len]; exact q⟩
  · cases h
    obtain ⟨p, vs, rfl, h2, h3⟩ := rs
    exact ⟨_, call_len_seq, p, vs, rfl, .inr (.inl h2), by rw [← h3.len]; exact q⟩
  · cases h
theorem items_ok (hp : Ex HP H) (hs : Ex Hs H) (rg : RG cA HP Hs H g x O) {ts : List T} (h : g.items = some ts) : ∃ p vs, x = .ref p ∧ (SqL cA.K H p vs ∨ Rd H p (.tup vs)) ∧ RTs cA HP ts vs := by
  unfold G.items at h
  split at h
  · rename_i gs e
    obtain ⟨p, vs, O', rfl, h2, h3, _⟩ := rg.parts hp hs e
    exact ⟨p, vs, rfl, .inl h2, (h3.vals h).1⟩
  · rename_i gs e
    obtain ⟨p, vs, O', rfl, h2, h3, _⟩ := rg.parts hp hs e
    exact ⟨p, vs, rfl, .inr h2, (h3.vals h).1⟩
  · cases h
def bfVal : Bf → Value
  | .len => .builtin "len" | .list => .type "list" | .tuple => .type "tuple" | .int => .type "int" | .str => .type "str" | .abs => .builtin "abs" | .max => .builtin "max" | .min => .builtin "min" | .sum => .builtin "sum" | .any => .builtin "any" | .all => .builtin "all" | .sorted => .builtin "sorted" | .divmod => .builtin "divmod"
theorem RGs.one (h : RGs cA HP Hs H [g] vs O) : ∃ v, vs = [v] ∧ RG cA HP Hs H g v O := by
  obtain ⟨v, r, O1, O2, rfl, h2, ⟨rfl, rfl⟩, rfl⟩ := h
  rw [List.append_nil]
  exact ⟨v, rfl, h2⟩
theorem RGs.two (h : RGs cA HP Hs H [a, b] vs O) : ∃ v w O1 O2, vs = [v, w] ∧ RG cA HP Hs H a v O1 ∧ RG cA HP Hs H b w O2 := by
  obtain ⟨v, r, O1, O2, rfl, h2, h3, rfl⟩ := h
  obtain ⟨w, rfl, h4⟩ := h3.one
  exact ⟨v, w, O1, O2, rfl, h2, h4⟩
theorem bls_eq : ∀ {ts : List T} {ns : List Bool}, bls? ts = some ns → ts = ns.map .bl
  | [], _, h => by cases h; rfl
  | .bl i :: ts, _, h => by
    unfold bls? at h
    cases q : bls? ts with
    | none => rw [q] at h; cases h
    | some ns => rw [q] at h; cases h; rw [bls_eq q]; rfl
  | .non :: _, _, h => by cases h
  | .int _ :: _, _, h => by cases h
  | .str _ :: _, _, h => by cases h
  | .nod _ _ :: _, _, h => by cases h
theorem RTs.bls : ∀ {ns : List Bool} {vs : List V}, RTs cA HP (ns.map .bl) vs → vs = ns.map V.bl
  | [], _, h => h
  | n :: ns, _, ⟨v, r, h1, h2, h3⟩ => by rw [h1, show v = V.bl n from h2, RTs.bls h3]; rfl
theorem lstI_ok (hp : Ex HP H) (hs : Ex Hs H) (rg : RG cA HP Hs H g x O) {ts : List T} (h : lstItems g = some ts) : ∃ p vs, x = .ref p ∧ SqL cA.K H p vs ∧ RTs cA HP ts vs := by
  unfold lstItems at h
  split at h
  · rename_i gs e
    obtain ⟨p, vs, O', rfl, h2, h3, _⟩ := rg.parts hp hs e
    exact ⟨p, vs, rfl, h2, (h3.vals h).1⟩
  · cases h
theorem lstN_ok (hK : cA.K = X.K) (hp : Ex HP H) (hs : Ex Hs H) (rg : RG cA HP Hs H g x O) {ns : List Int} (h : (lstItems g).bind ints? = some ns) : ∃ p, x = .ref p ∧ SqL X.K H p (ns.map V.int) := by
  cases q : lstItems g with
  | none => rw [q] at h; cases h
  | some ts =>
    rw [q] at h
    obtain ⟨p, vs, rfl, h2, h3⟩ := lstI_ok hp hs rg q
    rw [ints_eq h] at h3
    rw [h3.ints] at h2
    exact ⟨p, rfl, hK ▸ h2⟩
theorem lstB_ok (hK : cA.K = X.K) (hp : Ex HP H) (hs : Ex Hs H) (rg : RG cA HP Hs H g x O) {ns : List Bool} (h : (lstItems g).bind bls? = some ns) : ∃ p, x = .ref p ∧ SqL X.K H p (ns.map V.bl) := by
  cases q : lstItems g with
  | none => rw [q] at h; cases h
  | some ts =>
    rw [q] at h
    obtain ⟨p, vs, rfl, h2, h3⟩ := lstI_ok hp hs rg q
    rw [bls_eq h] at h3
    rw [h3.bls] at h2
    exact ⟨p, rfl, hK ▸ h2⟩
theorem foldl_max : ∀ (ns : List Int) (n : Int), n ≤ ns.foldl max n ∧ (∀ y ∈ ns, y ≤ ns.foldl max n) ∧ ns.foldl max n ∈ n :: ns
  | [], n => ⟨Int.le_refl _, (fun _ h => nomatch h), List.mem_cons_self⟩
  | m :: ns, n => by
    obtain ⟨a, b, c⟩ := foldl_max ns (max n m)
    refine ⟨Int.le_trans (Int.le_max_left n m) a, fun y hy => ?_, ?_⟩
    · rcases List.mem_cons.mp hy with rfl | h
      · exact Int.le_trans (Int.le_max_right n y) a
      · exact b y h
    · show ns.foldl max (max n m) ∈ _
      rcases List.mem_cons.mp c with h | h
      · rw [h]
        by_cases z : n ≤ m
        · rw [Int.max_eq_right z]; exact List.mem_cons_of_mem _ List.mem_cons_self
        · rw [Int.max_eq_left (by omega)]; exact List.mem_cons_self
      · exact List.mem_cons_of_mem _ (List.mem_cons_of_mem _ h)
theorem foldl_min : ∀ (ns : List Int) (n : Int), ns.foldl min n ≤ n ∧ (∀ y ∈ ns, ns.foldl min n ≤ y) ∧ ns.foldl min n ∈ n :: ns
  | [], n => ⟨Int.le_refl _, (fun _ h => nomatch h), List.mem_cons_self⟩
  | m :: ns, n => by
    obtain ⟨a, b, c⟩ := foldl_min ns (min n m)
    refine ⟨Int.le_trans a (Int.min_le_left n m), fun y hy => ?_, ?_⟩
    · rcases List.mem_cons.mp hy with rfl | h
      · exact Int.le_trans a (Int.min_le_right n y)
      · exact b y h
    · show ns.foldl min (min n m) ∈ _
      rcases List.mem_cons.mp c with h | h
      · rw [h]
        by_cases z : n ≤ m
        · rw [Int.min_eq_left z]; exact List.mem_cons_self
        · rw [Int.min_eq_right (by omega)]; exact List.mem_cons_of_mem _ List.mem_cons_self
      · exact List.mem_cons_of_mem _ (List.mem_cons_of_mem _ h)
theorem sorted_eq : ∀ {a b : List Int}, a.Perm b → a.Pairwise (· ≤ ·) → b.Pairwise (· ≤ ·) → a = b
  | [], b, p, _, _ => (List.perm_nil.mp p.symm).symm
  | x :: a, [], p, _, _ => by cases p.length_eq
  | x :: a, y :: b, p, h1, h2 => by
    have e : x = y := by
      have m1 : x ∈ y :: b := p.mem_iff.mp List.mem_cons_self
      have m2 : y ∈ x :: a := p.mem_iff.mpr List.mem_cons_self
      rw [List.pairwise_cons] at h1 h2
      rcases List.mem_cons.mp m1 with z | z
      · exact z
      · rcases List.mem_cons.mp m2 with z2 | z2
        · exact z2.symm
        · have := h2.1 x z
          have := h1.1 y z2
          omega
    subst e
    rw [sorted_eq ((List.perm_cons x).mp p) (List.pairwise_cons.mp h1).2 (List.pairwise_cons.mp h2).2]
theorem sortI_eq {ns ns' : List Int} (h1 : ns'.Perm ns) (h2 : ns'.Pairwise (· ≤ ·)) : ns' = sortI ns := by
  have p : (sortI ns).Perm ns := List.mergeSort_perm _ _
  have s : (sortI ns).Pairwise (fun a b => decide (a ≤ b) = true) := List.pairwise_mergeSort (le := fun (a b : Int) => decide (a ≤ b)) (fun a b c h1 h2 => by simp only [decide_eq_true_eq] at *; omega) (fun a b => by simp only [Bool.or_eq_true, decide_eq_true_eq]; omega) _
  exact sorted_eq (h1.trans p.symm) h2 (s.imp fun {a b} h => of_decide_eq_true h)
theorem intsR : ∀ (is : List Int) (HB H2 : Hp), RGs cA HP HB H2 (is.map fun i => G.val (.int i)) (is.map V.int) []
  | [], _, _ => ⟨rfl, rfl⟩
  | i :: is, HB, H2 => ⟨.int i, is.map V.int, [], [], rfl, ⟨rfl, rfl⟩, intsR is HB H2, rfl⟩
theorem zip_fst : ∀ {kk : List Key} {vs : List V}, kk.length = vs.length → (kk.zip vs).map (·.1) = kk
  | [], _, _ => rfl
  | _ :: _, [], h => by cases h
  | k :: kk, v :: vs, h => by rw [List.zip_cons_cons, List.map_cons, zip_fst (by simpa using h)]
theorem dkI_eq : ∀ {kk : List Key} {ns : List Int}, dkI (kk.map (Sum.inl : Key → DK)) = some ns → kk = ns.map Sum.inl
  | [], _, h => by cases h; rfl
  | .inl i :: kk, ns, h => by
    rw [List.map_cons] at h
    unfold dkI at h
    cases q : dkI (kk.map (Sum.inl : Key → DK)) with
    | none => rw [q] at h; cases h
    | some ms => rw [q] at h; cases h; rw [dkI_eq q]; rfl
  | .inr _ :: _, _, h => by rw [List.map_cons] at h; cases h
open PySem.Spec PyProof.Rows in
/-- the keys of a dict of ints, sorted, any number of them: they are collected, laid in a new list, and that is sorted -/
theorem sorted_keys (hcalm : X.calm = true) : CallR X (.builtin "sorted") fun xs H Q => ∃ (p : Addr) (es : List (Key × V)) (ns : List Int), xs = [.ref p] ∧ Rd H p (.dK es) ∧ es.map (·.1) = ns.map Sum.inl ∧
    ∀ (ms : List Int) (q : Addr), ms.Perm ns → ms.Pairwise (· ≤ ·) → H q = none → Q (.ref q) (upd H q (.lst (ms.map V.int))) := by
  rintro pins s σ H _ us Q I r ⟨p, es, ns, rfl, hd, hns, q⟩
  obtain ⟨u, rfl, ru⟩ := vals1 r
  cases ru
  obtain ⟨z, lay, us, rel, dd⟩ := dk_rd I.hok hd
  obtain ⟨ep, at0⟩ := dd.dictAt
  have ku : us.map (·.1) = ns.map Sum.inl := by rw [← rel.keys]; exact hns
  have lu : us.length = ns.length := by simpa using congrArg List.length ku
  have many : us.length ≤ sizeLine := by
    have e1 := congrArg List.length hns
    rw [List.length_map, List.length_map] at e1
    rw [lu, ← e1]
    exact z
  refine Calls.call_function_entry PyProof.Rows.kind_sorted PyProof.Rows.plain_sorted PyProof.Rows.entry_sorted (PyProof.Rows.args_sorted1 _) ?_
  unfold Builtin.«sorted»
  refine wpAny_bind (wpAny_pure (wpAny_bind (PySem.W.kdu_collect (A := X.A.in1) (PySem.W.kdl_dict (knd := mixKind X.prog X.w) (kvs := us) (ep := ep) lay) (I.ok.hd hcalm) at0 many fun g tk got keeps ⟨gl, gi⟩ => ?_)))
  have lg : got.toList.length = ns.length := by rw [Array.length_toList, gl, lu]
  have mine : IntsAre got.toList ns := ints_each lg fun j v ev => by
    obtain ⟨k, x, e1, e2⟩ := gi j v (by rw [← Array.getElem?_toList]; exact ev)
    have at1 : (ns.map (Sum.inl : Int → Key))[j]? = some k := by rw [← ku, List.getElem?_map, e1]; rfl
    rw [List.getElem?_map] at at1
    obtain ⟨y, ey, rfl⟩ := Option.map_eq_some_iff.mp at1
    rcases keyIs_shape (show keyIs (.inl y) v = true from e2) with ⟨i, t, ek, ei⟩ | ⟨w, t, ek, _⟩
    · cases ek; exact ⟨y, t, ey, ei⟩
    · cases ek
  have ok1 : Inv X pins σ H { s with heap := g, toks := tk } := I.kept keeps
  have few : got.toList.length ≤ sizeLine := by rw [lg, ← lu]; exact many
  refine wpAny_bind (wpAny_newList ?_ few)
  have new : (g.push (seqObj "list" got.toList.toArray 0)).get? g.objs.size = some (seqObj "list" got.toList.toArray 0) := Heap.get?_push_size _ rfl
  refine wpAny_bind (wpAny_holding (wpAny_call_entry (s := { s with heap := g.push (seqObj "list" got.toList.toArray 0), toks := tk }) PyProof.Rows.slot_list_sort ⟨_, new, rfl⟩ PyProof.Rows.entry_list_sort
    (SrtO.list_sort_ord SrtO.swo_int new few (fun two => SrtO.ints_sortable mine two) fun out h1 h2 => ⟨_, rfl, ?_⟩) (PyProof.Rows.args_list_sort _)))
  obtain ⟨k1, k2, k3⟩ := SrtO.ints_out mine h1 h2
  obtain ⟨e', at'⟩ := PyProof.Rows.sortedHeap_at (vs := got.toList) (out := out.toArray) new
  have short : ((out.map SrtO.iv).map V.int).length ≤ sizeLine := by rw [List.length_map, k2.length_eq, ← lg]; exact few
  refine wpAny_pure ⟨_, rfl, .ref g.objs.size, upd H g.objs.size (.lst ((out.map SrtO.iv).map V.int)), ok1.laid (t' := tk) (fun b u hb => ?_) (Nat.le_refl _) ⟨short, out, e', vals_of_ints k1, at'⟩, rfl, q _ _ k2 k3 (ok1.hok.fresh (Nat.le_refl _))⟩
  have lt : b < g.objs.size := Heap.lt_size hb
  rw [PyProof.Rows.sortedHeap_old (Nat.ne_of_lt lt) (by rw [size_push']; exact Nat.lt_succ_of_lt lt)]
  exact Heap.get?_push_of_some _ hb
theorem bif_ok (hK : cA.K = X.K) (hc : X.calm = true) (hp : Ex HP H) (hs : Ex Hs H) {gs : List G} {vs : List V} (rg : RGs cA HP Hs H gs vs O) {bf : Bf} (h : WpR cA (bifG bf gs) HP Hs H Q) : wpC X (bfVal bf) vs H Q := by
  unfold bifG at h
  split at h
  · obtain ⟨v, rfl, r⟩ := rg.one
    cases e : lenT (G.toT _) with
    | ok n => rw [e] at h; exact len_ok hK (r.toT hp hs) e (h.val hp rfl)
    | exc _ => rw [e] at h; exact h.elim
    | stk => rw [e] at h; exact h.elim
  · obtain ⟨v, rfl, r⟩ := rg.one
    split at h
    · rename_i ts e
      obtain ⟨p, vs, rfl, h2, h3⟩ := items_ok hp hs r e
      exact ⟨_, call_list_of, p, vs, rfl, h2.imp (fun z => hK ▸ z) .inl, h.newL hp h3⟩
    · exact h.elim
  · obtain ⟨v, rfl, r⟩ := rg.one
    split at h
    · rename_i i e
      cases r.int hp hs e
      exact ⟨_, call_abs, i, rfl, h.val hp rfl⟩
    · exact h.elim
  · obtain ⟨v, w, O1, O2, rfl, r1, r2⟩ := rg.two
    split at h
    · rename_i i j e1 e2
      cases r1.int hp hs e1; cases r2.int hp hs e2
      exact ⟨_, call_max2 hc, i, j, rfl, h.val hp rfl⟩
    · exact h.elim
  · obtain ⟨v, w, O1, O2, rfl, r1, r2⟩ := rg.two
    split at h
    · rename_i i j e1 e2
      cases r1.int hp hs e1; cases r2.int hp hs e2
      exact ⟨_, call_min2 hc, i, j, rfl, h.val hp rfl⟩
    · exact h.elim
  · obtain ⟨v, rfl, r⟩ := rg.one
    split at h
    · rename_i ns e
      obtain ⟨p, rfl, hq⟩ := lstN_ok hK hp hs r e
      exact ⟨_, cr_sum hc, p, ns, rfl, hq, h.val hp rfl⟩
    · exact h.elim
  · obtain ⟨v, rfl, r⟩ := rg.one
    split at h
    · rename_i m e
      cases q : (lstItems _).bind ints? with
      | none => rw [q] at e; cases e
      | some ns =>
        rw [q] at e
        obtain ⟨p, rfl, hq⟩ := lstN_ok hK hp hs r q
        cases ns with
        | nil => cases e
        | cons n ns =>
          have e : ns.foldl max n = m := Option.some.inj e
          obtain ⟨a, b, c⟩ := foldl_max ns n
          rw [e] at a b c
          refine ⟨_, cr_max hc, p, n :: ns, rfl, hq, by simp, fun m' h1 h2 => ?_⟩
          have : m' = m := by
            have k1 := h2 m c
            rcases List.mem_cons.mp h1 with rfl | z
            · omega
            · have := b m' z; omega
          subst this
          exact h.val hp rfl
    · exact h.elim
  · obtain ⟨v, rfl, r⟩ := rg.one
    split at h
    · rename_i m e
      cases q : (lstItems _).bind ints? with
      | none => rw [q] at e; cases e
      | some ns =>
        rw [q] at e
        obtain ⟨p, rfl, hq⟩ := lstN_ok hK hp hs r q
        cases ns with
        | nil => cases e
        | cons n ns =>
          have e : ns.foldl min n = m := Option.some.inj e
          obtain ⟨a, b, c⟩ := foldl_min ns n
          rw [e] at a b c
          refine ⟨_, cr_min hc, p, n :: ns, rfl, hq, by simp, fun m' h1 h2 => ?_⟩
          have : m' = m := by
            have k1 := h2 m c
            rcases List.mem_cons.mp h1 with rfl | z
            · omega
            · have := b m' z; omega
          subst this
          exact h.val hp rfl
    · exact h.elim
  · obtain ⟨v, rfl, r⟩ := rg.one
    split at h
    · rename_i bs e
      obtain ⟨p, rfl, hq⟩ := lstB_ok hK hp hs r e
      exact ⟨_, cr_any hc, p, bs, rfl, hq, h.val hp rfl⟩
    · exact h.elim
  · obtain ⟨v, rfl, r⟩ := rg.one
    split at h
    · rename_i bs e
      obtain ⟨p, rfl, hq⟩ := lstB_ok hK hp hs r e
      exact ⟨_, cr_all hc, p, bs, rfl, hq, h.val hp rfl⟩
    · exact h.elim
  · obtain ⟨v, rfl, r⟩ := rg.one
    split at h
    · rename_i ns e
      obtain ⟨p, rfl, hq⟩ := lstN_ok hK hp hs r e
      refine ⟨_, cr_sortedI, p, ns, rfl, hq, fun ns' p' h1 h2 h3 => ?_⟩
      rw [sortI_eq h1 h2]
      refine h (.ref p') HP _ [p'] ⟨p', _, [], rfl, upd_same, intsR _ _ _, rfl⟩ (by simp) (fun q hq => ?_) (Step.own hp h3)
      have : q = p' := by simpa using hq
      subst this
      exact ⟨h3, hp.none h3⟩
    · unfold srtKeys at h
      split at h
      · rename_i ks gs0 e
        split at h
        · rename_i ns e2
          obtain ⟨p, vs0, O', rfl, ⟨o, ⟨kk, rfl, h6, rfl⟩, h2⟩, h3, _⟩ := r.parts hp hs e
          refine ⟨_, sorted_keys hc, p, _, ns, rfl, h2, by rw [zip_fst h6]; exact dkI_eq e2, fun ns' p' h1 h2 h3 => ?_⟩
          rw [sortI_eq h1 h2]
          refine h (.ref p') HP _ [p'] ⟨p', _, [], rfl, upd_same, intsR _ _ _, rfl⟩ (by simp) (fun q hq => ?_) (Step.own hp h3)
          have : q = p' := by simpa using hq
          subst this
          exact ⟨h3, hp.none h3⟩
        · exact h.elim
      · exact h.elim
  · obtain ⟨v, rfl, r⟩ := rg.one
    split at h
    · rename_i ts e
      obtain ⟨p, vs, rfl, h2, h3⟩ := lstI_ok hp hs r e
      exact ⟨_, call_tuple_of, p, vs, rfl, .inl ⟨hK ▸ h2, h.newT hp h3⟩⟩
    · exact h.elim
  · obtain ⟨v, rfl, r⟩ := rg.one
    split at h
    · rename_i i e
      cases r.int hp hs e
      exact ⟨_, call_int1, .inl ⟨i, rfl, h.val hp rfl⟩⟩
    · rename_i b e
      cases r.bl hp hs e
      exact ⟨_, call_int1, .inr ⟨b, rfl, h.val hp rfl⟩⟩
    · rename_i a e
      cases r.str hp hs e
      unfold intS at h
      split at h
      · rename_i n e2
        split at h
        · rename_i hl
          exact ⟨_, call_int_str, a, n, rfl, e2, hl, h.val hp rfl⟩
        · exact h.elim
      · exact h.elim
    · exact h.elim
  · obtain ⟨v, rfl, r⟩ := rg.one
    split at h
    · rename_i i e
      cases r.int hp hs e
      split at h
      · rename_i hl
        exact ⟨_, call_str_int, i, rfl, hl, h.val hp rfl⟩
      · exact h.elim
    · exact h.elim
  · obtain ⟨v, w, O1, O2, rfl, r1, r2⟩ := rg.two
    split at h
    · rename_i i j e1 e2
      cases r1.int hp hs e1; cases r2.int hp hs e2
      split at h
      · rename_i hd
        exact ⟨_, call_divmod, i, j, rfl, hd, h.newT hp ⟨_, _, rfl, rfl, _, _, rfl, rfl, rfl⟩⟩
      · exact h.elim
    · exact h.elim
  · exact h.elim
theorem cW {f : Value} : CallR X f (wpC X f) := fun pins s σ H xs us Q I rx ⟨r, h, q⟩ => h pins s σ H xs us Q I rx q
end
end Bv
set_option maxRecDepth 100000
set_option maxHeartbeats 1000000
/-! Part 6: every expression of the small language. -/
namespace Bv
open PySem L2
theorem toE_star {tb : Tb} {sc : Scope} {n : Nat} {e : Expr} {a : E} (h : toE tb sc n e = some a) (es : List Expr) (env : PySem.Env) : starEach (e :: es) env = (false, eval e env) :: starEach es env := by
  cases n with
  | zero => cases h
  | succ n => cases e <;> first | rfl | (simp [toE] at h)
theorem toEs_any {tb : Tb} {sc : Scope} {n : Nat} {pos : Pos} {env : PySem.Env} : ∀ {es : List Expr} {as : List E}, toEs (toE tb sc n) es = some as → (backTo pos (starEach es env)).any (·.1) = false
  | [], _, _ => rfl
  | e :: es, as, h => by
    unfold toEs at h
    cases q : toE tb sc n e with
    | none => rw [q] at h; cases h
    | some a =>
      cases q2 : toEs (toE tb sc n) es with
      | none => rw [q, q2] at h; cases h
      | some as' =>
        rw [toE_star q]
        show (false || (backTo pos (starEach es env)).any (·.1)) = false
        rw [toEs_any q2]
        rfl
theorem toE_plain {tb : Tb} {sc : Scope} {n : Nat} {e : Expr} {a : E} (h : toE tb sc n e = some a) : PlainIx e := by
  intro o i
  cases n with
  | zero => cases h
  | succ n => cases e <;> first | rfl | (simp [toE] at h)
theorem vis_of {sc : Scope} {x : Str} (h : visB sc x = true) : Vis sc x := by
  unfold visB at h
  split at h
  · rename_i e; exact .inl e
  · rename_i e; exact .inr (.inl e)
  · rename_i e; exact .inr (.inr e)
  · cases h
theorem slot_get {N : List Str} {x : Str} {i : Nat} (h : slotOf N x = some i) : N[i]? = some x := by
  unfold slotOf at h
  obtain ⟨hi, h1, _⟩ := List.findIdx?_eq_some_iff_getElem.mp h
  rw [List.getElem?_eq_getElem hi]
  exact congrArg some (beq_iff_eq.mp h1)
theorem gl_of {sc : Scope} {x : Str} (h : glB sc x = true) : sc.names.lookup x = some .globalImplicit := by
  unfold glB at h
  split at h
  · assumption
  · cases h
theorem sane_of {x : Str} (h : sane x = true) : (x == ("__debug__" : Str)) = false ∧ (x == ("__classdict__" : Str)) = false ∧ x ≠ "__name__" := by
  unfold sane at h
  simp only [Bool.and_eq_true, Bool.not_eq_true'] at h
  exact ⟨h.1.1, h.1.2, fun e => by rw [e] at h; exact absurd h.2 (by decide)⟩
section
variable [TC] {X : Cx} {CX : CXT} {XE : XK} {tb : Tb} {sc : Scope} {Φ : Fns} {gl : Str → Option T} {cA : CA}
theorem Ctx.Gl (C : Ctx X CX XE tb sc Φ gl cA) {x : Str} (h : glB sc x = true) : Gl X x := by
  show X.env.kindOf x = some .globalImplicit
  have := gl_of h
  rw [← C.scp] at this
  exact this
theorem snd_var (C : Ctx X CX XE tb sc Φ gl cA) {x : Str} {pos : Pos} {i : Nat} (h1 : visB sc x = true) (h2 : sane x = true) (h3 : slotOf tb.N x = some i) : SndE X Φ gl cA (.Name x pos) (.var i) := by
  intro env σ HP Hs H Q pv hs hp h
  obtain ⟨s1, s2, _⟩ := sane_of h2
  refine ⟨_, pe_var (i := i) (by rw [C.nm]; exact slot_get h3) (by rw [C.scp]; exact vis_of h1) s1 s2, ?_⟩
  unfold ev at h
  split at h
  · rename_i g e
    obtain ⟨v, e1, e2⟩ := pv.get i g e
    exact ⟨v, e1, h v HP H [] (e2.mono (Ex.refl _) (Ex.refl _) hs.e) List.nodup_nil (fun _ z => nomatch z) (Step.refl hp)⟩
  · exact h.elim
theorem snd_con {ex : Expr} {t : T} (hp : ∀ X : Cx, PE X ex (tC (toV t))) (hf : flatT t = true) : SndE X Φ gl cA ex (.con t) := by
  intro env σ HP Hs H Q pv hs hP h
  refine ⟨_, hp X, ?_⟩
  unfold ev at h
  rw [if_pos hf] at h
  exact h.val hP (by cases t <;> first | rfl | cases hf)
theorem snd_glb (C : Ctx X CX XE tb sc Φ gl cA) {x : Str} {pos : Pos} (h1 : glB sc x = true) (h2 : sane x = true) (h3 : tb.gls.contains x = true) : SndE X Φ gl cA (.Name x pos) (.glb x) := by
  intro env σ HP Hs H Q pv hs hp h
  unfold ev at h
  split at h
  · rename_i t e
    obtain ⟨hf, u, hu, r⟩ := C.gv x t h3 e
    refine ⟨_, pe_glob (C.Gl h1) hu r (sane_of h2).1, ?_⟩
    exact h.val hp (by cases t <;> first | rfl | cases hf)
  · exact h.elim
theorem snd_bin (C : Ctx X CX XE tb sc Φ gl cA) {a b : Expr} {ea eb : E} {op : Operator} {o : BOp} {pos : Pos} (ho : toBOp op = some o) (Sa : SndE X Φ gl cA a ea) (Sb : SndE X Φ gl cA b eb) : SndE X Φ gl cA (.BinOp a op b pos) (.bin o ea eb) := by
  intro env σ HP Hs H Q pv hs hp h
  refine ⟨_, pe_op opW peE peE, ?_⟩
  unfold ev at h
  refine Sa.then pv hs hp h fun g v HP1 H1 O1 rg nd fr st h1 => ?_
  refine Sb.then (pv.mono st.exP) (hs.step st) st.sees h1 fun g2 v2 HP2 H2 O2 rg2 nd2 fr2 st2 h2 => ?_
  exact binG_ok C.kK st2.sees ((hs.step st).step st2).e (rg.mono st2.exP (Ex.refl _) st2.ex) rg2 o op ho h2
theorem WpR.bindB {r : Res Bool} {f : Bool → Res G} {HP Hs H : Hp} {Q : VK} (h : WpR cA (r.bind f) HP Hs H Q) : ∃ b, r = .ok b ∧ WpR cA (f b) HP Hs H Q := by
  cases r with
  | ok b => exact ⟨b, rfl, h⟩
  | exc _ => exact h.elim
  | stk => exact h.elim
theorem WpR.bindI {r : Res Int} {f : Int → Res G} {HP Hs H : Hp} {Q : VK} (h : WpR cA (r.bind f) HP Hs H Q) : ∃ b, r = .ok b ∧ WpR cA (f b) HP Hs H Q := by
  cases r with
  | ok b => exact ⟨b, rfl, h⟩
  | exc _ => exact h.elim
  | stk => exact h.elim
theorem snd_cmp (C : Ctx X CX XE tb sc Φ gl cA) {a b : Expr} {ea eb : E} {op : CmpOp} {o : COp} {pos : Pos} (ho : toCOp op = some o) (hm : behindInMarks op b = false) (Sa : SndE X Φ gl cA a ea) (Sb : SndE X Φ gl cA b eb) : SndE X Φ gl cA (.Compare a [op] [b] pos) (.cmp o ea eb) := by
  intro env σ HP Hs H Q pv hs hp h
  refine ⟨_, pe_cmpR opW peE peE hm, ?_⟩
  unfold ev at h
  refine Sa.then pv hs hp h fun g v HP1 H1 O1 rg nd fr st h1 => ?_
  refine Sb.then (pv.mono st.exP) (hs.step st) st.sees h1 fun g2 v2 HP2 H2 O2 rg2 nd2 fr2 st2 h2 => ?_
  obtain ⟨r, e, h3⟩ := h2.bindB
  have hs2 := ((hs.step st).step st2).e
  exact cmp_ok C.kK C.un ho ((rg.mono st2.exP (Ex.refl _) st2.ex).toT st2.sees hs2) (rg2.toT st2.sees hs2) e (h3.val st2.sees rfl)
theorem asInt_of {g : G} {i : Int} (h : asInt g = .ok i) : g = .val (.int i) := by
  unfold asInt at h
  split at h
  · cases h; rfl
  · cases h
theorem asBool_of {g : G} {i : Bool} (h : asBool g = .ok i) : g = .val (.bl i) := by
  unfold asBool at h
  split at h
  · cases h; rfl
  · cases h
theorem snd_neg {a : Expr} {ea : E} {pos : Pos} (Sa : SndE X Φ gl cA a ea) : SndE X Φ gl cA (.UnaryOp .USub a pos) (.neg ea) := by
  intro env σ HP Hs H Q pv hs hp h
  refine ⟨_, pe_un un_neg peE, ?_⟩
  unfold ev at h
  refine Sa.then pv hs hp h fun g v HP1 H1 O1 rg nd fr st h1 => ?_
  obtain ⟨i, e, h2⟩ := h1.bindI
  rw [asInt_of e] at rg
  cases rg.1
  exact ⟨i, rfl, h2.val st.sees rfl⟩
theorem snd_not {a : Expr} {ea : E} {pos : Pos} (Sa : SndE X Φ gl cA a ea) : SndE X Φ gl cA (.UnaryOp .Not a pos) (.not ea) := by
  intro env σ HP Hs H Q pv hs hp h
  refine ⟨_, pe_not peE, ?_⟩
  unfold ev at h
  refine Sa.then pv hs hp h fun g v HP1 H1 O1 rg nd fr st h1 => ?_
  obtain ⟨i, e, h2⟩ := h1.bindB
  rw [asBool_of e] at rg
  cases rg.1
  exact ⟨i, rfl, h2.val st.sees rfl⟩
theorem SndE.then0 {ex : Expr} {e : E} (S : SndE X Φ gl cA ex e) {env : Env} {σ : St} {HP Hs H HP0 H0 : Hp} (pv : PV cA HP Hs env σ) (hs : Eh Hs H) (hp : Ex HP H) (s0 : Step HP0 H0 HP H) {Q Q' : VK} {f : G → Res G}
    (h : WpR cA ((ev Φ gl env e).bind f) HP0 Hs H0 Q)
    (k : ∀ g v HP1 H1 O, RG cA HP1 Hs H1 g v O → O.Nodup → (∀ p ∈ O, H p = none ∧ HP1 p = none) → Step HP H HP1 H1 → WpR cA (f g) HP0 Hs H0 Q → Q' v H1) : wpE X ex σ H Q' := by
  refine S env σ HP Hs H Q' pv hs hp ?_
  cases q : ev Φ gl env e with
  | ok g =>
    rw [q] at h
    exact fun v HP1 H1 O a b c d => k g v HP1 H1 O a b c d h
  | exc x => rw [q] at h; exact h.elim
  | stk => rw [q] at h; exact h.elim
theorem keep_none {HP Hs H HP1 H1 : Hp} {g : G} {v : V} {O : List Addr} (st : Step HP H HP1 H1) (rg : RG cA HP Hs H g v O) (fr : ∀ p ∈ O, HP p = none) : ∀ p ∈ O, HP1 p = none := fun p hp => by
  cases q : HP1 p with
  | none => rfl
  | some u =>
    rcases st.new p (by rw [q]; simp) with z | z
    · exact absurd (fr p hp) z
    · obtain ⟨o, e⟩ := rg.ownIn p hp
      rw [e] at z; cases z
theorem snd_idx (C : Ctx X CX XE tb sc Φ gl cA) {a b : Expr} {ea eb : E} {pos : Pos} (hb : PlainIx b) (Sa : SndE X Φ gl cA a ea) (Sb : SndE X Φ gl cA b eb) : SndE X Φ gl cA (.Subscript a b pos) (.idx ea eb) := by
  intro env σ HP Hs H Q pv hs hp h
  refine ⟨_, pe_ix ixW peE peE hb, ?_⟩
  unfold ev at h
  refine Sa.then0 pv hs hp (Step.refl hp) h fun g v HP1 H1 O1 rg nd fr st h1 => ?_
  refine Sb.then0 (pv.mono st.exP) (hs.step st) st.sees st h1 fun g2 v2 HP2 H2 O2 rg2 nd2 fr2 st2 h2 => ?_
  obtain ⟨i, e, h3⟩ := h2.bindI
  rw [asInt_of e] at rg2
  cases rg2.1
  exact idx_ok C.kK st2.sees ((hs.step st).step st2).e (st.trans st2) (rg.mono st2.exP (Ex.refl _) st2.ex) nd (fun p hp => ⟨(fr p hp).1, keep_none st2 rg (fun p hp => (fr p hp).2) p hp⟩) h3
def wpO (X : Cx) (e : Option Expr) : TO := fun σ H Q => ∃ t, PO X e t ∧ t σ H Q
theorem poO {e : Option Expr} : PO X e (wpO X e) := ⟨fun pins s σ H Q I ⟨t, h, q⟩ => h.run pins s σ H Q I q⟩
def SndO (X : Cx) (Φ : Fns) (gl : Str → Option T) (cA : CA) (ex : Option Expr) (e : Option E) : Prop :=
  ∀ env σ HP Hs H HP0 H0 (Q : VK) (Q' : Option Int → Hp → Prop) (f : Option Int → Res G), PV cA HP Hs env σ → Eh Hs H → Ex HP H → Step HP0 H0 HP H → WpR cA ((evOpt Φ gl env e).bind f) HP0 Hs H0 Q →
    (∀ i HP1 H1, Step HP H HP1 H1 → WpR cA (f i) HP0 Hs H0 Q → Q' i H1) → wpO X ex σ H Q'
theorem snd_none : SndO X Φ gl cA none none := by
  intro env σ HP Hs H HP0 H0 Q Q' f pv hs hp s0 h k
  refine ⟨_, po_none, ?_⟩
  unfold evOpt at h
  exact k none HP H (Step.refl hp) h
theorem snd_some {a : Expr} {ea : E} (Sa : SndE X Φ gl cA a ea) : SndO X Φ gl cA (some a) (some ea) := by
  intro env σ HP Hs H HP0 H0 Q Q' f pv hs hp s0 h k
  refine ⟨_, po_some peE, ?_⟩
  unfold evOpt at h
  have h' : WpR cA ((ev Φ gl env ea).bind fun g => ((asInt g).bind fun i => Res.ok (some i)).bind f) HP0 Hs H0 Q := by
    cases q : ev Φ gl env ea with
    | ok g => rw [q] at h; exact h
    | exc x => rw [q] at h; exact h
    | stk => rw [q] at h; exact h
  refine Sa.then0 pv hs hp s0 h' fun g v HP1 H1 O1 rg nd fr st h1 => ?_
  cases e : asInt g with
  | ok i =>
    rw [e] at h1
    rw [asInt_of e] at rg
    cases rg.1
    exact ⟨i, rfl, k (some i) HP1 H1 st h1⟩
  | exc x => rw [e] at h1; exact h1.elim
  | stk => rw [e] at h1; exact h1.elim
theorem snd_slc (C : Ctx X CX XE tb sc Φ gl cA) {a : Expr} {lo hi : Option Expr} {ea : E} {el eh : Option E} {pos p2 : Pos} (Sa : SndE X Φ gl cA a ea) (Sl : SndO X Φ gl cA lo el) (Sh : SndO X Φ gl cA hi eh) : SndE X Φ gl cA (.Subscript a (.Slice lo hi none p2) pos) (.slc ea el eh) := by
  intro env σ HP Hs H Q pv hs hp h
  refine ⟨_, pe_slice slW peE poO poO, ?_⟩
  unfold ev at h
  refine Sa.then0 pv hs hp (Step.refl hp) h fun g v HP1 H1 O1 rg nd fr st h1 => ?_
  refine Sl env σ HP1 Hs H1 HP H Q _ _ (pv.mono st.exP) (hs.step st) st.sees st h1 fun l HP2 H2 st2 h2 => ?_
  refine Sh env σ HP2 Hs H2 HP H Q _ _ ((pv.mono st.exP).mono st2.exP) ((hs.step st).step st2) st2.sees (st.trans st2) h2 fun u HP3 H3 st3 h3 => ?_
  exact slc_ok C.kK st3.sees (((hs.step st).step st2).step st3).e (rg.mono (st2.exP.trans st3.exP) (Ex.refl _) (st2.ex.trans st3.ex)) (h3.from ((st.trans st2).trans st3))
/-! ### lists of expressions -/
theorem sndEs_nil : SndEs X Φ gl cA [] [] := by
  intro env σ HP Hs H Q pv hs hp h
  refine ⟨_, pa_nil, ?_⟩
  unfold evs at h
  exact h [] HP H [] ⟨rfl, rfl⟩ List.nodup_nil (fun _ z => nomatch z) (Step.refl hp)
theorem sndEs_cons {a : Expr} {as : List Expr} {ea : E} {eas : List E} (hst : starEach (a :: as) X.env = (false, eval a X.env) :: starEach as X.env) (Sa : SndE X Φ gl cA a ea) (Ss : SndEs X Φ gl cA as eas) : SndEs X Φ gl cA (a :: as) (ea :: eas) := by
  intro env σ HP Hs H Q pv hs hp h
  refine ⟨_, pa_cons peE paA hst, ?_⟩
  unfold evs at h
  refine Sa env σ HP Hs H _ pv hs hp ?_
  cases q : ev Φ gl env ea with
  | exc x => rw [q] at h; exact h.elim
  | stk => rw [q] at h; exact h.elim
  | ok g =>
    rw [q] at h
    intro v HP1 H1 O1 rg nd fr st
    refine Ss env σ HP1 Hs H1 _ (pv.mono st.exP) (hs.step st) st.sees ?_
    cases q2 : evs Φ gl env eas with
    | exc x => rw [q2] at h; exact h.elim
    | stk => rw [q2] at h; exact h.elim
    | ok gs =>
      rw [q2] at h
      intro vs HP2 H2 O2 rg2 nd2 fr2 st2
      refine h (v :: vs) HP2 H2 (O1 ++ O2) ⟨v, vs, O1, O2, rfl, rg.mono st2.exP (Ex.refl _) st2.ex, rg2, rfl⟩ ?_ ?_ (st.trans st2)
      · refine List.nodup_append.mpr ⟨nd, nd2, fun a ha b hb e => ?_⟩
        subst e
        obtain ⟨o, z⟩ := rg.ownIn a ha
        rw [(fr2 a hb).1] at z; cases z
      · intro p hp
        rcases List.mem_append.mp hp with hp | hp
        · exact ⟨(fr p hp).1, keep_none st2 rg (fun p hp => (fr p hp).2) p hp⟩
        · exact ⟨st.ex.none (fr2 p hp).1, (fr2 p hp).2⟩
theorem snd_tup {es : List Expr} {as : List E} {x1 : Nat} {pos : Pos} (S : SndEs X Φ gl cA es as) : SndE X Φ gl cA (.Tuple es x1 pos) (.tup as) := by
  intro env σ HP Hs H Q pv hs hp h
  refine ⟨_, pe_tup paA, ?_⟩
  unfold ev at h
  refine S env σ HP Hs H _ pv hs hp ?_
  cases q0 : evs Φ gl env as with
  | exc x => rw [q0] at h; exact h.elim
  | stk => rw [q0] at h; exact h.elim
  | ok gs =>
  rw [q0] at h
  simp only [Res.bind] at h
  intro vs HP1 H1 O rg nd fr st
  split at h
  · rename_i ts e
    have h1 := WpR.from st h
    clear h
    obtain ⟨r, _⟩ := rg.vals e
    split at h1
    · rename_i hl
      exact ⟨by rw [← r.len]; exact hl, h1.newT st.sees r⟩
    · exact h1.elim
  · split at h
    · rename_i hl
      refine ⟨by rw [← rg.len]; exact hl, fun p hn => ?_⟩
      have hO : ∀ q ∈ O, q ≠ p := fun q hq e => by
        obtain ⟨o, z⟩ := rg.ownIn q hq
        rw [e, hn] at z; cases z
      refine h (.ref p) HP1 (upd H1 p (.tup vs)) (p :: O) ⟨p, vs, O, rfl, upd_same, rg.mono (Ex.refl _) (Ex.refl _) (Ex.new hn), rfl⟩ (List.nodup_cons.mpr ⟨fun z => hO p z rfl, nd⟩) (fun q hq => ?_) (st.trans (Step.own st.sees hn))
      rcases List.mem_cons.mp hq with rfl | hq
      · exact ⟨st.ex.none hn, st.sees.none hn⟩
      · exact fr q hq
    · exact h.elim
theorem snd_dct {pos : Pos} : SndE X Φ gl cA (.Dict [] [] pos) .dct := by
  intro env σ HP Hs H Q pv hs hp h
  refine ⟨_, pe_dnewK, ?_⟩
  unfold ev at h
  intro p hn
  refine h (.ref p) HP (upd H p (.dK [])) [p] ⟨p, [], [], rfl, ⟨_, ⟨[], rfl, rfl, rfl⟩, upd_same⟩, ⟨rfl, rfl⟩, rfl⟩ (by simp) (fun q hq => ?_) (Step.own hp hn)
  have : q = p := by simpa using hq
  subst this
  exact ⟨hn, hp.none hn⟩
theorem rg_T (n : Int) : rgV 0 n = (rngT 0 n.toNat).map toV := by
  unfold rgV rngT
  rw [List.map_map, Int.sub_zero]
  rfl
theorem rts_rng (n : Int) (HP : Hp) : RTs cA HP (rngT 0 n.toNat) (rgV 0 n) := by
  rw [rg_T]
  have : ∀ ts : List T, (∀ t ∈ ts, flatT t = true) → RTs cA HP ts (ts.map toV) := by
    intro ts
    induction ts with
    | nil => intro _; rfl
    | cons t ts ih => intro hf; exact ⟨toV t, _, rfl, by cases t <;> first | rfl | (have := hf _ List.mem_cons_self; cases this), ih fun t ht => hf t (List.mem_cons_of_mem _ ht)⟩
  refine this _ fun t ht => ?_
  unfold rngT at ht
  obtain ⟨k, _, rfl⟩ := List.mem_map.mp ht
  rfl
theorem snd_lrg (C : Ctx X CX XE tb sc Φ gl cA) {f : Str} {a y : Expr} {as : List Expr} {p pos : Pos} {ey : E} (h : lrgOf f a as = some y) (h1 : builtinB tb sc "list" = true) (h2 : builtinB tb sc "range" = true) (hst : starEach [y] X.env = (false, eval y X.env) :: starEach [] X.env) (S : SndE X Φ gl cA y ey) : SndE X Φ gl cA (.Call (.Name f p) (a :: as) [] pos) (.lrg ey) := by
  unfold lrgOf at h
  split at h
  · rename_i hf
    rw [Bool.and_eq_true] at hf
    have e1 := beq_iff_eq.mp hf.1
    have e2 := List.isEmpty_iff.mp hf.2
    subst e1 e2
    split at h
    · rename_i g pg x pos2
      split at h
      · rename_i hg
        have e3 := beq_iff_eq.mp hg
        subst e3
        cases h
        intro env σ HP Hs H Q pv hs hp w
        unfold builtinB at h1 h2
        simp only [Bool.and_eq_true] at h1 h2
        refine ⟨_, pe_listRg C.calm (C.Gl h1.1.1) (C.bl _ h1.1.2) (prg_1 (C.Gl h2.1.1) (C.bl _ h2.1.2) peE (na := hst)), ?_⟩
        unfold ev at w
        refine S.then pv hs hp w fun g v HP1 H1 O rg nd fr st h1 => ?_
        obtain ⟨n, e, h3⟩ := h1.bindI
        rw [asInt_of e] at rg
        cases rg.1
        split at h3
        · rename_i hn
          rw [Bool.and_eq_true] at hn
          have hn1 := hn.1
          unfold smallI at hn1
          simp only [Bool.and_eq_true, decide_eq_true_eq] at hn1
          have hn2 := of_decide_eq_true hn.2
          rw [sizeLine_eq] at hn2
          refine ⟨n, rfl, ⟨by omega, by omega, hn1.1, hn1.2, by omega⟩, fun q hq => ?_⟩
          exact h3.newL st.sees (rts_rng n _) q hq
        · exact h3.elim
      · cases h
    · cases h
  · cases h
theorem snd_lst {es : List Expr} {as : List E} {pos : Pos} (S : SndEs X Φ gl cA es as) : SndE X Φ gl cA (.List es pos) (.lst as) := by
  intro env σ HP Hs H Q pv hs hp h
  refine ⟨_, pe_lst paA, ?_⟩
  unfold ev at h
  refine S env σ HP Hs H _ pv hs hp ?_
  cases q : evs Φ gl env as with
  | exc x => rw [q] at h; exact h.elim
  | stk => rw [q] at h; exact h.elim
  | ok gs =>
    rw [q] at h
    simp only [Res.bind] at h
    intro vs HP1 H1 O rg nd fr st
    split at h
    · rename_i hl
      refine ⟨by rw [← rg.len]; exact hl, fun p hn => ?_⟩
      have hO : ∀ q ∈ O, q ≠ p := fun q hq e => by
        obtain ⟨o, z⟩ := rg.ownIn q hq
        rw [e, hn] at z; cases z
      refine h (.ref p) HP1 (upd H1 p (.lst vs)) (p :: O) ⟨p, vs, O, rfl, upd_same, rg.mono (Ex.refl _) (Ex.refl _) (Ex.new hn), rfl⟩ (List.nodup_cons.mpr ⟨fun z => hO p z rfl, nd⟩) (fun q hq => ?_) (st.trans (Step.own st.sees hn))
      rcases List.mem_cons.mp hq with rfl | hq
      · exact ⟨st.ex.none hn, st.sees.none hn⟩
      · exact fr q hq
    · exact h.elim
/-! ### calls -/
theorem snd_bif (C : Ctx X CX XE tb sc Φ gl cA) {x : Str} {p pos : Pos} {a : Expr} {as : List Expr} {es : List E} {bf : Bf} (hb : bfName bf = x) (hx : builtinB tb sc x = true) (S : SndEs X Φ gl cA (a :: as) es)
    (hst : starEach (a :: as) X.env = (false, eval a X.env) :: starEach as X.env) (hpl : (backTo pos (starEach as X.env)).any (·.1) = false) : SndE X Φ gl cA (.Call (.Name x p) (a :: as) [] pos) (.bif bf es) := by
  intro env σ HP Hs H Q pv hs hp h
  unfold builtinB at hx
  simp only [Bool.and_eq_true] at hx
  obtain ⟨⟨hg, hbl⟩, hsn⟩ := hx
  obtain ⟨s1, _, s3⟩ := sane_of hsn
  have G := C.Gl hg
  have mgx := C.bl x hbl
  have main : wpA X (a :: as) σ H fun vs H1 => wpC X (bfVal bf) vs H1 Q := by
    unfold ev at h
    refine S.then pv hs hp h fun gs vs HP1 H1 O rg nd fr st h1 => ?_
    exact bif_ok C.kK C.calm st.sees (hs.step st).e rg h1
  subst hb
  cases bf
  · exact ⟨_, pe_callB cW G mgx (by decide +kernel) paA s3 s1 hst hpl, main⟩
  · exact ⟨_, pe_callTy cW G mgx (by decide +kernel) paA s3 s1 hst hpl, main⟩
  · exact ⟨_, pe_callTy cW G mgx (by decide +kernel) paA s3 s1 hst hpl, main⟩
  · exact ⟨_, pe_callTy cW G mgx (by decide +kernel) paA s3 s1 hst hpl, main⟩
  · exact ⟨_, pe_callTy cW G mgx (by decide +kernel) paA s3 s1 hst hpl, main⟩
  · exact ⟨_, pe_callB cW G mgx (by decide +kernel) paA s3 s1 hst hpl, main⟩
  · exact ⟨_, pe_callB cW G mgx (by decide +kernel) paA s3 s1 hst hpl, main⟩
  · exact ⟨_, pe_callB cW G mgx (by decide +kernel) paA s3 s1 hst hpl, main⟩
  · exact ⟨_, pe_callB cW G mgx (by decide +kernel) paA s3 s1 hst hpl, main⟩
  · exact ⟨_, pe_callB cW G mgx (by decide +kernel) paA s3 s1 hst hpl, main⟩
  · exact ⟨_, pe_callB cW G mgx (by decide +kernel) paA s3 s1 hst hpl, main⟩
  · exact ⟨_, pe_callB cW G mgx (by decide +kernel) paA s3 s1 hst hpl, main⟩
  · exact ⟨_, pe_callB cW G mgx (by decide +kernel) paA s3 s1 hst hpl, main⟩
theorem evs_len {env : Env} : ∀ {es : List E} {gs : List G}, evs Φ gl env es = .ok gs → gs.length = es.length
  | [], gs, h => by unfold evs at h; cases h; rfl
  | e :: es, gs, h => by
    unfold evs at h
    cases q : ev Φ gl env e with
    | exc x => rw [q] at h; cases h
    | stk => rw [q] at h; cases h
    | ok g =>
      cases q2 : evs Φ gl env es with
      | exc x => rw [q, q2] at h; cases h
      | stk => rw [q, q2] at h; cases h
      | ok gs' => rw [q, q2] at h; cases h; rw [List.length_cons, List.length_cons, evs_len q2]
mutual
theorem RG.freeB {HP HB HB' H : Hp} : ∀ {g : G} {v : V} {O : List Addr}, g.free = true → RG cA HP HB H g v O → RG cA HP HB' H g v O
  | .val _, _, _, _, h => h
  | .nod true _ _, _, _, e, ⟨p, vs, O', h1, h2, h3, h4⟩ => ⟨p, vs, O', h1, h2, RGs.freeB (by unfold G.free at e; rw [Bool.true_and] at e; exact e) h3, h4⟩
  | .nod false _ _, _, _, e, _ => by unfold G.free at e; cases e
theorem RGs.freeB {HP HB HB' H : Hp} : ∀ {gs : List G} {vs : List V} {O : List Addr}, G.frees gs = true → RGs cA HP HB H gs vs O → RGs cA HP HB' H gs vs O
  | [], _, _, _, h => h
  | _ :: _, _, _, e, ⟨v, r, O1, O2, h1, h2, h3, h4⟩ => by
    unfold G.frees at e
    rw [Bool.and_eq_true] at e
    exact ⟨v, r, O1, O2, h1, RG.freeB e.1 h2, RGs.freeB e.2 h3, h4⟩
end
theorem snd_call (C : Ctx X CX XE tb sc Φ gl cA) {f : Str} {p pos : Pos} {a : Expr} {as : List Expr} {es : List E} (hg : glB sc f = true) (hsn : sane f = true) (hf : tb.fns.lookup f = some es.length) (S : SndEs X Φ gl cA (a :: as) es)
    (hst : starEach (a :: as) X.env = (false, eval a X.env) :: starEach as X.env) (hpl : (backTo pos (starEach as X.env)).any (·.1) = false) : SndE X Φ gl cA (.Call (.Name f p) (a :: as) [] pos) (.call f es) := by
  intro env σ HP Hs H Q pv hs hp h
  obtain ⟨s1, _, s3⟩ := sane_of hsn
  obtain ⟨fa, fd, ps, k, hpl', hm, hk, hb, F, hr⟩ := C.fn f _ hf
  refine ⟨_, pe_call F hr (C.Gl hg) hm hk hb (.nil) (C.ps _) paA s1 hst hpl, ?_⟩
  unfold ev at h
  have main : wpA X (a :: as) σ H fun vs H1 => spOf cA Φ f es.length vs H1 Q XE := by
    refine S env σ HP Hs H _ pv hs hp ?_
    cases q : evs Φ gl env es with
    | exc x => rw [q] at h; exact h.elim
    | stk => rw [q] at h; exact h.elim
    | ok gs =>
      rw [q] at h
      intro vs HP1 H1 O rg nd fr st
      have hs1 := hs.step st
      have st' := st.freeze (O := O) fun p hp => (fr p hp).1
      have hlen : vs.length = es.length := by rw [← rg.len]; exact evs_len q
      have h1 : WpR cA (backR (Φ.call f (G.args gs))) (ad HP1 O H1) Hs H1 Q := h.from st'
      unfold backR at h1
      refine ⟨hlen, hs1.tb, ad HP1 O H1, G.args gs, [], st'.sees, by rw [mn_nil]; exact rg.args st.sees hs1.e, List.nodup_nil, (fun _ z => nomatch z), ?_⟩
      cases qc : Φ.call f (G.args gs) with
      | exc x _ => rw [qc] at h1; exact h1.elim
      | stk => rw [qc] at h1; exact h1.elim
      | ok r gs' =>
        rw [qc] at h1
        by_cases hf : r.free = true
        · simp only [hf, if_true] at h1
          refine ⟨hf, fun v HP2 H2 O O' r1 r2 nd' fr' st' => ?_⟩
          exact h1 v HP2 H2 O (r1.freeB hf) (List.nodup_append.mp nd').1 (fun p hp => ⟨((fr' p (List.mem_append_left _ hp)).1).elim id fun z => absurd z (by simp), (fr' p (List.mem_append_left _ hp)).2⟩) st'.nil
        · simp only [hf] at h1
          exact h1.elim
  show wpA X (a :: as) σ H fun vs H1 => spOf cA Φ f es.length (vs ++ []) H1 Q XE
  simp only [List.append_nil]
  exact main
end
end Bv
set_option maxRecDepth 100000
set_option maxHeartbeats 2000000
/-! Part 7: the text's expressions do what the small language tells. -/
namespace Bv
open PySem L2
section
variable [TC] {X : Cx} {CX : CXT} {XE : XK} {tb : Tb} {sc : Scope} {Φ : Fns} {gl : Str → Option T} {cA : CA}
theorem Res.bind_assoc {α β γ : Type} (r : Res α) (f : α → Res β) (g : β → Res γ) : (r.bind f).bind g = r.bind fun a => (f a).bind g := by cases r <;> rfl
theorem toE_mark {n : Nat} {e : Expr} {a : E} {op : CmpOp} (h : toE tb sc n e = some a) : behindInMarks op e = false := by
  cases n with
  | zero => cases h
  | succ n => cases e <;> first | rfl | (simp [toE] at h)
theorem toEs_ok {n : Nat} (ih : ∀ ex e, toE tb sc n ex = some e → SndE X Φ gl cA ex e) : ∀ {es : List Expr} {as : List E}, toEs (toE tb sc n) es = some as → SndEs X Φ gl cA es as
  | [], as, h => by cases h; exact sndEs_nil
  | e :: es, as, h => by
    unfold toEs at h
    cases q : toE tb sc n e with
    | none => rw [q] at h; cases h
    | some a =>
      cases q2 : toEs (toE tb sc n) es with
      | none => rw [q, q2] at h; cases h
      | some as' =>
        rw [q, q2] at h
        cases h
        exact sndEs_cons (toE_star q es _) (ih _ _ q) (toEs_ok ih q2)
theorem toOpt_ok {n : Nat} (ih : ∀ ex e, toE tb sc n ex = some e → SndE X Φ gl cA ex e) {o : Option Expr} {a : Option E} (h : toOpt (toE tb sc n) o = some a) : SndO X Φ gl cA o a := by
  cases o with
  | none => cases h; exact snd_none
  | some e =>
    unfold toOpt at h
    simp only at h
    cases q : toE tb sc n e with
    | none => rw [q] at h; cases h
    | some x => rw [q] at h; cases h; exact snd_some (ih _ _ q)
/-- and, or: the values of a chain -/
theorem snd_and (Cm : X.calm = true) {pos : Pos} : ∀ {a : Expr} {as : List Expr} {ea : E} {eas : List E}, SndE X Φ gl cA a ea → (∀ (i : Nat) e x, as[i]? = some e → eas[i]? = some x → SndE X Φ gl cA e x) → as.length = eas.length →
    SndE X Φ gl cA (.BoolOp .And (a :: as) pos) (.and (ea :: eas))
  | a, [], ea, eas, Sa, Ss, hl => by
    intro env σ HP Hs H Q pv hs hp h
    cases eas with
    | cons _ _ => cases hl
    | nil =>
      refine ⟨_, pe_one peE, ?_⟩
      unfold ev evAnd at h
      refine Sa.then pv hs hp (f := fun g => (asBool g).bind fun b => ((if b = true then evAnd Φ gl env [] else Res.ok false).bind fun b => .ok (.val (.bl b)))) (Q := Q) ?_ fun g v HP1 H1 O rg nd fr st h1 => ?_
      · rw [Res.bind_assoc] at h
        simp only [Res.bind_assoc] at h
        exact h
      · obtain ⟨b, e, h2⟩ := h1.bindB
        rw [asBool_of e] at rg
        cases rg.1
        cases b with
        | true => unfold evAnd at h2; exact h2.val st.sees rfl
        | false => exact h2.val st.sees rfl
  | a, a2 :: as, ea, eas, Sa, Ss, hl => by
    intro env σ HP Hs H Q pv hs hp h
    cases eas with
    | nil => cases hl
    | cons e2 eas =>
      have Sr : SndE X Φ gl cA (.BoolOp .And (a2 :: as) pos) (.and (e2 :: eas)) := snd_and Cm (Ss 0 a2 e2 rfl rfl) (fun i e x h1 h2 => Ss (i + 1) e x (by simpa using h1) (by simpa using h2)) (by simpa using hl)
      refine ⟨_, pe_and peE peE, ?_⟩
      unfold ev evAnd at h
      refine Sa.then pv hs hp (f := fun g => (asBool g).bind fun b => ((if b = true then evAnd Φ gl env (e2 :: eas) else Res.ok false).bind fun b => .ok (.val (.bl b)))) (Q := Q) ?_ fun g v HP1 H1 O rg nd fr st h1 => ?_
      · rw [Res.bind_assoc] at h
        simp only [Res.bind_assoc] at h
        exact h
      · obtain ⟨b, e, h2⟩ := h1.bindB
        rw [asBool_of e] at rg
        cases rg.1
        refine ⟨b, rfl, ?_⟩
        cases b with
        | true =>
          show wpE X _ σ H1 Q
          refine Sr env σ HP1 Hs H1 Q (pv.mono st.exP) (hs.step st) st.sees ?_
          unfold ev
          exact h2
        | false => exact h2.val st.sees rfl
theorem snd_or (Cm : X.calm = true) {pos : Pos} : ∀ {a : Expr} {as : List Expr} {ea : E} {eas : List E}, SndE X Φ gl cA a ea → (∀ (i : Nat) e x, as[i]? = some e → eas[i]? = some x → SndE X Φ gl cA e x) → as.length = eas.length →
    SndE X Φ gl cA (.BoolOp .Or (a :: as) pos) (.or (ea :: eas))
  | a, [], ea, eas, Sa, Ss, hl => by
    intro env σ HP Hs H Q pv hs hp h
    cases eas with
    | cons _ _ => cases hl
    | nil =>
      refine ⟨_, pe_one peE, ?_⟩
      unfold ev evOr at h
      refine Sa.then pv hs hp (f := fun g => (asBool g).bind fun b => ((if b = true then Res.ok true else evOr Φ gl env []).bind fun b => .ok (.val (.bl b)))) (Q := Q) ?_ fun g v HP1 H1 O rg nd fr st h1 => ?_
      · rw [Res.bind_assoc] at h
        simp only [Res.bind_assoc] at h
        exact h
      · obtain ⟨b, e, h2⟩ := h1.bindB
        rw [asBool_of e] at rg
        cases rg.1
        cases b with
        | true => exact h2.val st.sees rfl
        | false => unfold evOr at h2; exact h2.val st.sees rfl
  | a, a2 :: as, ea, eas, Sa, Ss, hl => by
    intro env σ HP Hs H Q pv hs hp h
    cases eas with
    | nil => cases hl
    | cons e2 eas =>
      have Sr : SndE X Φ gl cA (.BoolOp .Or (a2 :: as) pos) (.or (e2 :: eas)) := snd_or Cm (Ss 0 a2 e2 rfl rfl) (fun i e x h1 h2 => Ss (i + 1) e x (by simpa using h1) (by simpa using h2)) (by simpa using hl)
      refine ⟨_, pe_or peE peE, ?_⟩
      unfold ev evOr at h
      refine Sa.then pv hs hp (f := fun g => (asBool g).bind fun b => ((if b = true then Res.ok true else evOr Φ gl env (e2 :: eas)).bind fun b => .ok (.val (.bl b)))) (Q := Q) ?_ fun g v HP1 H1 O rg nd fr st h1 => ?_
      · rw [Res.bind_assoc] at h
        simp only [Res.bind_assoc] at h
        exact h
      · obtain ⟨b, e, h2⟩ := h1.bindB
        rw [asBool_of e] at rg
        cases rg.1
        refine ⟨b, rfl, ?_⟩
        cases b with
        | true => exact h2.val st.sees rfl
        | false =>
          show wpE X _ σ H1 Q
          refine Sr env σ HP1 Hs H1 Q (pv.mono st.exP) (hs.step st) st.sees ?_
          unfold ev
          exact h2
theorem toEs_get {n : Nat} : ∀ {es : List Expr} {as : List E}, toEs (toE tb sc n) es = some as → es.length = as.length ∧ ∀ (i : Nat) e x, es[i]? = some e → as[i]? = some x → toE tb sc n e = some x
  | [], as, h => by cases h; exact ⟨rfl, fun i e x h1 => by simp at h1⟩
  | e :: es, as, h => by
    unfold toEs at h
    cases q : toE tb sc n e with
    | none => rw [q] at h; cases h
    | some a =>
      cases q2 : toEs (toE tb sc n) es with
      | none => rw [q, q2] at h; cases h
      | some as' =>
        rw [q, q2] at h
        cases h
        obtain ⟨h1, h2⟩ := toEs_get q2
        refine ⟨by rw [List.length_cons, List.length_cons, h1], fun i e' x e1 e2 => ?_⟩
        cases i with
        | zero => simp at e1 e2; subst e1 e2; exact q
        | succ i => exact h2 i e' x (by simpa using e1) (by simpa using e2)
theorem snd_isi (C : Ctx X CX XE tb sc Φ gl cA) {p pc pos : Pos} {a : Expr} {ea : E} {c : Str} {m : String} (hst : starEach [a, .Name c pc] X.env = (false, eval a X.env) :: starEach [.Name c pc] X.env) (hf : builtinB tb sc "isinstance" = true) (hc : builtinB tb sc c = true)
    (hm : tyNames.lookup c = some m) (Sa : SndE X Φ gl cA a ea) : SndE X Φ gl cA (.Call (.Name "isinstance" p) [a, .Name c pc] [] pos) (.isi ea (.ty m)) := by
  intro env σ HP Hs H Q pv hs hp h
  unfold builtinB at hf hc
  simp only [Bool.and_eq_true] at hf hc
  obtain ⟨s1, _, s3⟩ := sane_of hf.2
  obtain ⟨c1, _, c3⟩ := sane_of hc.2
  have hv : bootBuiltins c = some (.type m) := by
    unfold tyNames at hm
    simp only [List.lookup] at hm
    repeat' split at hm
    all_goals first | (rename_i e; cases hm; rw [beq_iff_eq.mp e]; decide +kernel) | cases hm
  refine ⟨_, pe_callB (id := "isinstance") cW (C.Gl hf.1.1) (C.bl _ hf.1.2) (by decide +kernel) (pa_cons peE (pa_cons (pe_bltn (C.Gl hc.1.1) (C.bl _ hc.1.2) hv (show RelV (.ty m) (.type m) from rfl) c3 c1) pa_nil rfl) hst) s3 s1 hst rfl, ?_⟩
  unfold ev at h
  show wpE X a σ H fun x H1 => wpC X (.builtin "isinstance") [x, .ty m] H1 Q
  refine Sa.then pv hs hp h fun g v HP1 H1 O rg nd fr st h1 => ?_
  obtain ⟨b, e, h2⟩ := h1.bindB
  exact isi_ok C.kK (rg.toT st.sees (hs.step st).e) e (h2.val st.sees rfl)
def SndT (X : Cx) (Φ : Fns) (gl : Str → Option T) (cA : CA) (ex : Expr) (e : E) : Prop :=
  ∀ env σ HP Hs H (Q : Bool → Hp → Prop), PV cA HP Hs env σ → Eh Hs H → Ex HP H → WpB (evB Φ gl env e) HP H Q → wpT X ex σ H Q
/-- how a plain test is asked -/
def PlainT (X : Cx) (ex : Expr) : Prop := ∀ whole, isTrue ex X.env whole = (do let v ← whole; standAt ex.pos; holding [v] (truthy v))
theorem sndT_plain {ex : Expr} {e : E} (hp : PlainT X ex) (S : SndE X Φ gl cA ex e) : SndT X Φ gl cA ex e := by
  intro env σ HP Hs H Q pv hs hP h
  refine ⟨_, pt_val peE hp, ?_⟩
  show wpE X ex σ H fun x H1 => ∃ c, x = .bl c ∧ Q c H1
  refine S env σ HP Hs H _ pv hs hP ?_
  unfold evB at h
  cases q : ev Φ gl env e with
  | exc x => rw [q] at h; exact h.elim
  | stk => rw [q] at h; exact h.elim
  | ok g =>
    rw [q] at h
    intro v HP1 H1 O rg nd fr st
    cases q2 : asBool g with
    | exc x => simp only [Res.bind] at h; rw [q2] at h; exact h.elim
    | stk => simp only [Res.bind] at h; rw [q2] at h; exact h.elim
    | ok b =>
      simp only [Res.bind] at h
      rw [q2] at h
      rw [asBool_of q2] at rg
      exact ⟨b, rg.1, h HP1 H1 st⟩
theorem WpB.from {r : Res Bool} {HP H HP1 H1 : Hp} {Q : Bool → Hp → Prop} (s : Step HP H HP1 H1) (h : WpB r HP H Q) : WpB r HP1 H1 Q := by
  cases r with
  | ok b => exact fun HP2 H2 st => h HP2 H2 (s.trans st)
  | exc x => exact h.elim
  | stk => exact h.elim
theorem sndT_not {a : Expr} {ea : E} {pos : Pos} (Sa : SndT X Φ gl cA a ea) : SndT X Φ gl cA (.UnaryOp .Not a pos) (.not ea) := by
  intro env σ HP Hs H Q pv hs hP h
  refine ⟨_, pt_not ptT, ?_⟩
  refine Sa env σ HP Hs H _ pv hs hP ?_
  unfold evB ev at h
  unfold evB
  cases q : ev Φ gl env ea with
  | exc x => rw [q] at h; exact h.elim
  | stk => rw [q] at h; exact h.elim
  | ok g =>
    rw [q] at h
    simp only [Res.bind] at h ⊢
    cases q2 : asBool g with
    | exc x => rw [q2] at h; exact h.elim
    | stk => rw [q2] at h; exact h.elim
    | ok b => rw [q2] at h; exact fun HP1 H1 st => h HP1 H1 st
theorem sndT_cmp (C : Ctx X CX XE tb sc Φ gl cA) {a b : Expr} {ea eb : E} {op : CmpOp} {o : COp} {pos : Pos} (ho : toCOp op = some o) (hm : behindInMarks op b = false) (Sa : SndE X Φ gl cA a ea) (Sb : SndE X Φ gl cA b eb) : SndT X Φ gl cA (.Compare a [op] [b] pos) (.cmp o ea eb) := by
  intro env σ HP Hs H Q pv hs hp h
  refine ⟨_, pt_cmpR opW peE peE hm, ?_⟩
  unfold evB ev at h
  have h' : WpR cA ((ev Φ gl env ea).bind fun x => (ev Φ gl env eb).bind fun y => (cmpT o x.toT y.toT).bind fun r => .ok (.val (.bl r))) HP Hs H fun x H1 => ∃ c, x = .bl c ∧ Q c H1 := by
    cases q : ev Φ gl env ea with
    | exc x => rw [q] at h; exact h.elim
    | stk => rw [q] at h; exact h.elim
    | ok g =>
      cases q2 : ev Φ gl env eb with
      | exc x => simp only [Res.bind] at h; rw [q, q2] at h; exact h.elim
      | stk => simp only [Res.bind] at h; rw [q, q2] at h; exact h.elim
      | ok g2 =>
        cases q3 : cmpT o g.toT g2.toT with
        | exc x => simp only [Res.bind] at h; rw [q, q2] at h; simp only [q3] at h; exact h.elim
        | stk => simp only [Res.bind] at h; rw [q, q2] at h; simp only [q3] at h; exact h.elim
        | ok r =>
          simp only [Res.bind] at h ⊢
          rw [q, q2] at h
          simp only [q3] at h ⊢
          exact fun v HP1 H1 O rg _ _ st => ⟨r, rg.1, h HP1 H1 st⟩
  refine Sa.then pv hs hp h' fun g v HP1 H1 O1 rg nd fr st h1 => ?_
  refine Sb.then (pv.mono st.exP) (hs.step st) st.sees h1 fun g2 v2 HP2 H2 O2 rg2 nd2 fr2 st2 h2 => ?_
  obtain ⟨r, e, h3⟩ := h2.bindB
  have hs2 := (hs.step st).step st2
  exact cmp_ok C.kK C.un ho ((rg.mono st2.exP (Ex.refl _) st2.ex).toT st2.sees hs2.e) (rg2.toT st2.sees hs2.e) e (h3.val st2.sees rfl)
def wpW (X : Cx) (e : Expr) : TT := fun σ H Q => ∃ t, PW X e t ∧ t σ H Q
theorem pwW {e : Expr} : PW X e (wpW X e) := ⟨fun w pins s σ H Q I ⟨t, h, q⟩ => h.run w pins s σ H Q I q⟩
theorem sndW_and {pos : Pos} : ∀ {a : Expr} {as : List Expr} {ea : E} {eas : List E}, SndT X Φ gl cA a ea → (∀ (i : Nat) e x, as[i]? = some e → eas[i]? = some x → SndT X Φ gl cA e x) → as.length = eas.length →
    ∀ env σ HP Hs H (Q : Bool → Hp → Prop), PV cA HP Hs env σ → Eh Hs H → Ex HP H → WpB (evAnd Φ gl env (ea :: eas)) HP H Q → wpW X (.BoolOp .And (a :: as) pos) σ H Q
  | a, [], ea, eas, Sa, Ss, hl => by
    intro env σ HP Hs H Q pv hs hp h
    cases eas with
    | cons _ _ => cases hl
    | nil =>
      refine ⟨_, pw_and1 ptT, Sa env σ HP Hs H Q pv hs hp ?_⟩
      unfold evAnd at h
      unfold evB
      cases q : ev Φ gl env ea with
      | exc x => rw [q] at h; exact h.elim
      | stk => rw [q] at h; exact h.elim
      | ok g =>
        rw [q] at h
        simp only [Res.bind] at h ⊢
        cases q2 : asBool g with
        | exc x => rw [q2] at h; exact h.elim
        | stk => rw [q2] at h; exact h.elim
        | ok b =>
          rw [q2] at h
          cases b with
          | true => unfold evAnd at h; exact h
          | false => exact h
  | a, a2 :: as, ea, eas, Sa, Ss, hl => by
    intro env σ HP Hs H Q pv hs hp h
    cases eas with
    | nil => cases hl
    | cons e2 eas =>
      have Sr := sndW_and (pos := pos) (Ss 0 a2 e2 rfl rfl) (fun i e x h1 h2 => Ss (i + 1) e x (by simpa using h1) (by simpa using h2)) (by simpa using hl)
      refine ⟨_, pw_and ptT pwW, ?_⟩
      refine Sa env σ HP Hs H _ pv hs hp ?_
      unfold evAnd at h
      unfold evB
      cases q : ev Φ gl env ea with
      | exc x => rw [q] at h; exact h.elim
      | stk => rw [q] at h; exact h.elim
      | ok g =>
        rw [q] at h
        simp only [Res.bind] at h ⊢
        cases q2 : asBool g with
        | exc x => rw [q2] at h; exact h.elim
        | stk => rw [q2] at h; exact h.elim
        | ok b =>
          rw [q2] at h
          intro HP1 H1 st
          cases b with
          | true =>
            refine iteT ?_
            exact Sr env σ HP1 Hs H1 Q (pv.mono st.exP) (hs.step st) st.sees (WpB.from st h)
          | false => exact iteF (h HP1 H1 st)
theorem sndW_or {pos : Pos} : ∀ {a : Expr} {as : List Expr} {ea : E} {eas : List E}, SndT X Φ gl cA a ea → (∀ (i : Nat) e x, as[i]? = some e → eas[i]? = some x → SndT X Φ gl cA e x) → as.length = eas.length →
    ∀ env σ HP Hs H (Q : Bool → Hp → Prop), PV cA HP Hs env σ → Eh Hs H → Ex HP H → WpB (evOr Φ gl env (ea :: eas)) HP H Q → wpW X (.BoolOp .Or (a :: as) pos) σ H Q
  | a, [], ea, eas, Sa, Ss, hl => by
    intro env σ HP Hs H Q pv hs hp h
    cases eas with
    | cons _ _ => cases hl
    | nil =>
      refine ⟨_, pw_or1 ptT, Sa env σ HP Hs H Q pv hs hp ?_⟩
      unfold evOr at h
      unfold evB
      cases q : ev Φ gl env ea with
      | exc x => rw [q] at h; exact h.elim
      | stk => rw [q] at h; exact h.elim
      | ok g =>
        rw [q] at h
        simp only [Res.bind] at h ⊢
        cases q2 : asBool g with
        | exc x => rw [q2] at h; exact h.elim
        | stk => rw [q2] at h; exact h.elim
        | ok b =>
          rw [q2] at h
          cases b with
          | true => exact h
          | false => unfold evOr at h; exact h
  | a, a2 :: as, ea, eas, Sa, Ss, hl => by
    intro env σ HP Hs H Q pv hs hp h
    cases eas with
    | nil => cases hl
    | cons e2 eas =>
      have Sr := sndW_or (pos := pos) (Ss 0 a2 e2 rfl rfl) (fun i e x h1 h2 => Ss (i + 1) e x (by simpa using h1) (by simpa using h2)) (by simpa using hl)
      refine ⟨_, pw_or ptT pwW, ?_⟩
      refine Sa env σ HP Hs H _ pv hs hp ?_
      unfold evOr at h
      unfold evB
      cases q : ev Φ gl env ea with
      | exc x => rw [q] at h; exact h.elim
      | stk => rw [q] at h; exact h.elim
      | ok g =>
        rw [q] at h
        simp only [Res.bind] at h ⊢
        cases q2 : asBool g with
        | exc x => rw [q2] at h; exact h.elim
        | stk => rw [q2] at h; exact h.elim
        | ok b =>
          rw [q2] at h
          intro HP1 H1 st
          cases b with
          | true => exact iteT (h HP1 H1 st)
          | false =>
            refine iteF ?_
            exact Sr env σ HP1 Hs H1 Q (pv.mono st.exP) (hs.step st) st.sees (WpB.from st h)
theorem evB_and {env : Env} {es : List E} : evB Φ gl env (.and es) = evAnd Φ gl env es := by
  unfold evB ev
  cases evAnd Φ gl env es <;> rfl
theorem evB_or {env : Env} {es : List E} : evB Φ gl env (.or es) = evOr Φ gl env es := by
  unfold evB ev
  cases evOr Φ gl env es <;> rfl
theorem okT_of (C : Ctx X CX XE tb sc Φ gl cA) {N0 : Nat} (S0 : ∀ m, m ≤ N0 → ∀ (ex : Expr) (e : E), toE tb sc m ex = some e → SndE X Φ gl cA ex e) : ∀ (n : Nat), n ≤ N0 → ∀ (ex : Expr) (e : E), toE tb sc n ex = some e → SndT X Φ gl cA ex e := by
  intro n
  induction n with
  | zero => intro _ ex e h; cases h
  | succ n ih0 =>
    intro hN ex e h
    have ih := ih0 (by omega)
    have S := S0 _ hN _ _ h
    have h0 := h
    cases ex
    case UnaryOp op a pos =>
      cases op
      case Not =>
        unfold toE at h
        simp only at h
        cases q : toE tb sc n a with
        | none => rw [q] at h; cases h
        | some x => rw [q] at h; cases h; exact sndT_not (ih _ _ q)
      all_goals exact sndT_plain (fun _ => rfl) S
    case BoolOp op es pos =>
      cases es with
      | nil => cases op <;> (unfold toE at h; cases h)
      | cons a as =>
        cases op with
        | And =>
          unfold toE at h
          simp only at h
          cases q : toEs (toE tb sc n) (a :: as) with
          | none => rw [q] at h; cases h
          | some xs =>
            rw [q] at h; cases h
            obtain ⟨hl, hg⟩ := toEs_get q
            cases xs with
            | nil => cases hl
            | cons x xs =>
              intro env σ HP Hs H Q pv hs hp w
              rw [evB_and] at w
              exact ⟨_, pwW.pt, sndW_and (ih _ _ (hg 0 _ _ rfl rfl)) (fun i e y h1 h2 => ih _ _ (hg (i + 1) e y (by simpa using h1) (by simpa using h2))) (by simpa using hl) env σ HP Hs H Q pv hs hp w⟩
        | Or =>
          unfold toE at h
          simp only at h
          cases q : toEs (toE tb sc n) (a :: as) with
          | none => rw [q] at h; cases h
          | some xs =>
            rw [q] at h; cases h
            obtain ⟨hl, hg⟩ := toEs_get q
            cases xs with
            | nil => cases hl
            | cons x xs =>
              intro env σ HP Hs H Q pv hs hp w
              rw [evB_or] at w
              exact ⟨_, pwW.pt, sndW_or (ih _ _ (hg 0 _ _ rfl rfl)) (fun i e y h1 h2 => ih _ _ (hg (i + 1) e y (by simpa using h1) (by simpa using h2))) (by simpa using hl) env σ HP Hs H Q pv hs hp w⟩
    case Compare a ops bs pos =>
      match ops, bs, h with
      | [op], [b], h =>
        unfold toE at h
        simp only at h
        split at h
        · rename_i e1 e2 e3
          cases h
          exact sndT_cmp C e1 (toE_mark e3) (S0 n (by omega) _ _ e2) (S0 n (by omega) _ _ e3)
        · cases h
      | [], _, h => unfold toE at h; cases h
      | _ :: _ :: _, _, h => unfold toE at h; cases h
      | [_], [], h => unfold toE at h; cases h
      | [_], _ :: _ :: _, h => unfold toE at h; cases h
    case IfExp => unfold toE at h; cases h
    all_goals exact sndT_plain (fun _ => rfl) S
/-! ### comprehensions -/
/-- where a target's names are stored -/
structure TgC (Y : Cx) (tb : Tb) (sc' : Scope) : Prop where
  nd : Y.N.Nodup
  nm : Y.N = tb.N
  calm : Y.calm = true
  lc : ∀ x, locB sc' x = true → Loc Y.env.scope x ∧ (Y.fn x = true ∨ Y.env.scope.names.lookup x = some .local)
/-- values stored at slots -/
def setVs : List Nat → List V → St → St
  | i :: is, v :: vs, σ => setVs is vs (σ.set i (some v))
  | _, _, σ => σ
theorem pg_nm' {Y : Cx} {sc' : Scope} (C : TgC Y tb sc') {x : Str} {pos : Pos} {i : Nat} (h1 : locB sc' x = true) (h2 : slotOf tb.N x = some i) : PG Y (.Name x pos) (gName i) :=
  pg_name C.nd (by rw [C.nm]; exact slot_get h2) (C.lc x h1).1 (C.lc x h1).2
theorem pgs_nms' {Y : Cx} {sc' : Scope} (C : TgC Y tb sc') : ∀ {ts : List Expr} {is : List Nat}, toNms tb sc' ts = some is → PGs Y ts (fun vs σ H Q => vs.length = is.length ∧ Q (setVs is vs σ) H) ∧ (assignEach ts Y.env).length = is.length ∧ (assignEach ts Y.env).findIdx? (·.1) = none
  | [], _, h => by
    cases h
    exact ⟨⟨fun pins s σ H vs us Q I r q => by
      have e : vs = [] := List.eq_nil_of_length_eq_zero q.1
      exact pgs_nil.run pins s σ H vs us Q I r ⟨e, by rw [e] at q; exact q.2⟩⟩, rfl, rfl⟩
  | e :: ts, is, h => by
    unfold toNms at h
    cases q : toNm tb sc' e with
    | none => rw [q] at h; cases h
    | some i =>
      cases q2 : toNms tb sc' ts with
      | none => rw [q, q2] at h; cases h
      | some is' =>
        rw [q, q2] at h; cases h
        obtain ⟨p1, p2, p3⟩ := pgs_nms' C q2
        unfold toNm at q
        split at q
        · rename_i x pos
          split at q
          · rename_i hx
            have pg := pg_nm' C (pos := pos) hx q
            have pc := pgs_cons pg p1 rfl
            refine ⟨⟨fun pins s σ H vs us Q I r w => ?_⟩, ?_, ?_⟩
            · cases vs with
              | nil => exact absurd w.1 (by simp)
              | cons v vr => exact pc.run pins s σ H (v :: vr) us Q I r ⟨v, vr, rfl, by simpa using w.1, w.2⟩
            · show (assignEach ts Y.env).length + 1 = is'.length + 1
              rw [p2]
            · show List.findIdx? _ ((false, assign (.Name x pos) Y.env) :: assignEach ts Y.env) = none
              rw [List.findIdx?_cons, p3]
              rfl
          · cases q
        · cases q
def gOf (K : PySem.W.Frag) : Tg → TG
  | .nm i => gName i
  | .pr is => gTup K is.length fun vs σ H Q => vs.length = is.length ∧ Q (setVs is vs σ) H
theorem pg_of {Y : Cx} {sc' : Scope} (C : TgC Y tb sc') {tgE : Expr} {tg : Tg} (h : toTg tb sc' tgE = some tg) : PG Y tgE (gOf Y.K tg) := by
  unfold toTg at h
  split at h
  · split at h
    · rename_i y pos hl
      cases e : slotOf tb.N y with
      | none => rw [e] at h; cases h
      | some i => rw [e] at h; cases h; exact pg_nm' C hl e
    · cases h
  · rename_i es x1 pos
    cases e : toNms tb sc' es with
    | none => rw [e] at h; cases h
    | some is =>
      rw [e] at h; cases h
      obtain ⟨p1, p2, p3⟩ := pgs_nms' C e
      exact pg_tup C.calm p1 p2 p3
  · cases h
/-! the slots of a block -/
theorem wipe_get (σ : St) (vs : List Nat) (j : Nat) (h : j ∉ vs) : (wipe σ vs)[j]? = σ[j]? := by
  induction vs with
  | nil => rfl
  | cons v vs ih =>
    unfold wipe
    rw [List.getElem?_set_ne (fun e => h (by rw [e]; exact List.mem_cons_self))]
    exact ih fun z => h (List.mem_cons_of_mem _ z)
theorem wipe_in (σ : St) (vs : List Nat) (j : Nat) (h : j ∈ vs) (hl : j < σ.length) : (wipe σ vs)[j]? = some none := by
  induction vs with
  | nil => cases h
  | cons v vs ih =>
    unfold wipe
    by_cases e : v = j
    · subst e; rw [List.getElem?_set_self (by rw [wipe_length]; exact hl)]
    · rw [List.getElem?_set_ne e]
      rcases List.mem_cons.mp h with z | z
      · exact absurd z.symm e
      · exact ih z
theorem wipe_eq {σ τ : St} {vs : List Nat} (hl : σ.length = τ.length) (h : ∀ j, j ∉ vs → σ[j]? = τ[j]?) : wipe σ vs = wipe τ vs := by
  refine List.ext_getElem? fun j => ?_
  by_cases hj : j ∈ vs
  · by_cases hlt : j < σ.length
    · rw [wipe_in σ vs j hj hlt, wipe_in τ vs j hj (by omega)]
    · rw [List.getElem?_eq_none (by rw [wipe_length]; omega), List.getElem?_eq_none (by rw [wipe_length]; omega)]
  · rw [wipe_get σ vs j hj, wipe_get τ vs j hj, h j hj]
theorem wipeE_len (vs : List Nat) (env : Env) : (wipeE vs env).length = env.length := by
  induction vs with
  | nil => rfl
  | cons v vs ih => show ((wipeE vs env).set v none).length = _; rw [List.length_set, ih]
theorem wipeE_some {env : Env} {i : Nat} {g : G} : ∀ {vs : List Nat}, (wipeE vs env)[i]? = some (some g) → env[i]? = some (some g) ∧ i ∉ vs
  | [], h => ⟨h, by simp⟩
  | v :: vs, h => by
    have h : ((wipeE vs env).set v none)[i]? = some (some g) := h
    by_cases hi : v = i
    · subst hi
      by_cases hv : v < (wipeE vs env).length
      · rw [List.getElem?_set_self hv] at h; cases h
      · rw [List.getElem?_eq_none (by simpa using hv)] at h; cases h
    · rw [List.getElem?_set_ne hi] at h
      obtain ⟨h1, h2⟩ := wipeE_some h
      exact ⟨h1, by simp only [List.mem_cons, not_or]; exact ⟨fun e => hi e.symm, h2⟩⟩
theorem PV.wipe {HP Hs : Hp} {env : Env} {σ : St} (pv : PV cA HP Hs env σ) (vs : List Nat) : PV cA HP Hs (wipeE vs env) (L2.wipe σ vs) := ⟨fun i g e => by
  obtain ⟨e1, e2⟩ := wipeE_some e
  obtain ⟨v, h1, h2⟩ := pv.get i g e1
  exact ⟨v, by rw [wipe_get σ vs i e2]; exact h1, h2⟩, by rw [wipeE_len, wipe_length, pv.len]⟩
theorem PV.set {HP Hs : Hp} {env : Env} {σ : St} (pv : PV cA HP Hs env σ) {i : Nat} {t : T} {v : V} (r : RT cA HP t v) : PV cA HP Hs (env.set i (some (.val t))) (σ.set i (some v)) := ⟨fun j g e => by
  by_cases h : i = j
  · subst h
    by_cases hl : i < env.length
    · rw [List.getElem?_set_self hl] at e
      cases e
      exact ⟨v, List.getElem?_set_self (by rw [← pv.len]; exact hl), r, rfl⟩
    · rw [List.getElem?_eq_none (by simpa using hl)] at e; cases e
  · rw [List.getElem?_set_ne h] at e
    obtain ⟨w, h1, h2⟩ := pv.get j g e
    exact ⟨w, by rw [List.getElem?_set_ne h]; exact h1, h2⟩, by rw [List.length_set, List.length_set, pv.len]⟩
theorem PV.setAll {HP Hs : Hp} : ∀ {is : List Nat} {ts : List T} {vs : List V} {env env1 : Env} {σ : St}, PV cA HP Hs env σ → RTs cA HP ts vs → setAll is ts env = some env1 → PV cA HP Hs env1 (setVs is vs σ)
  | [], [], _, _, _, _, pv, _, e => by cases e; exact pv
  | [], _ :: _, _, _, _, _, _, _, e => by cases e
  | _ :: _, [], _, _, _, _, _, _, e => by cases e
  | i :: is, t :: ts, _, env, env1, σ, pv, ⟨v, r, h1, h2, h3⟩, e => by
    subst h1
    exact PV.setAll (is := is) (ts := ts) (vs := r) (pv.set h2) h3 e
theorem setVs_out : ∀ {is : List Nat} {vs : List V} {σ : St} (j : Nat), j ∉ is → (setVs is vs σ)[j]? = σ[j]?
  | [], _, _, _, _ => rfl
  | i :: is, [], _, _, _ => rfl
  | i :: is, v :: vs, σ, j, h => by
    show (setVs is vs (σ.set i (some v)))[j]? = _
    rw [setVs_out j fun z => h (List.mem_cons_of_mem _ z), List.getElem?_set_ne fun e => h (by rw [e]; exact List.mem_cons_self)]
theorem setVs_len : ∀ {is : List Nat} {vs : List V} {σ : St}, (setVs is vs σ).length = σ.length
  | [], _, _ => rfl
  | i :: is, [], _ => rfl
  | i :: is, v :: vs, σ => by show (setVs is vs (σ.set i (some v))).length = _; rw [setVs_len, List.length_set]
theorem tgE_ok {K : PySem.W.Frag} {HP Hs H : Hp} {tg : Tg} {t : T} {x : V} {env env1 : Env} {σ : St} (pv : PV cA HP Hs env σ) (rt : RT cA HP t x) (hp : Ex HP H) (ht : tgSet [] 0 tg t env = some env1) {Q : St → Hp → Prop}
    (q : ∀ σ1, PV cA HP Hs env1 σ1 → L2.wipe σ1 (tgIs tg) = L2.wipe σ (tgIs tg) → Q σ1 H) : gOf K tg x σ H Q := by
  cases tg with
  | nm i =>
    simp only [tgSet] at ht
    split at ht
    · cases ht
      exact q _ (pv.set rt) (wipe_eq (List.length_set ..) fun j hj => List.getElem?_set_ne fun e => hj (by rw [e]; exact List.mem_cons_self))
    · cases ht
  | pr is =>
    have ht' : ∃ ts, t = .nod .tup ts := by
      cases t with
      | nod k ts => cases k <;> first | exact ⟨ts, rfl⟩ | (simp [tgSet] at ht)
      | _ => simp [tgSet] at ht
    obtain ⟨ts, rfl⟩ := ht'
    simp only [tgSet] at ht
    split at ht
    · rename_i hi
      obtain ⟨a, vs, rfl, ha, hr⟩ := rt
      exact ⟨a, vs, rfl, .inl (hp.rd ha), by rw [← hr.len]; exact hi.2, by rw [← hr.len]; exact hi.2, q _ (pv.setAll hr ht) (wipe_eq setVs_len fun j hj => setVs_out j hj)⟩
    · cases ht
end
end Bv
set_option maxRecDepth 100000
set_option maxHeartbeats 2000000
namespace Bv
open PySem L2
section
variable [TC] {X : Cx} {CX : CXT} {XE : XK} {tb : Tb} {sc : Scope} {Φ : Fns} {gl : Str → Option T} {cA : CA}
/-- a block's context -/
abbrev Xb (X : Cx) (scope : Scope) (s : Shared) (H : Hp) (Ca : Addr) (cl : List (Str × Addr)) (fp : List Addr) : Cx := X.blk s H scope (compEnvC scope cl Ca X.env) fp
theorem Ctx.blk (C : Ctx X CX XE tb sc Φ gl cA) (scope : Scope) (s : Shared) (H : Hp) (Ca : Addr) (cl : List (Str × Addr)) (fp : List Addr) : Ctx (Xb X scope s H Ca cl fp) CX XE tb (relS scope sc) Φ gl cA where
  scp := by show relS scope X.env.scope = _; rw [C.scp]
  nm := C.nm
  nd := C.nd
  calm := C.calm
  un := C.un
  fn := C.fn
  ps := C.ps
  kK := C.kK
  bl := C.bl
  gv := C.gv
  cv := C.cv
  mt := C.mt
  mi := C.mi
  fl := C.fl
  su := C.su
  xv := C.xv
  xc := C.xc
  xs := C.xs
  xi := C.xi
  hd := C.hd
  xi2 := C.xi2
  xk := C.xk
theorem TgC.blk (C : Ctx X CX XE tb sc Φ gl cA) (scope : Scope) (s : Shared) (H : Hp) (Ca : Addr) (cl : List (Str × Addr)) (fp : List Addr) : TgC (Xb X scope s H Ca cl fp) tb scope where
  nd := C.nd
  nm := C.nm
  calm := C.calm
  lc := fun x h => by
    rcases loc_of h with z | z
    · have k := lookup_relS_keep (sc := X.env.scope) (k := .local) (by decide) z
      exact ⟨.inl k, .inr k⟩
    · have k := lookup_relS_keep (sc := X.env.scope) (k := .cell) (by decide) z
      refine ⟨.inr k, .inl ?_⟩
      show (scope.names.lookup x == some .cell) = true
      rw [z]; rfl
def bE (X : Cx) (scope : Scope) (elt : Expr) : TE := fun σ H Q => ∀ s0 H0 Ca cl fp, wpE (Xb X scope s0 H0 Ca cl fp) elt σ H Q
theorem bE_ok (scope : Scope) (elt : Expr) (s : Shared) (H : Hp) (Ca : Addr) (cl : List (Str × Addr)) (fp : List Addr) : PE (Xb X scope s H Ca cl fp) elt (bE X scope elt) :=
  ⟨fun pins s' σ H' Q I h => peE.run pins s' σ H' Q I (h s H Ca cl fp)⟩
def bT (X : Cx) (scope : Scope) : List Expr → TT
  | [] => tYes
  | c :: _ => fun σ H Q => ∀ s0 H0 Ca cl fp, wpT (Xb X scope s0 H0 Ca cl fp) c σ H Q
theorem bT_ok (scope : Scope) {ifs : List Expr} (hl : ifs.length ≤ 1) (s : Shared) (H : Hp) (Ca : Addr) (cl : List (Str × Addr)) (fp : List Addr) : PTs (Xb X scope s H Ca cl fp) ifs (bT X scope ifs) := by
  match ifs, hl with
  | [], _ => exact pts_nil
  | [c], _ => exact pts_one ⟨fun pins s' σ H' Q I h => ptT.run pins s' σ H' Q I (h s H Ca cl fp)⟩
  | _ :: _ :: _, h => simp at h
/-- the word of a comprehension's turns -/
def LcI (cA : CA) (HP1 Hs H1 : Hp) (D : Addr) (Q : VK) (R : Nat → Res (List G)) (i : Nat) (H : Hp) : Prop :=
  ∃ HP gs vs O, H D = some (.lst vs) ∧ RGs cA HP Hs H gs vs O ∧ O.Nodup ∧ (∀ p ∈ O, H1 p = none ∧ HP p = none ∧ p ≠ D) ∧ Step HP1 H1 HP H ∧ HP D = none ∧ gs.length ≤ i ∧
    WpR cA ((R i).bind fun rs => .ok (.nod true .lst (gs ++ rs))) HP1 Hs H1 Q
theorem RGs.app1 {HP Hs H : Hp} : ∀ {gs : List G} {vs : List V} {O Oy : List Addr} {g : G} {y : V}, RGs cA HP Hs H gs vs O → RG cA HP Hs H g y Oy → RGs cA HP Hs H (gs ++ [g]) (vs ++ [y]) (O ++ Oy)
  | [], _, _, Oy, g, y, h, k => by
    obtain ⟨rfl, rfl⟩ := h
    exact ⟨y, [], Oy, [], rfl, k, ⟨rfl, rfl⟩, by simp⟩
  | _ :: _, _, _, Oy, g, y, ⟨v, r, O1, O2, h1, h2, h3, h4⟩, k => by
    subst h1 h4
    exact ⟨v, r ++ [y], O1, O2 ++ Oy, rfl, h2, RGs.app1 h3 k, by rw [List.append_assoc]⟩
theorem RGs.updD {HP Hs H : Hp} {p : Addr} {o : HO} {gs : List G} {vs : List V} {O : List Addr} (n : p ∉ O) (h : RGs cA HP Hs H gs vs O) : RGs cA HP Hs (upd H p o) gs vs O := by
  have main : ∀ (g : G) (v : V) (O : List Addr), p ∉ O → RG cA HP Hs H g v O → RG cA HP Hs (upd H p o) g v O := by
    intro g
    induction g using G.rec (motive_2 := fun gs => ∀ (vs : List V) (O : List Addr), p ∉ O → RGs cA HP Hs H gs vs O → RGs cA HP Hs (upd H p o) gs vs O) with
    | val t => intro v O _ h; exact h
    | nod b k gs ih =>
      intro v O n h
      cases b with
      | true =>
        obtain ⟨q, vs, O', h1, h2, h3, h4⟩ := h
        subst h4
        have ne : q ≠ p := fun e => n (by rw [e]; exact List.mem_cons_self)
        refine ⟨q, vs, O', h1, ?_, ih _ _ (fun z => n (List.mem_cons_of_mem _ z)) h3, rfl⟩
        cases k with
        | tup => exact (upd_ne ne).trans h2
        | lst => exact (upd_ne ne).trans h2
        | dct ks => obtain ⟨o, h1, h2⟩ := h2; exact ⟨o, h1, (upd_ne ne).trans h2⟩
        | ins C ns => obtain ⟨h1, dx, h2⟩ := h2; exact ⟨h1, dx, (upd_ne ne).trans h2⟩
      | false =>
        obtain ⟨q, vs, h1, h2, h3⟩ := h
        exact ⟨q, vs, h1, h2, ih _ _ n h3⟩
    | nil => rename_i h; exact h
    | cons g gs ih1 ih2 =>
      rename_i vs O n h
      obtain ⟨v, r, O1, O2, h1, h2, h3, h4⟩ := h
      subst h4
      exact ⟨v, r, O1, O2, h1, ih1 _ _ (fun z => n (List.mem_append_left _ z)) h2, ih2 _ _ (fun z => n (List.mem_append_right _ z)) h3, rfl⟩
  induction gs generalizing vs O with
  | nil => exact h
  | cons g gs ih =>
    obtain ⟨v, r, O1, O2, h1, h2, h3, h4⟩ := h
    subst h4
    exact ⟨v, r, O1, O2, h1, main _ _ _ (fun z => n (List.mem_append_left _ z)) h2, ih (fun z => n (List.mem_append_right _ z)) h3, rfl⟩
section
variable [TC] {HP1 Hs H1 : Hp} {D : Addr} {Q : VK} {tg : Tg} {cs : List E} {e : E} {envw : Env} {ts : List T}
theorem lcI_0 (hp : Ex HP1 H1) (hD : H1 D = none) {R : Nat → Res (List G)} (w : WpR cA ((R 0).bind fun rs => .ok (.nod true .lst rs)) HP1 Hs H1 Q) : LcI cA HP1 Hs H1 D Q R 0 (upd H1 D (.lst [])) :=
  ⟨HP1, [], [], [], upd_same, ⟨rfl, rfl⟩, List.nodup_nil, (fun _ z => nomatch z), Step.own hp hD, hp.none hD, Nat.le_refl _, w⟩
theorem lcI_end (hD : H1 D = none) {R : Nat → Res (List G)} {n : Nat} (hR : R n = .ok []) {H : Hp} (h : LcI cA HP1 Hs H1 D Q R n H) : Q (.ref D) H := by
  obtain ⟨HP, gs, vs, O, h1, h2, h3, h4, h5, h6, _, w⟩ := h
  rw [hR] at w
  have w : WpR cA (.ok (.nod true .lst (gs ++ []))) HP1 Hs H1 Q := w
  rw [List.append_nil] at w
  refine w (.ref D) HP H (D :: O) ⟨D, vs, O, rfl, h1, h2, rfl⟩ (List.nodup_cons.mpr ⟨fun z => (h4 D z).2.2 rfl, h3⟩) (fun p hp => ?_) h5
  rcases List.mem_cons.mp hp with rfl | hp
  · exact ⟨hD, h6⟩
  · exact ⟨(h4 p hp).1, (h4 p hp).2.1⟩
theorem lcI_step {scope : Scope} {ifs : List Expr} {elt : Expr} (hl : ifs.length ≤ 1) (Sc : ∀ s0 H0 Ca cl fp, ∀ (i : Nat) (c : Expr) (ec : E), ifs[i]? = some c → cs[i]? = some ec → SndT (Xb X scope s0 H0 Ca cl fp) Φ gl cA c ec) (hcs : ifs.length = cs.length)
    (Se : ∀ s0 H0 Ca cl fp, SndE (Xb X scope s0 H0 Ca cl fp) Φ gl cA elt e) (hD : H1 D = none) (hs1 : Eh Hs H1) {σ : St} (pv : PV cA HP1 Hs envw (L2.wipe σ (tgIs tg))) (hts : ts.length ≤ sizeLine)
    {i : Nat} {t : T} (hi : ts[i]? = some t) {H H' : Hp} {x : V}
    (h : LcI cA HP1 Hs H1 D Q (fun j => lcT (tgSet [] 0 tg) (fun env1 => evAnd Φ gl env1 cs) (fun env1 => ev Φ gl env1 e) envw (ts.drop j)) i H)
    (hx : ∀ HP, Step HP1 H1 HP H → ∃ HP', Step HP H HP' H' ∧ RT cA HP' t x) :
    gOf X.K tg x (L2.wipe σ (tgIs tg)) H' fun σ2 H2 => L2.wipe σ2 (tgIs tg) = L2.wipe σ (tgIs tg) ∧ bT X scope ifs σ2 H2 fun b H3 =>
      if b = true then bE X scope elt σ2 H3 fun y H4 => ∃ acc, H4 D = some (.lst acc) ∧ acc.length < sizeLine ∧ LcI cA HP1 Hs H1 D Q (fun j => lcT (tgSet [] 0 tg) (fun env1 => evAnd Φ gl env1 cs) (fun env1 => ev Φ gl env1 e) envw (ts.drop j)) (i + 1) (upd H4 D (.lst (acc ++ [y])))
      else LcI cA HP1 Hs H1 D Q (fun j => lcT (tgSet [] 0 tg) (fun env1 => evAnd Φ gl env1 cs) (fun env1 => ev Φ gl env1 e) envw (ts.drop j)) (i + 1) H3 := by
  obtain ⟨HP, gs, vs, O, h1, h2, h3, h4, h5, h6, h7, w⟩ := h
  obtain ⟨HP', st', rt⟩ := hx HP h5
  have hlt : i < ts.length := (List.getElem?_eq_some_iff.mp hi).1
  have hd : ts.drop i = t :: ts.drop (i + 1) := by
    obtain ⟨a, b⟩ := List.getElem?_eq_some_iff.mp hi
    rw [List.drop_eq_getElem_cons a, b]
  simp only [hd] at w
  unfold lcT at w
  cases q : tgSet [] 0 tg t envw with
  | none => rw [q] at w; exact w.elim
  | some env1 =>
    rw [q] at w
    simp only at w
    have pv' : PV cA HP' Hs envw (L2.wipe σ (tgIs tg)) := (pv.mono h5.exP).mono st'.exP
    refine tgE_ok pv' rt st'.sees q fun σ1 pv1 e1 => ⟨e1.trans (wipe_eq (wipe_length ..) fun j hj => wipe_get _ _ j hj), ?_⟩
    -- what stands on, whatever the tests do
    have keep : ∀ {HP2 H2 : Hp}, Step HP H HP2 H2 → H2 D = some (.lst vs) ∧ RGs cA HP2 Hs H2 gs vs O ∧ (∀ p ∈ O, H1 p = none ∧ HP2 p = none ∧ p ≠ D) ∧ Step HP1 H1 HP2 H2 ∧ HP2 D = none := fun {HP2 H2} st => by
      have kn : ∀ p, HP p = none → (∃ u, H p = some u) → HP2 p = none := fun p a ⟨u, b⟩ => by
        cases z : HP2 p with
        | none => rfl
        | some o =>
          rcases st.new p (by rw [z]; simp) with y | y
          · exact absurd a y
          · rw [b] at y; cases y
      exact ⟨st.ex.k D _ nt_lst h1, h2.mono st.exP (Ex.refl _) st.ex, fun p hp => ⟨(h4 p hp).1, kn p (h4 p hp).2.1 (h2.ownIn p hp), (h4 p hp).2.2⟩, h5.trans st, kn D h6 ⟨_, h1⟩⟩
    have hs' : ∀ {HP2 H2 : Hp}, Step HP H HP2 H2 → Eh Hs H2 := fun st => (hs1.step h5).step st
    -- behind the test
    have fin : ∀ (b : Bool) (HP2 H2 : Hp), Step HP H HP2 H2 → Ex HP' HP2 → evAnd Φ gl env1 cs = .ok b → (if b = true then bE X scope elt σ1 H2 fun y H4 => ∃ acc, H4 D = some (.lst acc) ∧ acc.length < sizeLine ∧ LcI cA HP1 Hs H1 D Q (fun j => lcT (tgSet [] 0 tg) (fun env1 => evAnd Φ gl env1 cs) (fun env1 => ev Φ gl env1 e) envw (ts.drop j)) (i + 1) (upd H4 D (.lst (acc ++ [y])))
        else LcI cA HP1 Hs H1 D Q (fun j => lcT (tgSet [] 0 tg) (fun env1 => evAnd Φ gl env1 cs) (fun env1 => ev Φ gl env1 e) envw (ts.drop j)) (i + 1) H2) := by
      intro b HP2 H2 st2 e2 eb
      rw [eb] at w
      cases b with
      | false =>
        obtain ⟨k1, k2, k3, k4, k5⟩ := keep st2
        rw [if_neg (by decide)]
        exact ⟨HP2, gs, vs, O, k1, k2, h3, k3, k4, k5, Nat.le_succ_of_le h7, w⟩
      | true =>
        rw [if_pos rfl]
        intro s0 H0 Ca cl fp
        have w : WpR cA (((ev Φ gl env1 e).bind fun g => if g.free then (lcT (tgSet [] 0 tg) (fun env1 => evAnd Φ gl env1 cs) (fun env1 => ev Φ gl env1 e) envw (ts.drop (i + 1))).bind fun gs => .ok (g :: gs) else .stk).bind fun rs => .ok (.nod true .lst (gs ++ rs))) HP1 Hs H1 Q := w
        refine Se s0 H0 Ca cl fp env1 σ1 HP2 Hs H2 _ (pv1.mono e2) (hs' st2) st2.sees ?_
        cases qe : ev Φ gl env1 e with
        | exc x => rw [qe] at w; exact w.elim
        | stk => rw [qe] at w; exact w.elim
        | ok g =>
          rw [qe] at w
          simp only [Res.bind] at w
          intro y HP3 H3 Oy rg nd fr st3
          have st := st2.trans st3
          obtain ⟨k1, k2, k3, k4, k5⟩ := keep st
          by_cases hf : g.free = true
          · rw [if_pos hf] at w
            refine ⟨vs, k1, by rw [← h2.len]; omega, ?_⟩
            have dO : D ∉ O := fun z => (h4 D z).2.2 rfl
            have dOy : D ∉ Oy := fun z => by
              have := (fr D z).1
              rw [(keep st2).1] at this; cases this
            refine ⟨HP3, gs ++ [g], vs ++ [y], O ++ Oy, upd_same, RGs.updD (fun z => (List.mem_append.mp z).elim dO dOy) (k2.app1 rg), List.nodup_append.mpr ⟨h3, nd, fun a ha b hb eab => ?_⟩, fun p hp => ?_, ?_, k5, by rw [List.length_append]; simp; omega, ?_⟩
            · subst eab
              obtain ⟨u, hu⟩ := (keep st2).2.1.ownIn a ha
              rw [(fr a hb).1] at hu; cases hu
            · rcases List.mem_append.mp hp with z | z
              · exact k3 p z
              · exact ⟨(keep st2).2.2.2.1.ex.none (fr p z).1, (fr p z).2, fun z2 => dOy (by rw [← z2]; exact z)⟩
            · exact ⟨k4.ex.updR hD, fun z => tbs_lst k1 (k4.tb z), k4.exP, k4.new, k4.sees.updR k5⟩
            · cases qr : lcT (tgSet [] 0 tg) (fun env1 => evAnd Φ gl env1 cs) (fun env1 => ev Φ gl env1 e) envw (ts.drop (i + 1)) with
              | exc x => simp only [qr] at w; exact w.elim
              | stk => simp only [qr] at w; exact w.elim
              | ok rs =>
                simp only [qr] at w
                simp only [qr, Res.bind]
                rw [List.append_assoc]
                exact w
          · rw [if_neg hf] at w; exact w.elim
    match ifs, cs, hl, hcs with
    | [], [], _, _ => exact fin true HP' H' st' (Ex.refl _) (by unfold evAnd; rfl)
    | [c], [ec], _, _ =>
      intro s0 H0 Ca cl fp
      refine Sc s0 H0 Ca cl fp 0 c ec rfl rfl env1 σ1 HP' Hs H' _ pv1 (hs' st') st'.sees ?_
      have ea : ∀ r : Res G, ev Φ gl env1 ec = r → evAnd Φ gl env1 [ec] = r.bind fun g => (asBool g).bind fun b => if b = true then .ok true else .ok false := fun r hr => by
        unfold evAnd evAnd
        rw [hr]
      unfold evB
      have ea := ea _ rfl
      cases qc : ev Φ gl env1 ec with
      | exc x => rw [ea, qc] at w; exact w.elim
      | stk => rw [ea, qc] at w; exact w.elim
      | ok g =>
        rw [qc] at ea
        simp only [Res.bind] at ea ⊢
        cases qb : asBool g with
        | exc x => rw [qb] at ea; rw [ea] at w; exact w.elim
        | stk => rw [qb] at ea; rw [ea] at w; exact w.elim
        | ok b =>
          rw [qb] at ea
          have ea : evAnd Φ gl env1 [ec] = .ok b := by rw [ea]; cases b <;> rfl
          exact fun HP2 H2 st2 => fin b HP2 H2 (st'.trans st2) st2.exP ea
    | [], _ :: _, _, z => cases z
    | _ :: _, [], _, z => cases z
    | [_], _ :: _ :: _, _, z => cases z
    | _ :: _ :: _, _, z, _ => simp at z
end
theorem toE_fold {n : Nat} {e : Expr} {a : E} (h : toE tb sc n e = some a) (env : PySem.Env) (x : Value) : foldedSetIterable e env x = pure x := by
  cases n with
  | zero => cases h
  | succ n => cases e <;> first | rfl | (simp [toE] at h)
/-- the turns, as they are asked for -/
abbrev Wlc (X : Cx) (J : It) (tg : Tg) (tt : TT) (te : TE) (σ : St) (H1 : Hp) (D : Addr) (Q : VK) : Prop := ∃ W : Nat → Nat → Hp → Prop, (∃ m, W 0 m (upd H1 D (.lst []))) ∧ ∀ i m H, W i m H →
  (J.stop i H ∧ Q (.ref D) H) ∨ (J.go i H ∧ ∃ Nx : Hp → Prop, (∀ H', Nx H' → ∃ m', m' < m ∧ W (i + 1) m' H') ∧ ∀ x H', J.yld i H x H' → gOf X.K tg x (L2.wipe σ (tgIs tg)) H' fun σ2 H2 => L2.wipe σ2 (tgIs tg) = L2.wipe σ (tgIs tg) ∧ tt σ2 H2 fun b H3 =>
    if b = true then te σ2 H3 fun y H4 => ∃ acc, H4 D = some (.lst acc) ∧ acc.length < sizeLine ∧ Nx (upd H4 D (.lst (acc ++ [y]))) else Nx H3)
theorem SqL.ex {K : PySem.W.Frag} {H H' : Hp} {p : Addr} {xs : List V} (e : Ex H H') (h : SqL K H p xs) : SqL K H' p xs := h.imp e.rd id
theorem RTs.at' {HP : Hp} {ts : List T} {xs : List V} {i : Nat} {x : V} (r : RTs cA HP ts xs) (h : xs[i]? = some x) : ∃ t, ts[i]? = some t ∧ RT cA HP t x := by
  have hl : i < ts.length := by rw [r.len]; exact (List.getElem?_eq_some_iff.mp h).1
  obtain ⟨v, e1, e2⟩ := r.get (List.getElem?_eq_getElem hl)
  rw [h] at e1; cases e1
  exact ⟨_, List.getElem?_eq_getElem hl, e2⟩
section
variable [TC] {HP1 Hs H1 : Hp} {D : Addr} {Q : VK} {tg : Tg} {ts : List T} {tt : TT} {te : TE} {σ : St} {R : Nat → Res (List G)}
variable (h0 : LcI cA HP1 Hs H1 D Q R 0 (upd H1 D (.lst [])))
  (hstep : ∀ (i : Nat) (t : T) (x : V) (H H' : Hp), ts[i]? = some t → LcI cA HP1 Hs H1 D Q R i H → (∀ HP, Step HP1 H1 HP H → ∃ HP', Step HP H HP' H' ∧ RT cA HP' t x) → gOf X.K tg x (L2.wipe σ (tgIs tg)) H' fun σ2 H2 => L2.wipe σ2 (tgIs tg) = L2.wipe σ (tgIs tg) ∧ tt σ2 H2 fun b H3 =>
    if b = true then te σ2 H3 fun y H4 => ∃ acc, H4 D = some (.lst acc) ∧ acc.length < sizeLine ∧ LcI cA HP1 Hs H1 D Q R (i + 1) (upd H4 D (.lst (acc ++ [y]))) else LcI cA HP1 Hs H1 D Q R (i + 1) H3)
  (hend : ∀ (n : Nat) (H : Hp), ts.length ≤ n → LcI cA HP1 Hs H1 D Q R n H → Q (.ref D) H)
theorem LcI.step {i : Nat} {H : Hp} (h : LcI cA HP1 Hs H1 D Q R i H) : ∃ HP, Step HP1 H1 HP H := by
  obtain ⟨HP, gs, vs, O, h1, h2, h3, h4, h5, _⟩ := h
  exact ⟨HP, h5⟩
include h0 hstep hend
theorem lcW_lst {p : Addr} {xs : List V} (hp : SqL X.K H1 p xs) (hr : RTs cA HP1 ts xs) : Wlc X (Itl X.K p) tg tt te σ H1 D Q :=
  lc_list (Qd := fun H => Q (.ref D) H) (LcI cA HP1 Hs H1 D Q R) h0 (fun i H _ h => by obtain ⟨HP, st⟩ := h.step; exact SqL.ex st.ex hp) (fun i x H hx h => by
    obtain ⟨t, ht, rt⟩ := hr.at' hx
    exact hstep i t x H H ht h fun HP st => ⟨HP, Step.refl st.sees, rt.mono st.exP⟩) (fun H h => hend _ H (Nat.le_of_eq hr.len) h)
theorem lcW_tup {p : Addr} {xs : List V} (hp : SqT X.K H1 p xs) (hr : RTs cA HP1 ts xs) : Wlc X (Itt X.K p) tg tt te σ H1 D Q :=
  lc_tup (Qd := fun H => Q (.ref D) H) (LcI cA HP1 Hs H1 D Q R) h0 (fun i H _ h => by obtain ⟨HP, st⟩ := h.step; exact hp.imp st.ex.rd id) (fun i x H hx h => by
    obtain ⟨t, ht, rt⟩ := hr.at' hx
    exact hstep i t x H H ht h fun HP st => ⟨HP, Step.refl st.sees, rt.mono st.exP⟩) (fun H h => hend _ H (Nat.le_of_eq hr.len) h)
end
section
variable [TC] {HP1 Hs H1 : Hp} {D : Addr} {Q : VK} {tg : Tg} {tt : TT} {te : TE} {σ : St} {R : Nat → Res (List G)}
theorem lcW_rng {lo : Int} {n : Nat} (h0 : LcI cA HP1 Hs H1 D Q R 0 (upd H1 D (.lst [])))
  (hstep : ∀ (i : Nat) (t : T) (x : V) (H H' : Hp), (rngT lo n)[i]? = some t → LcI cA HP1 Hs H1 D Q R i H → (∀ HP, Step HP1 H1 HP H → ∃ HP', Step HP H HP' H' ∧ RT cA HP' t x) → gOf X.K tg x (L2.wipe σ (tgIs tg)) H' fun σ2 H2 => L2.wipe σ2 (tgIs tg) = L2.wipe σ (tgIs tg) ∧ tt σ2 H2 fun b H3 =>
    if b = true then te σ2 H3 fun y H4 => ∃ acc, H4 D = some (.lst acc) ∧ acc.length < sizeLine ∧ LcI cA HP1 Hs H1 D Q R (i + 1) (upd H4 D (.lst (acc ++ [y]))) else LcI cA HP1 Hs H1 D Q R (i + 1) H3)
  (hend : ∀ (m : Nat) (H : Hp), (rngT lo n).length ≤ m → LcI cA HP1 Hs H1 D Q R m H → Q (.ref D) H) : Wlc X (Itr lo n) tg tt te σ H1 D Q :=
  lc_range (Qd := fun H => Q (.ref D) H) (LcI cA HP1 Hs H1 D Q R) h0 (fun i H hi h =>
    hstep i (.int (lo + i)) (.int (lo + i)) H H (by unfold rngT; rw [List.getElem?_map, List.getElem?_range hi]; rfl) h fun HP st => ⟨HP, Step.refl st.sees, rfl⟩) (fun H h => hend _ H (by unfold rngT; rw [List.length_map, List.length_range]; exact Nat.le_refl _) h)
theorem lcW_str {z : Str} (h0 : LcI cA HP1 Hs H1 D Q R 0 (upd H1 D (.lst [])))
  (hstep : ∀ (i : Nat) (t : T) (x : V) (H H' : Hp), (strItems z)[i]? = some t → LcI cA HP1 Hs H1 D Q R i H → (∀ HP, Step HP1 H1 HP H → ∃ HP', Step HP H HP' H' ∧ RT cA HP' t x) → gOf X.K tg x (L2.wipe σ (tgIs tg)) H' fun σ2 H2 => L2.wipe σ2 (tgIs tg) = L2.wipe σ (tgIs tg) ∧ tt σ2 H2 fun b H3 =>
    if b = true then te σ2 H3 fun y H4 => ∃ acc, H4 D = some (.lst acc) ∧ acc.length < sizeLine ∧ LcI cA HP1 Hs H1 D Q R (i + 1) (upd H4 D (.lst (acc ++ [y]))) else LcI cA HP1 Hs H1 D Q R (i + 1) H3)
  (hend : ∀ (m : Nat) (H : Hp), (strItems z).length ≤ m → LcI cA HP1 Hs H1 D Q R m H → Q (.ref D) H) : Wlc X (Its z) tg tt te σ H1 D Q := by
  refine ⟨fun i m H => m = z.cps.size - i ∧ i ≤ z.cps.size ∧ LcI cA HP1 Hs H1 D Q R i H, ⟨z.cps.size, by simp, Nat.zero_le _, h0⟩, ?_⟩
  rintro i m H ⟨rfl, hi, p⟩
  by_cases hlt : i < z.cps.size
  · refine .inr ⟨hlt, LcI cA HP1 Hs H1 D Q R (i + 1), fun H' p' => ⟨z.cps.size - (i + 1), by omega, rfl, hlt, p'⟩, fun x H' y => ?_⟩
    obtain ⟨rfl, c, hc, rfl⟩ := y
    refine hstep i (.str ⟨#[c]⟩) _ H' H' ?_ p fun HP st => ⟨HP, Step.refl st.sees, rfl⟩
    unfold strItems
    rw [List.getElem?_map, Array.getElem?_toList, hc]
    rfl
  · exact .inl ⟨by show z.cps.size ≤ i; omega, hend _ _ (by unfold strItems; rw [List.length_map, Array.length_toList]; omega) p⟩
theorem lcW_enm {p : Addr} {ts : List T} {xs : List V} (h0 : LcI cA HP1 Hs H1 D Q R 0 (upd H1 D (.lst [])))
  (hstep : ∀ (i : Nat) (t : T) (x : V) (H H' : Hp), (enmT ts)[i]? = some t → LcI cA HP1 Hs H1 D Q R i H → (∀ HP, Step HP1 H1 HP H → ∃ HP', Step HP H HP' H' ∧ RT cA HP' t x) → gOf X.K tg x (L2.wipe σ (tgIs tg)) H' fun σ2 H2 => L2.wipe σ2 (tgIs tg) = L2.wipe σ (tgIs tg) ∧ tt σ2 H2 fun b H3 =>
    if b = true then te σ2 H3 fun y H4 => ∃ acc, H4 D = some (.lst acc) ∧ acc.length < sizeLine ∧ LcI cA HP1 Hs H1 D Q R (i + 1) (upd H4 D (.lst (acc ++ [y]))) else LcI cA HP1 Hs H1 D Q R (i + 1) H3)
  (hend : ∀ (m : Nat) (H : Hp), (enmT ts).length ≤ m → LcI cA HP1 Hs H1 D Q R m H → Q (.ref D) H) (hp : SqL X.K H1 p xs) (hr : RTs cA HP1 ts xs) : Wlc X (Ite X.K p) tg tt te σ H1 D Q := by
  have len : (enmT ts).length = xs.length := by unfold enmT; rw [List.length_map, List.length_zipIdx, hr.len]
  refine ⟨fun i m H => m = xs.length - i ∧ i ≤ xs.length ∧ LcI cA HP1 Hs H1 D Q R i H, ⟨xs.length, by simp, Nat.zero_le _, h0⟩, ?_⟩
  rintro i m H ⟨rfl, hi, h⟩
  obtain ⟨HP0, st0⟩ := h.step
  have q := SqL.ex st0.ex hp
  by_cases hlt : i < xs.length
  · refine .inr ⟨⟨xs, xs[i], q, by simp [hlt]⟩, LcI cA HP1 Hs H1 D Q R (i + 1), fun H' p' => ⟨xs.length - (i + 1), by omega, rfl, hlt, p'⟩, fun v H2 y => ?_⟩
    obtain ⟨T, x, rfl, hT, rfl, hx⟩ := y
    obtain ⟨t, ht, rt⟩ := hr.at' (hx xs q)
    refine hstep i (.nod .tup [.int (i : Nat), t]) _ H _ ?_ h fun HP st => ?_
    · unfold enmT
      rw [List.getElem?_map, List.getElem?_zipIdx, ht]
      simp
    · have s2 : Step HP H (upd HP T (.tup [.int (i : Nat), x])) (upd H T (.tup [.int (i : Nat), x])) := Step.frz st.sees hT
      exact ⟨_, s2, T, [.int (i : Nat), x], rfl, .inl upd_same, .int (i : Nat), [x], rfl, rfl, x, [], rfl, (rt.mono st.exP).mono s2.exP, rfl⟩
  · exact .inl ⟨⟨xs, q, by omega⟩, hend _ _ (by rw [len]; omega) h⟩
theorem lcW_zip {p p2 : Addr} {ts us : List T} {xs ys : List V} (h0 : LcI cA HP1 Hs H1 D Q R 0 (upd H1 D (.lst [])))
  (hstep : ∀ (i : Nat) (t : T) (x : V) (H H' : Hp), (zipT ts us)[i]? = some t → LcI cA HP1 Hs H1 D Q R i H → (∀ HP, Step HP1 H1 HP H → ∃ HP', Step HP H HP' H' ∧ RT cA HP' t x) → gOf X.K tg x (L2.wipe σ (tgIs tg)) H' fun σ2 H2 => L2.wipe σ2 (tgIs tg) = L2.wipe σ (tgIs tg) ∧ tt σ2 H2 fun b H3 =>
    if b = true then te σ2 H3 fun y H4 => ∃ acc, H4 D = some (.lst acc) ∧ acc.length < sizeLine ∧ LcI cA HP1 Hs H1 D Q R (i + 1) (upd H4 D (.lst (acc ++ [y]))) else LcI cA HP1 Hs H1 D Q R (i + 1) H3)
  (hend : ∀ (m : Nat) (H : Hp), (zipT ts us).length ≤ m → LcI cA HP1 Hs H1 D Q R m H → Q (.ref D) H) (hp : SqL X.K H1 p xs) (hr : RTs cA HP1 ts xs) (hp2 : SqL X.K H1 p2 ys) (hr2 : RTs cA HP1 us ys) : Wlc X (Itz X.K p p2) tg tt te σ H1 D Q := by
  have len : (zipT ts us).length = min xs.length ys.length := by unfold zipT; rw [List.length_zipWith, hr.len, hr2.len]
  refine ⟨fun i m H => m = min xs.length ys.length - i ∧ i ≤ min xs.length ys.length ∧ LcI cA HP1 Hs H1 D Q R i H, ⟨min xs.length ys.length, by simp, Nat.zero_le _, h0⟩, ?_⟩
  rintro i m H ⟨rfl, hi, h⟩
  obtain ⟨HP0, st0⟩ := h.step
  have q := SqL.ex st0.ex hp
  have q2 := SqL.ex st0.ex hp2
  by_cases hlt : i < min xs.length ys.length
  · have l1 : i < xs.length := by omega
    have l2 : i < ys.length := by omega
    refine .inr ⟨⟨xs, ys, xs[i], ys[i], q, q2, by simp [l1], by simp [l2]⟩, LcI cA HP1 Hs H1 D Q R (i + 1), fun H' p' => ⟨min xs.length ys.length - (i + 1), by omega, rfl, hlt, p'⟩, fun v H2 y => ?_⟩
    obtain ⟨T, x, y, rfl, hT, rfl, hx, hy⟩ := y
    obtain ⟨t, ht, rt⟩ := hr.at' (hx xs q)
    obtain ⟨u, hu, ru⟩ := hr2.at' (hy ys q2)
    refine hstep i (.nod .tup [t, u]) _ H _ ?_ h fun HP st => ?_
    · unfold zipT
      rw [List.getElem?_zipWith, ht, hu]
    · have s2 : Step HP H (upd HP T (.tup [x, y])) (upd H T (.tup [x, y])) := Step.frz st.sees hT
      exact ⟨_, s2, T, [x, y], rfl, .inl upd_same, x, [y], rfl, (rt.mono st.exP).mono s2.exP, y, [], rfl, (ru.mono st.exP).mono s2.exP, rfl⟩
  · exact .inl ⟨⟨xs, ys, q, q2, by omega⟩, hend _ _ (by rw [len]; omega) h⟩
end
end
end Bv
set_option maxRecDepth 100000
set_option maxHeartbeats 2000000
/-! a comprehension, of any walk -/
namespace Bv
open PySem L2
section
variable [TC] {X : Cx} {CX : CXT} {XE : XK} {tb : Tb} {sc : Scope} {Φ : Fns} {gl : Str → Option T} {cA : CA}
theorem evs_one {env : Env} {a : E} : evs Φ gl env [a] = (ev Φ gl env a).bind fun g => .ok [g] := by
  unfold evs evs
  rfl
theorem evs_two {env : Env} {a b : E} : evs Φ gl env [a, b] = (ev Φ gl env a).bind fun g => (ev Φ gl env b).bind fun k => .ok [g, k] := by
  unfold evs evs evs
  cases ev Φ gl env a <;> cases ev Φ gl env b <;> rfl
theorem blt_of (C : Ctx X CX XE tb sc Φ gl cA) {x : Str} (h : builtinB tb sc x = true) : Gl X x ∧ X.mg x = none := by
  unfold builtinB at h
  simp only [Bool.and_eq_true] at h
  exact ⟨C.Gl h.1.1, C.bl x h.1.2⟩
theorem small_to {i : Int} (h : smallI i = true) : -(2 ^ 62) ≤ i ∧ i < 2 ^ 62 := by
  unfold smallI at h
  simp only [Bool.and_eq_true, decide_eq_true_eq] at h
  exact h
theorem RG.lstI {HP Hs H : Hp} {g : G} {v : V} {O : List Addr} (rg : RG cA HP Hs H g v O) (hp : Ex HP H) (hs : Ex Hs H) {ts : List T} (h : lstItems g = some ts) : ∃ p vs, v = .ref p ∧ SqL cA.K H p vs ∧ RTs cA HP ts vs := by
  unfold lstItems at h
  split at h
  · rename_i gs e
    obtain ⟨p, vs, O', rfl, h2, h3, _⟩ := rg.parts hp hs e
    exact ⟨p, vs, rfl, h2, (h3.vals h).1⟩
  · cases h
/-- what a comprehension asks, given -/
def LcW (X : Cx) (tgE iter : Expr) (tg : Tg) (tt : TT) (te : TE) (σ : St) (H : Hp) (Q : VK) : Prop := ∃ wi, PI X tgE iter wi ∧ (∀ x, foldedSetIterable iter X.env x = pure x) ∧ tLc wi (gOf X.K tg) tt te (tgIs tg) σ H Q
theorem lc_wish (C : Ctx X CX XE tb sc Φ gl cA) {n : Nat} {elt tgE iter : Expr} {ifs : List Expr} {scope : Scope} {tg : Tg} {k : IK} {as cs : List E} {e : E} (ht : toTg tb scope tgE = some tg) (hw : toWk tb sc (toE tb sc n) iter = some (k, as))
    (ihE : ∀ ex e, toE tb sc n ex = some e → SndE X Φ gl cA ex e) (htw : (isNm tg && tupW k) = false) (hl : ifs.length ≤ 1) (hcs : ifs.length = cs.length)
    (Sc : ∀ s0 H0 Ca cl fp, ∀ (i : Nat) (c : Expr) (ec : E), ifs[i]? = some c → cs[i]? = some ec → SndT (Xb X scope s0 H0 Ca cl fp) Φ gl cA c ec) (Se : ∀ s0 H0 Ca cl fp, SndE (Xb X scope s0 H0 Ca cl fp) Φ gl cA elt e)
    {env : Env} {σ : St} {HP Hs H : Hp} {Q : VK} (pv : PV cA HP Hs env σ) (hs : Eh Hs H) (hp : Ex HP H) (w : WpR cA (ev Φ gl env (.lc tg k as cs e)) HP Hs H Q) : LcW X tgE iter tg (bT X scope ifs) (bE X scope elt) σ H Q := by
  unfold ev at w
  -- the turns, from a walk's items
  have go : ∀ (ts : List T) (HP1 H1 : Hp), Step HP H HP1 H1 → ∀ D, H1 D = none →
      WpR cA (if ts.length ≤ sizeLine then (lcT (tgSet [] 0 tg) (fun env1 => evAnd Φ gl env1 cs) (fun env1 => ev Φ gl env1 e) (wipeE (tgIs tg) env) ts).bind fun rs => .ok (.nod true .lst rs) else .stk) HP1 Hs H1 Q →
      let R := fun j => lcT (tgSet [] 0 tg) (fun env1 => evAnd Φ gl env1 cs) (fun env1 => ev Φ gl env1 e) (wipeE (tgIs tg) env) (ts.drop j)
      LcI cA HP1 Hs H1 D Q R 0 (upd H1 D (.lst [])) ∧
      (∀ (i : Nat) (t : T) (x : V) (H H' : Hp), ts[i]? = some t → LcI cA HP1 Hs H1 D Q R i H → (∀ HP, Step HP1 H1 HP H → ∃ HP', Step HP H HP' H' ∧ RT cA HP' t x) → gOf X.K tg x (L2.wipe σ (tgIs tg)) H' fun σ2 H2 => L2.wipe σ2 (tgIs tg) = L2.wipe σ (tgIs tg) ∧ bT X scope ifs σ2 H2 fun b H3 =>
        if b = true then bE X scope elt σ2 H3 fun y H4 => ∃ acc, H4 D = some (.lst acc) ∧ acc.length < sizeLine ∧ LcI cA HP1 Hs H1 D Q R (i + 1) (upd H4 D (.lst (acc ++ [y]))) else LcI cA HP1 Hs H1 D Q R (i + 1) H3) ∧
      (∀ (m : Nat) (H : Hp), ts.length ≤ m → LcI cA HP1 Hs H1 D Q R m H → Q (.ref D) H) := by
    intro ts HP1 H1 st D hD w R
    by_cases hz : ts.length ≤ sizeLine
    · rw [if_pos hz] at w
      refine ⟨lcI_0 st.sees hD w, fun i t x H H' hi h hx => ?_, fun m H hm h => lcI_end hD (n := m) (by show lcT _ _ _ _ (ts.drop m) = _; rw [List.drop_of_length_le hm]; rfl) h⟩
      exact lcI_step hl Sc hcs Se hD (hs.step st) ((pv.wipe (tgIs tg)).mono st.exP) hz hi h hx
    · rw [if_neg hz] at w; exact w.elim
  have plain : ∀ {e0 : Expr} {a : E}, iter = e0 → toE tb sc n e0 = some a → k = .it → as = [a] → LcW X tgE iter tg (bT X scope ifs) (bE X scope elt) σ H Q := by
    intro e0 a ei he ek ea
    subst ei ek ea
    rw [evs_one] at w
    cases qa : ev Φ gl env a with
    | exc x => rw [qa] at w; exact w.elim
    | stk => rw [qa] at w; exact w.elim
    | ok g =>
      rw [qa] at w
      simp only [Res.bind, itG] at w
      have mk : ∀ Q' : VK, (∀ v HP1 H1 O, RG cA HP1 Hs H1 g v O → Step HP H HP1 H1 → Q' v H1) → wpE X iter σ H Q' := fun Q' h => by
        refine ihE _ _ he env σ HP Hs H Q' pv hs hp ?_
        rw [qa]
        exact fun v HP1 H1 O rg _ _ st => h v HP1 H1 O rg st
      cases qi : itItems g with
      | none => rw [qi] at w; exact w.elim
      | some ts =>
        rw [qi] at w
        simp only at w
        unfold itItems at qi
        split at qi
        · rename_i z
          cases qi
          refine ⟨_, pi_str peE, toE_fold he _, mk _ fun v HP1 H1 O rg st => ⟨z, rg.1, fun D hD => ?_⟩⟩
          obtain ⟨a1, a2, a3⟩ := go _ HP1 H1 st D hD (WpR.from st w)
          exact lcW_str a1 a2 a3
        · -- a list or a tuple
          unfold G.items at qi
          split at qi
          · rename_i gs ep
            refine ⟨_, pi_list peE, toE_fold he _, mk _ fun v HP1 H1 O rg st => ?_⟩
            obtain ⟨p, vs, O', rfl, h2, h3, _⟩ := rg.parts st.sees (hs.step st).e ep
            have h2 : SqL X.K H1 p vs := C.kK ▸ h2
            refine ⟨p, rfl, ⟨vs, h2⟩, fun D hD => ?_⟩
            obtain ⟨a1, a2, a3⟩ := go _ HP1 H1 st D hD (WpR.from st w)
            exact lcW_lst a1 a2 a3 h2 (h3.vals qi).1
          · rename_i gs ep
            refine ⟨_, pi_tup peE, toE_fold he _, mk _ fun v HP1 H1 O rg st => ?_⟩
            obtain ⟨p, vs, O', rfl, h2, h3, _⟩ := rg.parts st.sees (hs.step st).e ep
            have h2 : SqT X.K H1 p vs := .inl h2
            refine ⟨p, rfl, ⟨vs, h2⟩, fun D hD => ?_⟩
            obtain ⟨a1, a2, a3⟩ := go _ HP1 H1 st D hD (WpR.from st w)
            exact lcW_tup a1 a2 a3 h2 (h3.vals qi).1
          · cases qi
  have mapIt : ∀ {e0 : Expr}, iter = e0 → (toE tb sc n e0).map (fun x => (IK.it, [x])) = some (k, as) → LcW X tgE iter tg (bT X scope ifs) (bE X scope elt) σ H Q := by
    intro e0 ei h
    cases q : toE tb sc n e0 with
    | none => rw [q] at h; cases h
    | some a => rw [q] at h; cases h; exact plain ei q rfl rfl
  -- an int that is reckoned
  have mkI : ∀ {e0 : Expr} {a : E} {g : G} {i : Int} {HP0 H0 : Hp}, toE tb sc n e0 = some a → ev Φ gl env a = .ok g → asInt g = .ok i → Step HP H HP0 H0 → ∀ Q' : VK, (∀ HP1 H1, Step HP H HP1 H1 → Q' (.int i) H1) → wpE X e0 σ H0 Q' := by
    intro e0 a g i HP0 H0 he q1 q2 st0 Q' h
    refine ihE _ _ he env σ HP0 Hs H0 Q' (pv.mono st0.exP) (hs.step st0) st0.sees ?_
    rw [q1, asInt_of q2]
    intro v HP1 H1 O rg _ _ st
    have e1 : v = .int i := rg.1
    subst e1
    exact h HP1 H1 (st0.trans st)
  have tupT : tupW k = true → ∃ es x1 tpos, tgE = .Tuple es x1 tpos := fun h => by
    rw [h, Bool.and_true] at htw
    unfold toTg at ht
    split at ht
    · split at ht
      · rename_i y _ _
        cases q2 : slotOf tb.N y with
        | none => rw [q2] at ht; cases ht
        | some j => rw [q2] at ht; cases ht; cases htw
      · cases ht
    · exact ⟨_, _, _, rfl⟩
    · cases ht
  unfold toWk at hw
  split at hw
  · rename_i f pf a pos
    split at hw
    · rename_i hf
      rw [Bool.and_eq_true] at hf
      have := beq_iff_eq.mp hf.1
      subst this
      obtain ⟨hG, hM⟩ := blt_of C hf.2
      cases qe : toE tb sc n a with
      | none => rw [qe] at hw; cases hw
      | some x =>
        rw [qe] at hw; cases hw
        rw [evs_one] at w
        cases qa : ev Φ gl env x with
        | exc _ => rw [qa] at w; exact w.elim
        | stk => rw [qa] at w; exact w.elim
        | ok g =>
          rw [qa] at w
          simp only [Res.bind, itG] at w
          cases qi : asInt g with
          | exc _ => rw [qi] at w; exact w.elim
          | stk => rw [qi] at w; exact w.elim
          | ok i =>
            rw [qi] at w
            simp only at w
            by_cases hz : smallI i = true
            · rw [if_pos hz] at w
              simp only at w
              obtain ⟨l1, l2⟩ := small_to hz
              refine ⟨_, pi_range1 hG hM (pa_cons peE pa_nil (toE_star qe [] _)) (toE_star qe [] _), (fun _ => rfl), ?_⟩
              refine mkI qe qa qi (Step.refl hp) _ fun HP1 H1 st => ?_
              refine ⟨i, rfl, l1, l2, fun D hD => ?_⟩
              obtain ⟨a1, a2, a3⟩ := go _ HP1 H1 st D hD (WpR.from st w)
              exact lcW_rng a1 a2 a3
            · rw [if_neg hz] at w; exact w.elim
    · split at hw
      · rename_i hf
        rw [Bool.and_eq_true] at hf
        have := beq_iff_eq.mp hf.1
        subst this
        obtain ⟨hG, hM⟩ := blt_of C hf.2
        cases qe : toE tb sc n a with
        | none => rw [qe] at hw; cases hw
        | some x =>
          rw [qe] at hw; cases hw
          obtain ⟨es, x1, tpos, rfl⟩ := tupT rfl
          rw [evs_one] at w
          cases qa : ev Φ gl env x with
          | exc _ => rw [qa] at w; exact w.elim
          | stk => rw [qa] at w; exact w.elim
          | ok g =>
            rw [qa] at w
            simp only [Res.bind, itG] at w
            cases qi : lstItems g with
            | none => rw [qi] at w; exact w.elim
            | some ts =>
              rw [qi] at w
              simp only at w
              refine ⟨_, pi_enum hG hM (pa_cons peE pa_nil (toE_star qe [] _)) (toE_star qe [] _), (fun _ => rfl), ?_⟩
              refine ihE _ _ qe env σ HP Hs H _ pv hs hp ?_
              rw [qa]
              intro v HP1 H1 O rg _ _ st
              obtain ⟨p, vs, rfl, h2, h3⟩ := rg.lstI st.sees (hs.step st).e qi
              have h2 : SqL X.K H1 p vs := C.kK ▸ h2
              refine ⟨p, vs, rfl, h2, fun D hD => ?_⟩
              obtain ⟨a1, a2, a3⟩ := go _ HP1 H1 st D hD (WpR.from st w)
              exact lcW_enm a1 a2 a3 h2 h3
      · exact mapIt rfl hw
  · rename_i f pf a b pos
    split at hw
    · rename_i hf
      rw [Bool.and_eq_true] at hf
      have := beq_iff_eq.mp hf.1
      subst this
      obtain ⟨hG, hM⟩ := blt_of C hf.2
      cases qe : toE tb sc n a with
      | none => rw [qe] at hw; cases hw
      | some x =>
        cases qe2 : toE tb sc n b with
        | none => rw [qe, qe2] at hw; cases hw
        | some y =>
          rw [qe, qe2] at hw; cases hw
          rw [evs_two] at w
          cases qa : ev Φ gl env x with
          | exc _ => rw [qa] at w; exact w.elim
          | stk => rw [qa] at w; exact w.elim
          | ok g =>
            cases qb : ev Φ gl env y with
            | exc _ => rw [qa] at w; simp only [Res.bind] at w; rw [qb] at w; exact w.elim
            | stk => rw [qa] at w; simp only [Res.bind] at w; rw [qb] at w; exact w.elim
            | ok g2 =>
              rw [qa] at w
              simp only [Res.bind, itG] at w
              rw [qb] at w
              simp only [itG] at w
              cases qi : asInt g with
              | exc _ => rw [qi] at w; exact w.elim
              | stk => rw [qi] at w; exact w.elim
              | ok i =>
                cases qj : asInt g2 with
                | exc _ => rw [qi] at w; simp only [Res.bind] at w; rw [qj] at w; exact w.elim
                | stk => rw [qi] at w; simp only [Res.bind] at w; rw [qj] at w; exact w.elim
                | ok j =>
                  rw [qi] at w
                  simp only [Res.bind] at w
                  rw [qj] at w
                  simp only at w
                  by_cases hz : (smallI i && smallI j) = true
                  · rw [if_pos hz] at w
                    simp only at w
                    rw [Bool.and_eq_true] at hz
                    obtain ⟨l1, l2⟩ := small_to hz.1
                    obtain ⟨l3, l4⟩ := small_to hz.2
                    have st1 : starEach [a, b] X.env = [(false, eval a X.env), (false, eval b X.env)] := by rw [toE_star qe, toE_star qe2]; rfl
                    refine ⟨_, pi_range2 hG hM (pa_cons peE (pa_cons peE pa_nil (toE_star qe2 [] _)) (toE_star qe [b] _)) st1 (toE_star qe2 [] _), (fun _ => rfl), ?_⟩
                    refine mkI qe qa qi (Step.refl hp) _ fun HP1 H1 st => ?_
                    refine mkI qe2 qb qj st _ fun HP2 H2 st2 => ?_
                    refine ⟨i, j, rfl, ⟨l1, l2, l3, l4⟩, fun D hD => ?_⟩
                    obtain ⟨a1, a2, a3⟩ := go _ HP2 H2 st2 D hD (WpR.from st2 w)
                    exact lcW_rng a1 a2 a3
                  · rw [if_neg hz] at w; exact w.elim
    · split at hw
      · rename_i hf
        rw [Bool.and_eq_true] at hf
        have := beq_iff_eq.mp hf.1
        subst this
        obtain ⟨hG, hM⟩ := blt_of C hf.2
        cases qe : toE tb sc n a with
        | none => rw [qe] at hw; cases hw
        | some x =>
          cases qe2 : toE tb sc n b with
          | none => rw [qe, qe2] at hw; cases hw
          | some y =>
            rw [qe, qe2] at hw; cases hw
            obtain ⟨es, x1, tpos, rfl⟩ := tupT rfl
            rw [evs_two] at w
            cases qa : ev Φ gl env x with
            | exc _ => rw [qa] at w; exact w.elim
            | stk => rw [qa] at w; exact w.elim
            | ok g =>
              cases qb : ev Φ gl env y with
              | exc _ => rw [qa] at w; simp only [Res.bind] at w; rw [qb] at w; exact w.elim
              | stk => rw [qa] at w; simp only [Res.bind] at w; rw [qb] at w; exact w.elim
              | ok g2 =>
                rw [qa] at w
                simp only [Res.bind, itG] at w
                rw [qb] at w
                simp only [itG] at w
                cases qi : lstItems g with
                | none => rw [qi] at w; exact w.elim
                | some ts =>
                  cases qj : lstItems g2 with
                  | none => rw [qi, qj] at w; exact w.elim
                  | some us =>
                    rw [qi, qj] at w
                    simp only at w
                    refine ⟨_, pi_zip hG hM (pa_cons peE (pa_cons peE pa_nil (toE_star qe2 [] _)) (toE_star qe [b] _)) (toE_star qe [b] _) (by rw [toE_star qe2]; rfl), (fun _ => rfl), ?_⟩
                    refine ihE _ _ qe env σ HP Hs H _ pv hs hp ?_
                    rw [qa]
                    intro v HP1 H1 O rg _ _ st
                    obtain ⟨p, vs, rfl, h2, h3⟩ := rg.lstI st.sees (hs.step st).e qi
                    have h2 : SqL X.K H1 p vs := C.kK ▸ h2
                    refine ihE _ _ qe2 env σ HP1 Hs H1 _ (pv.mono st.exP) (hs.step st) st.sees ?_
                    rw [qb]
                    intro v2 HP2 H2 O2 rg2 _ _ st2
                    have st' := st.trans st2
                    obtain ⟨p2, vs2, rfl, k2, k3⟩ := rg2.lstI st'.sees (hs.step st').e qj
                    have k2 : SqL X.K H2 p2 vs2 := C.kK ▸ k2
                    refine ⟨p, p2, vs, vs2, rfl, SqL.ex st2.ex h2, k2, fun D hD => ?_⟩
                    obtain ⟨a1, a2, a3⟩ := go _ HP2 H2 st' D hD (WpR.from st' w)
                    exact lcW_zip a1 a2 a3 (SqL.ex st2.ex h2) (h3.mono st2.exP) k2 k3
      · exact mapIt rfl hw
  · exact mapIt rfl hw
end
end Bv
set_option maxRecDepth 100000
set_option maxHeartbeats 2000000
/-! Part 7e: classes: fields, methods, instances made, isinstance. -/
namespace Bv
open PySem L2
theorem lookup_zip {cA : CA} {HP Hs H : Hp} {f : Str} : ∀ {ns : List Str} {gs : List G} {vs : List V} {O : List Addr} {g : G}, RGs cA HP Hs H gs vs O → (ns.zip gs).lookup f = some g →
    ∃ v O1, (ns.zip vs).lookup f = some v ∧ RG cA HP Hs H g v O1 ∧ (∀ q ∈ O1, q ∈ O) ∧ (O.Nodup → O1.Nodup)
  | [], _, _, _, _, _, e => by cases e
  | _ :: _, [], _, _, _, _, e => by cases e
  | n :: ns, g0 :: gs, _, _, g, ⟨v, r, O1, O2, h1, h2, h3, h4⟩, e => by
    subst h1 h4
    simp only [List.zip_cons_cons, List.lookup_cons] at e ⊢
    cases q : f == n with
    | true => rw [q] at e; cases e; exact ⟨v, O1, rfl, h2, fun q hq => List.mem_append_left _ hq, fun nd => (List.nodup_append.mp nd).1⟩
    | false =>
      rw [q] at e
      obtain ⟨w, O', a, b, c, d⟩ := lookup_zip h3 e
      exact ⟨w, O', a, b, fun q hq => List.mem_append_right _ (c q hq), fun nd => d (List.nodup_append.mp nd).2.1⟩
theorem lookup_zip_none {f : Str} : ∀ {ns : List Str} {vs : List V}, ns.contains f = false → (ns.zip vs).lookup f = none
  | [], _, _ => rfl
  | _ :: _, [], _ => rfl
  | n :: ns, v :: vs, h => by
    simp only [List.contains_cons, Bool.or_eq_false_iff] at h
    simp only [List.zip_cons_cons, List.lookup_cons, h.1]
    exact lookup_zip_none h.2
section
variable [TC] {X : Cx} {CX : CXT} {XE : XK} {tb : Tb} {sc : Scope} {Φ : Fns} {gl : Str → Option T} {cA : CA}
theorem toE_base {n : Nat} {e : Expr} {a : E} (h : toE tb sc n e = some a) (f : Str) (env : PySem.Env) (w : Sem Value) : attributeBase e f env w = w := by
  cases n with
  | zero => cases h
  | succ n =>
    cases e with
    | Call g as ks pos =>
      cases g with
      | Name x p =>
        cases as with
        | nil => simp [toE] at h
        | cons b bs => rfl
      | _ => rfl
    | _ => rfl
theorem fld_ok {HP Hs H HP0 H0 : Hp} {g : G} {x : V} {O : List Addr} {f : Str} {Q : VK} (C : Ctx X CX XE tb sc Φ gl cA) (hp : Ex HP H) (hs : Ex Hs H) (st : Step HP0 H0 HP H) (rg : RG cA HP Hs H g x O) (nd : O.Nodup) (fr : ∀ p ∈ O, H0 p = none ∧ HP p = none) (h : WpR cA (fldG Φ g f) HP0 Hs H0 Q) :
    ∃ a C dx fs v, x = .ref a ∧ H a = some (.ins C dx fs) ∧ Cls X.K C ∧ NoAttr X.K C f ∧ fs.lookup f = some v ∧ Q v H := by
  unfold fldG at h
  split at h
  · rename_i C0 ns gs e
    split at h
    · rename_i hf
      split at h
      · rename_i y ey
        obtain ⟨p, vs, O', rfl, h2, h3, h4, h5⟩ := rg.parts hp hs e
        obtain ⟨v, O1, e1, r1, s1, n1⟩ := lookup_zip h3 ey
        obtain ⟨hl, dx, ha⟩ := h2
        obtain ⟨c1, c2⟩ := C.fl C0 f hf
        exact ⟨p, _, dx, _, v, rfl, ha, c1, c2, e1, h v HP H O1 r1 (n1 (h5 nd)) (fun q hq => fr q (h4 q (s1 q hq))) st⟩
      · exact h.elim
    · exact h.elim
  · exact h.elim
theorem snd_fld (C : Ctx X CX XE tb sc Φ gl cA) {n : Nat} {a : Expr} {ea : E} {f : Str} {pos : Pos} (ha : toE tb sc n a = some ea) (Sa : SndE X Φ gl cA a ea) : SndE X Φ gl cA (.Attribute a f pos) (.fld ea f) := by
  intro env σ HP Hs H Q pv hs hp h
  refine ⟨_, pe_fld peE (toE_base ha f _ _), ?_⟩
  unfold ev at h
  refine Sa.then0 pv hs hp (Step.refl hp) h fun g v HP1 H1 O1 rg nd fr st h1 => ?_
  exact fld_ok C st.sees (hs.step st).e st rg nd fr h1
/-- a def called with what was made -/
theorem call_w {HP Hs H : Hp} {gs : List G} {vs : List V} {O : List Addr} {f : Str} {n : Nat} {Q : VK} (hlen : vs.length = n) (hp : Ex HP H) (hs : Eh Hs H) {HP0 H0 : Hp} (st : Step HP0 H0 HP H) (rg : RGs cA HP Hs H gs vs O) (fr : ∀ p ∈ O, H0 p = none ∧ HP p = none)
    (h : WpR cA (backR (Φ.call f (G.args gs))) HP0 Hs H0 Q) : spOf cA Φ f n vs H Q XE := by
  have st' := st.freeze (O := O) fun p hp => (fr p hp).1
  refine ⟨hlen, hs.tb, ad HP O H, G.args gs, [], st'.sees, by rw [mn_nil]; exact rg.args hp hs.e, List.nodup_nil, (fun _ z => nomatch z), ?_⟩
  unfold backR at h
  cases qc : Φ.call f (G.args gs) with
  | exc x _ => rw [qc] at h; exact h.elim
  | stk => rw [qc] at h; exact h.elim
  | ok r gs' =>
    rw [qc] at h
    by_cases hf : r.free = true
    · simp only [hf, if_true] at h
      refine ⟨hf, fun v HP2 H2 O O' r1 r2 nd' fr' st2 => ?_⟩
      exact (h.from st') v HP2 H2 O (r1.freeB hf) (List.nodup_append.mp nd').1 (fun p hp => ⟨((fr' p (List.mem_append_left _ hp)).1).elim id fun z => absurd z (by simp), (fr' p (List.mem_append_left _ hp)).2⟩) st2.nil
    · simp only [hf] at h
      exact h.elim
theorem bind_pure_pos {β : Type} {pos : Pos} {f : Pos → Sem β} : (do let q ← (pure pos : Sem Pos); f q) = f pos := rfl
theorem meth_ht {o : Expr} {m : Str} {apos pos : Pos} {args : List Expr} {env : PySem.Env} (hbase : attributeBase o m env (eval o env) = eval o env) (hfew : methodCallForm (args.length + ([] : List Keyword).length) (backTo pos (starEach args env)) (backToKw pos (keywordEach [] env)) = true) (hline : (apos.endLine == pos.line) = true) :
    eval (.Call (.Attribute o m apos) args [] pos) env = (do
      let ov ← eval o env
      standAt apos.atName
      let (f, first) ← holding [ov] (getMethod ov m (do return (← importBound o env).getD true))
      callWith pos f first (backTo pos (starEach args env)) (backToKw pos (keywordEach [] env))) := by
  have hpos : methodCallPos true o env apos pos = pure pos := by unfold methodCallPos; simp [hline]
  rw [arm_eval_Call, hbase]
  unfold methodCall
  rw [hfew, hpos]
  rfl
theorem few_ok {n : Nat} {es : List Expr} {as : List E} {pos : Pos} {env : PySem.Env} (h : toEs (toE tb sc n) es = some as) (hl : es.length < 30) : methodCallForm (es.length + ([] : List Keyword).length) (backTo pos (starEach es env)) (backToKw pos (keywordEach [] env)) = true := by
  unfold methodCallForm
  have a1 := toEs_any (pos := pos) (env := env) h
  have a2 : (backTo pos (starEach es env)).all (fun x => !x.1) = true := by
    rw [List.all_eq_true]
    intro x hx
    rw [List.any_eq_false] at a1
    have := a1 x hx
    cases q : x.1 with
    | false => rfl
    | true => rw [q] at this; exact absurd rfl this
  rw [a2]
  show (true && true && decide (es.length + 0 + (if ([] : List (Option Str × Sem Value)).isEmpty then 0 else 1) < 30)) = true
  simp
  exact hl
theorem idx_first {ns : List Int} {y : Int} {j : Nat} (h : ns.findIdx? (fun x => decide (x = y)) = some j) : ns[j]? = some y ∧ ∀ m z, m < j → ns[m]? = some z → z ≠ y := by
  obtain ⟨hj, h1, h2⟩ := List.findIdx?_eq_some_iff_getElem.mp h
  refine ⟨by rw [List.getElem?_eq_getElem hj, of_decide_eq_true h1], fun m z hm hz e => ?_⟩
  obtain ⟨hl, rfl⟩ := List.getElem?_eq_some_iff.mp hz
  exact absurd (decide_eq_true e) (h2 m hm)
theorem strs_eq : ∀ {ts : List T} {ys : List Str}, strs? ts = some ys → ts = ys.map .str
  | [], ys, h => by cases h; rfl
  | .str i :: ts, ys, h => by
    unfold strs? at h
    cases q : strs? ts with
    | none => rw [q] at h; cases h
    | some ms => rw [q] at h; cases h; rw [strs_eq q]; rfl
  | .non :: _, _, h => by cases h
  | .bl _ :: _, _, h => by cases h
  | .int _ :: _, _, h => by cases h
  | .nod _ _ :: _, _, h => by cases h
theorem RTs.strs {HP : Hp} : ∀ {ys : List Str} {vs : List V}, RTs cA HP (ys.map .str) vs → vs = ys.map V.str
  | [], vs, h => h
  | y :: ys, vs, ⟨v, r, h1, h2, h3⟩ => by rw [h1, show v = .str y from h2, RTs.strs h3]; rfl
theorem strs_rt {HP : Hp} : ∀ (ys : List Str), RTs cA HP (ys.map .str) (ys.map V.str)
  | [] => rfl
  | y :: ys => ⟨.str y, _, rfl, rfl, strs_rt ys⟩
/-- a text's method -/
theorem tx_call (C : Ctx X CX XE tb sc Φ gl cA) {n : Nat} {o : Expr} {m : Str} {apos pos : Pos} {args : List Expr} {ea : E} {eas : List E} (hline : (apos.endLine == pos.line) = true) (ho : toE tb sc n o = some ea) (hargs : toEs (toE tb sc n) args = some eas) (So : SndE X Φ gl cA o ea) (Ss : SndEs X Φ gl cA args eas)
    {env : Env} {σ : St} {HP Hs H : Hp} {Q : VK} {g : G} {gs : List G} (pv : PV cA HP Hs env σ) (hs : Eh Hs H) (hp : Ex HP H) (q : ev Φ gl env ea = .ok g) (q2 : evs Φ gl env eas = .ok gs) (h : WpR cA (txG m g gs) HP Hs H Q) : wpE X (.Call (.Attribute o m apos) args [] pos) σ H Q := by
  have main : ∀ (a : Str) (x : G) (R : V → List V → Hp → VK → Prop) (id : String), g = .val (.str a) → gs = [x] → Slot "str" m id → typeOf (.builtin id) = pure (.type "method_descriptor") → MtR X id R →
      (∀ v HP1 H1 O1, RG cA HP1 Hs H1 x v O1 → Step HP H HP1 H1 → Eh Hs H1 → R (.str a) [v] H1 Q) → wpE X (.Call (.Attribute o m apos) args [] pos) σ H Q := by
    intro a x R id e1 e2 sl ty mt hk
    subst e1 e2
    have la : eas.length = 1 := by rw [← evs_len q2]; rfl
    have la2 : args.length = eas.length := (toEs_get hargs).1
    obtain ⟨b, rfl⟩ := List.length_eq_one_iff.mp (la2.trans la)
    obtain ⟨eb, rfl⟩ := List.length_eq_one_iff.mp la
    have qb : toE tb sc n b = some eb := by
      unfold toEs at hargs
      cases q9 : toE tb sc n b with
      | none => rw [q9] at hargs; cases hargs
      | some b' => rw [q9] at hargs; unfold toEs at hargs; cases hargs; rfl
    have st1 := toE_star qb [] X.env
    have few : ((backTo pos (starEach [b] X.env)).all (fun x => !x.1) && (backToKw pos (keywordEach [] X.env)).all (fun x => x.1.isSome) && decide ([b].length + ([] : List Keyword).length + (if ([] : List Keyword).isEmpty then 0 else 1) < 30)) = true := by rw [st1]; rfl
    refine ⟨_, pe_bm PySem.F.plainAttrs_str sl ty mt peE paA (toE_base ho _ _ _) few hline st1 rfl, ?_⟩
    refine So env σ HP Hs H _ pv hs hp ?_
    rw [q]
    intro v HP1 H1 O1 rg nd fr st
    obtain rfl : v = .str a := rg.1
    refine ⟨(rfl : ("str" : String) = "str"), ?_⟩
    refine Ss env σ HP1 Hs H1 _ (pv.mono st.exP) (hs.step st) st.sees ?_
    rw [q2]
    intro vs HP2 H2 O2 rg2 nd2 fr2 st2
    obtain ⟨v2, rfl, r2⟩ := rg2.one
    exact hk v2 HP2 H2 O2 r2 (st.trans st2) ((hs.step st).step st2)
  unfold txG at h
  split at h
  · rename_i a b
    unfold smG at h
    split at h
    · rename_i hm
      subst hm
      split at h
      · rename_i hc
        refine main a _ _ _ rfl rfl PySem.F.slot_str_split PySem.F.type_str_split mt_split fun v HP1 H1 O1 r st hs1 => ?_
        obtain rfl : v = .str b := r.1
        refine ⟨a, b, rfl, rfl, by simpa using hc.1, hc.2, ?_⟩
        have z := (WpR.from st h).newL st.sees (strs_rt (Txt.split a b))
        exact z
      · exact h.elim
    · split at h
      · rename_i hm
        subst hm
        split at h
        · rename_i hc
          refine main a _ _ _ rfl rfl PySem.F.slot_str_partition PySem.F.type_str_partition mt_partition fun v HP1 H1 O1 r st hs1 => ?_
          obtain rfl : v = .str b := r.1
          refine ⟨a, b, rfl, rfl, by simpa using hc.1, hc.2, ?_⟩
          exact (WpR.from st h).newT st.sees (strs_rt [_, _, _])
        · exact h.elim
      · split at h
        · rename_i hm
          subst hm
          refine main a _ _ _ rfl rfl PySem.F.slot_str_startswith PySem.F.type_str_startswith mt_startswith fun v HP1 H1 O1 r st hs1 => ?_
          obtain rfl : v = .str b := r.1
          exact ⟨a, b, rfl, rfl, (WpR.from st h).val st.sees rfl⟩
        · split at h
          · rename_i hm
            subst hm
            split at h
            · rename_i i rest ei
              refine main a _ _ _ rfl rfl PySem.F.slot_str_index PySem.F.type_str_index mt_sindex fun v HP1 H1 O1 r st hs1 => ?_
              obtain rfl : v = .str b := r.1
              exact ⟨a, b, i, rest, rfl, rfl, ei, (WpR.from st h).val st.sees rfl⟩
            · exact h.elim
          · exact h.elim
  · rename_i a x _
    unfold joinG at h
    split at h
    · rename_i hm
      subst hm
      split at h
      · rename_i ys ey
        split at h
        · rename_i hl
          cases ei : x.items with
          | none => rw [ei] at ey; cases ey
          | some ts =>
            rw [ei] at ey
            have et := strs_eq ey
            subst et
            refine main a _ _ _ rfl rfl PySem.F.slot_str_join PySem.F.type_str_join mt_join fun v HP1 H1 O1 r st hs1 => ?_
            obtain ⟨p, vs, rfl, h2, h3⟩ := items_ok st.sees hs1.e r ei
            have ev := RTs.strs h3
            subst ev
            exact ⟨a, p, ys, rfl, rfl, h2.imp (fun z => C.kK ▸ z) .inl, hl, (WpR.from st h).val st.sees rfl⟩
        · exact h.elim
      · exact h.elim
    · exact h.elim
  · exact h.elim
/-- a builtin's method -/
theorem bm_call (C : Ctx X CX XE tb sc Φ gl cA) {n : Nat} {o : Expr} {m : Str} {apos pos : Pos} {args : List Expr} {ea : E} {eas : List E} (hline : (apos.endLine == pos.line) = true) (h30 : args.length < 30) (ho : toE tb sc n o = some ea) (hargs : toEs (toE tb sc n) args = some eas) (So : SndE X Φ gl cA o ea) (Ss : SndEs X Φ gl cA args eas)
    {env : Env} {σ : St} {HP Hs H : Hp} {Q : VK} {g : G} {gs : List G} (pv : PV cA HP Hs env σ) (hs : Eh Hs H) (hp : Ex HP H) (q : ev Φ gl env ea = .ok g) (q2 : evs Φ gl env eas = .ok gs) (h : WpR cA (bmG m g gs) HP Hs H Q) : wpE X (.Call (.Attribute o m apos) args [] pos) σ H Q := by
  unfold bmG at h
  split at h
  · rename_i hm
    subst hm
    split at h
    · rename_i ns y e1
      split at h
      · rename_i j ej
        have la : eas.length = 1 := by rw [← evs_len q2]; rfl
        have la2 : args.length = eas.length := (toEs_get hargs).1
        obtain ⟨b, rfl⟩ := List.length_eq_one_iff.mp (la2.trans la)
        obtain ⟨eb, rfl⟩ := List.length_eq_one_iff.mp la
        have qb : toE tb sc n b = some eb := by
          unfold toEs at hargs
          cases q9 : toE tb sc n b with
          | none => rw [q9] at hargs; cases hargs
          | some b' => rw [q9] at hargs; unfold toEs at hargs; cases hargs; rfl
        have st1 := toE_star qb [] X.env
        have few : ((backTo pos (starEach [b] X.env)).all (fun x => !x.1) && (backToKw pos (keywordEach [] X.env)).all (fun x => x.1.isSome) && decide ([b].length + ([] : List Keyword).length + (if ([] : List Keyword).isEmpty then 0 else 1) < 30)) = true := by rw [st1]; rfl
        refine ⟨_, pe_bm PySem.F.plainAttrs_list PySem.F.slot_list_index PySem.F.type_list_index mt_index peE paA (toE_base ho _ _ _) few hline st1 rfl, ?_⟩
        refine So env σ HP Hs H _ pv hs hp ?_
        rw [q]
        intro v HP1 H1 O1 rg nd fr st
        obtain ⟨p, rfl, hq⟩ := lstN_ok (X := X) C.kK st.sees (hs.step st).e rg e1
        refine ⟨.inl ⟨rfl, _, hq⟩, ?_⟩
        refine Ss env σ HP1 Hs H1 _ (pv.mono st.exP) (hs.step st) st.sees ?_
        rw [q2]
        intro vs HP2 H2 O2 rg2 nd2 fr2 st2
        obtain ⟨v2, rfl, r2⟩ := rg2.one
        cases r2.1
        obtain ⟨z1, z2⟩ := idx_first ej
        refine ⟨p, _, .int y, j, .int y, rfl, rfl, hq.imp (fun z => st2.ex.rd z) id, rfl, flat_ints ns, by rw [List.getElem?_map, z1]; rfl, by rw [eqV_int]; simp, fun k z' hk hz => ?_, ?_⟩
        · rw [List.getElem?_map] at hz
          obtain ⟨w, ew, rfl⟩ := Option.map_eq_some_iff.mp hz
          rw [eqV_int]
          exact decide_eq_false (z2 k w hk ew)
        · exact h _ HP2 H2 [] ⟨rfl, rfl⟩ List.nodup_nil (fun _ z => nomatch z) (st.trans st2)
      · exact h.elim
    · exact tx_call C hline ho hargs So Ss pv hs hp q q2 h
  · exact tx_call C hline ho hargs So Ss pv hs hp q q2 h
theorem snd_meth (C : Ctx X CX XE tb sc Φ gl cA) {n : Nat} {o : Expr} {m : Str} {apos pos : Pos} {args : List Expr} {ea : E} {eas : List E} (hline : (apos.endLine == pos.line) = true) (h30 : args.length < 30) (ho : toE tb sc n o = some ea) (hargs : toEs (toE tb sc n) args = some eas) (So : SndE X Φ gl cA o ea) (Ss : SndEs X Φ gl cA args eas) :
    SndE X Φ gl cA (.Call (.Attribute o m apos) args [] pos) (.meth ea m eas) := by
  intro env σ HP Hs H Q pv hs hp h
  unfold ev at h
  -- what the receiver is
  cases q : ev Φ gl env ea with
  | exc x => rw [q] at h; exact h.elim
  | stk => rw [q] at h; exact h.elim
  | ok g =>
    rw [q] at h
    simp only [Res.bind] at h
    cases q2 : evs Φ gl env eas with
    | exc x => rw [q2] at h; exact h.elim
    | stk => rw [q2] at h; exact h.elim
    | ok gs =>
      rw [q2] at h
      simp only at h
      unfold methG at h
      split at h
      · rename_i C0 ns gs0 hparts
        split at h
        · exact h.elim
        · rename_i hns
          split at h
          · rename_i f n0 hm
            split at h
            · rename_i hn
              obtain ⟨fa, fd, ps, k, hps, hc, hme, hb, F, hr⟩ := C.mt C0 m f n0 hm
              have hns : ns.contains m = false := by simpa using hns
              have core : ∀ (tA : TA), (∀ env σ HP Hs H Q, PV cA HP Hs env σ → Eh Hs H → Ex HP H → WpRs cA (evs Φ gl env eas) HP Hs H Q → tA σ H Q) → wpE X o σ H fun x H1 => ∃ a dx fs, x = .ref a ∧ H1 a = some (.ins (cA.ad C0) dx fs) ∧ fs.lookup m = none ∧ tA σ H1 fun vs H2 => spOf cA Φ f n0 (x :: (vs ++ [])) H2 Q XE := by
                intro tA SA
                refine So env σ HP Hs H _ pv hs hp ?_
                rw [q]
                intro v HP1 H1 O1 rg nd fr st
                obtain ⟨p, vs0, O', rfl, h2, h3, h4, h5⟩ := rg.parts st.sees (hs.step st).e hparts
                obtain ⟨hl, dx, ha⟩ := h2
                refine ⟨p, dx, _, rfl, ha, lookup_zip_none hns, ?_⟩
                refine SA env σ HP1 Hs H1 _ (pv.mono st.exP) (hs.step st) st.sees ?_
                rw [q2]
                intro vs HP2 H2 O2 rg2 nd2 fr2 st2
                rw [List.append_nil]
                have rgs : RGs cA HP2 Hs H2 (g :: gs) (.ref p :: vs) (O1 ++ O2) := ⟨.ref p, vs, O1, O2, rfl, rg.mono st2.exP (Ex.refl _) st2.ex, rg2, rfl⟩
                refine call_w (by rw [hn, rg2.len]; rfl) st2.sees ((hs.step st).step st2) (st.trans st2) rgs ?_ h
                intro p hp
                rcases List.mem_append.mp hp with hp | hp
                · exact ⟨(fr p hp).1, keep_none st2 rg (fun p hp => (fr p hp).2) p hp⟩
                · exact ⟨st.ex.none (fr2 p hp).1, (fr2 p hp).2⟩
              have ht := meth_ht (env := X.env) (toE_base ho m X.env _) (few_ok (pos := pos) (env := X.env) hargs h30) hline
              cases args with
              | nil =>
                refine ⟨_, pe_meth0 peE hc hme F hr hb .nil (C.ps _) ht, ?_⟩
                refine core tNil fun env σ HP Hs H Q' _ _ hp hq => ?_
                have : eas = [] := by cases hargs; rfl
                subst this
                unfold evs at hq
                exact hq [] HP H [] ⟨rfl, rfl⟩ List.nodup_nil (fun _ z => nomatch z) (Step.refl hp)
              | cons b bs => 
                have st1 : starEach (b :: bs) X.env = (false, eval b X.env) :: starEach bs X.env := by
                  unfold toEs at hargs
                  cases q9 : toE tb sc n b with
                  | none => rw [q9] at hargs; cases hargs
                  | some b' => exact toE_star q9 _ _
                have pl1 : (backTo pos (starEach bs X.env)).any (·.1) = false := by
                  unfold toEs at hargs
                  cases q9 : toE tb sc n b with
                  | none => rw [q9] at hargs; cases hargs
                  | some b' =>
                    cases q8 : toEs (toE tb sc n) bs with
                    | none => rw [q9, q8] at hargs; cases hargs
                    | some bs' => exact toEs_any q8
                exact ⟨_, pe_meth peE hc hme F hr hb .nil (C.ps _) paA st1 pl1 ht, core _ Ss⟩
            · exact h.elim
          · exact h.elim
      · exact bm_call C hline h30 ho hargs So Ss pv hs hp q q2 h
theorem snd_mk (C : Ctx X CX XE tb sc Φ gl cA) {c : Str} {p pos : Pos} {a : Expr} {as : List Expr} {es : List E} (hc : clsB tb sc c = true) (S : SndEs X Φ gl cA (a :: as) es)
    (hst : starEach (a :: as) X.env = (false, eval a X.env) :: starEach as X.env) (hpl : (backTo pos (starEach as X.env)).any (·.1) = false) : SndE X Φ gl cA (.Call (.Name c p) (a :: as) [] pos) (.mk c es) := by
  intro env σ HP Hs H Q pv hs hp h
  unfold clsB at hc
  simp only [Bool.and_eq_true] at hc
  obtain ⟨s1, _, s3⟩ := sane_of hc.2
  unfold ev at h
  cases q : evs Φ gl env es with
  | exc x => rw [q] at h; exact h.elim
  | stk => rw [q] at h; exact h.elim
  | ok gs =>
    rw [q] at h
    simp only [Res.bind] at h
    unfold mkG at h
    split at h
    · rename_i f n hi
      split at h
      · rename_i hn
        obtain ⟨fa, fd, ps, k, hps, hm, hb, F, hr⟩ := C.mi c f n hi
        refine ⟨_, pe_make hm F hr (C.Gl hc.1.1) (C.cv c hc.1.2) hb .nil (C.ps _) paA s1 hst hpl, ?_⟩
        show wpA X (a :: as) σ H fun vs H1 => ∀ x dx, H1 x = none → H1 dx = none → dx ≠ x → spOf cA Φ f n (.ref x :: (vs ++ [])) (upd (upd H1 dx (.own x)) x (.ins (cA.ad c) dx [])) (fun v H2 => v = .non ∧ Q (.ref x) H2) XE
        refine S env σ HP Hs H _ pv hs hp ?_
        rw [q]
        intro vs HP1 H1 O rg nd fr st x dx hx hdx ne
        rw [List.append_nil]
        have hs1 := hs.step st
        have st' := st.freeze (O := O) fun p hp => (fr p hp).1
        have e1 : Ex H1 (upd (upd H1 dx (.own x)) x (.ins (cA.ad c) dx [])) := ((Ex.refl _).updR hdx).updR hx
        have exm : Ex H1 (mn (upd (upd H1 dx (.own x)) x (.ins (cA.ad c) dx [])) [x]) := e1.mnR fun p hp => by rw [List.mem_singleton.mp hp]; exact hx
        have hx2 : (upd H1 dx (.own x)) x = none := by rw [upd_ne (Ne.symm ne)]; exact hx
        have rga := (rg.args st.sees hs1.e).mono (Ex.refl _) exm e1
        have rg0 : RG cA (ad HP1 O H1) (mn (upd (upd H1 dx (.own x)) x (.ins (cA.ad c) dx [])) [x]) (upd (upd H1 dx (.own x)) x (.ins (cA.ad c) dx [])) (.nod true (.ins c []) []) (.ref x) [x] :=
          ⟨x, [], [], rfl, ⟨rfl, dx, by rw [upd_same]; rfl⟩, ⟨rfl, rfl⟩, rfl⟩
        have hxP : ad HP1 O H1 x = none := st'.sees.none hx
        refine ⟨by rw [hn, rg.len]; rfl, tbs_new hx2 (tbs_new hdx hs1.tb), ad HP1 O H1, .nod true (.ins c []) [] :: G.args gs, [x], st'.sees.trans e1, ⟨.ref x, vs, [x], [], rfl, rg0, rga, rfl⟩, by simp, fun p hp => by rw [List.mem_singleton.mp hp]; exact hxP, ?_⟩
        unfold madeR at h
        split at h
        · rename_i g' qc
          rw [qc]
          split at h
          · rename_i hf
            refine ⟨rfl, fun v HP2 H2 O1 O' r1 r2 nd' fr' st2 => ⟨r1.1, ?_⟩⟩
            have r2 : RGs cA HP2 (mn (upd (upd H1 dx (.own x)) x (.ins (cA.ad c) dx [])) [x]) H2 [g'] (.ref x :: ownOf (G.args gs) vs) O' := r2
            obtain ⟨v', r, Oa, Ob, z1, z2, z3, z4⟩ := r2
            obtain ⟨z5, z6⟩ := z3
            cases z1
            subst z6
            rw [List.append_nil] at z4
            subst z4
            refine (h.from st') _ HP2 H2 O' (z2.freeB hf) (List.nodup_append.mp nd').2.1 (fun p hp => ?_) ?_
            · obtain ⟨a1, a2⟩ := fr' p (List.mem_append_right _ hp)
              refine ⟨?_, a2⟩
              rcases a1 with a1 | a1
              · exact e1.none a1
              · rw [List.mem_singleton.mp a1]; exact hx
            · refine ⟨exm.trans st2.ex, fun z => st2.tb (tbs_new hx2 (tbs_new hdx z)), st2.exP, fun p hp => ?_, st2.sees⟩
              rcases st2.new p hp with z | z | z
              · exact .inl z
              · exact .inr (e1.none z)
              · rw [List.mem_singleton.mp z]; exact .inr hx
          · exact h.elim
        · exact h.elim
        · exact h.elim
      · exact h.elim
    · exact h.elim
theorem snd_isiC (C : Ctx X CX XE tb sc Φ gl cA) {p pc pos : Pos} {a : Expr} {ea : E} {c : Str} (hst : starEach [a, .Name c pc] X.env = (false, eval a X.env) :: starEach [.Name c pc] X.env) (hf : builtinB tb sc "isinstance" = true) (hc : clsB tb sc c = true)
    (Sa : SndE X Φ gl cA a ea) : SndE X Φ gl cA (.Call (.Name "isinstance" p) [a, .Name c pc] [] pos) (.isi ea (.cls c)) := by
  intro env σ HP Hs H Q pv hs hp h
  unfold builtinB at hf
  unfold clsB at hc
  simp only [Bool.and_eq_true] at hf hc
  obtain ⟨s1, _, s3⟩ := sane_of hf.2
  obtain ⟨c1, _, c3⟩ := sane_of hc.2
  refine ⟨_, pe_callB (id := "isinstance") cW (C.Gl hf.1.1) (C.bl _ hf.1.2) (by decide +kernel) (pa_cons peE (pa_cons (pe_glob (v := .ref (cA.ad c)) (C.Gl hc.1.1) (C.cv c hc.1.2) rfl c1) pa_nil rfl) hst) s3 s1 hst rfl, ?_⟩
  unfold ev at h
  show wpE X a σ H fun x H1 => wpC X (.builtin "isinstance") [x, .ref (cA.ad c)] H1 Q
  refine Sa.then pv hs hp h fun g v HP1 H1 O rg nd fr st h1 => ?_
  obtain ⟨b, e, h2⟩ := h1.bindB
  have rt := rg.toT st.sees (hs.step st).e
  unfold isiX at e
  simp only at e
  split at e
  · rename_i C0 ns ts et
    split at e
    · rename_i b' hb
      cases e
      rw [et] at rt
      obtain ⟨pa, vs, rfl, ⟨_, dx, ha⟩, _⟩ := rt
      obtain ⟨IA, kit⟩ := C.su C0 c _ hb
      exact ⟨_, call_isi, .ref pa, .ref (cA.ad c), .ref (cA.ad C0), .ref (cA.ad c), _, rfl, .own _, .base (.ins ha IA.cl IA.ha IA.hn IA.htk IA.hm), kit, h2.val st.sees rfl⟩
    · cases e
  · cases e
end
end Bv
set_option maxRecDepth 100000
set_option maxHeartbeats 2000000
/-! Part 7: the text's expressions do what the small language tells. -/
namespace Bv
open PySem L2
section
variable [TC] {X : Cx} {CX : CXT} {XE : XK} {tb : Tb} {sc : Scope} {Φ : Fns} {gl : Str → Option T} {cA : CA}
theorem toE_okA (tb : Tb) (Φ : Fns) (gl : Str → Option T) (cA : CA) (CX : CXT) (XE : XK) : ∀ (n : Nat) (X : Cx) (sc : Scope), Ctx X CX XE tb sc Φ gl cA → ∀ (ex : Expr) (e : E), toE tb sc n ex = some e → SndE X Φ gl cA ex e := by
  intro n
  induction n using Nat.strongRecOn with
  | _ n0 ihS =>
  match n0, ihS with
  | 0, _ => intro X sc C ex e h; cases h
  | n + 1, ihS =>
    intro X sc C
    have ih : ∀ (ex : Expr) (e : E), toE tb sc n ex = some e → SndE X Φ gl cA ex e := ihS n (Nat.lt_succ_self n) X sc C
    intro ex e h
    unfold toE at h
    split at h
    · -- a name
      split at h
      · rename_i h1
        split at h
        · rename_i h2
          cases q : slotOf tb.N _ with
          | none => rw [q] at h; cases h
          | some i => rw [q] at h; cases h; exact snd_var C h1 h2 q
        · cases h
      · split at h
        · rename_i h2
          simp only [Bool.and_eq_true] at h2
          cases h
          exact snd_glb C h2.1.1 h2.1.2 h2.2
        · cases h
    · cases h; exact snd_con (fun X => pe_non) rfl
    · cases h; exact snd_con (fun X => pe_bl) rfl
    · cases h; exact snd_con (fun X => pe_int) rfl
    · cases h; exact snd_con (fun X => pe_str) rfl
    · split at h
      · rename_i e1 e2 e3
        cases h
        exact snd_bin C e1 (ih _ _ e2) (ih _ _ e3)
      · cases h
    · rename_i a _
      cases q : toE tb sc n a with
      | none => rw [q] at h; cases h
      | some x => rw [q] at h; cases h; exact snd_neg (ih _ _ q)
    · rename_i a _
      cases q : toE tb sc n a with
      | none => rw [q] at h; cases h
      | some x => rw [q] at h; cases h; exact snd_not (ih _ _ q)
    · split at h
      · rename_i e1 e2 e3
        cases h
        exact snd_cmp C e1 (toE_mark e3) (ih _ _ e2) (ih _ _ e3)
      · cases h
    · rename_i a as _
      cases q : toEs (toE tb sc n) (a :: as) with
      | none => rw [q] at h; cases h
      | some xs =>
        rw [q] at h; cases h
        obtain ⟨hl, hg⟩ := toEs_get q
        cases xs with
        | nil => cases hl
        | cons x xs => exact snd_and C.calm (ih _ _ (hg 0 _ _ rfl rfl)) (fun i e y h1 h2 => ih _ _ (hg (i + 1) e y (by simpa using h1) (by simpa using h2))) (by simpa using hl)
    · rename_i a as _
      cases q : toEs (toE tb sc n) (a :: as) with
      | none => rw [q] at h; cases h
      | some xs =>
        rw [q] at h; cases h
        obtain ⟨hl, hg⟩ := toEs_get q
        cases xs with
        | nil => cases hl
        | cons x xs => exact snd_or C.calm (ih _ _ (hg 0 _ _ rfl rfl)) (fun i e y h1 h2 => ih _ _ (hg (i + 1) e y (by simpa using h1) (by simpa using h2))) (by simpa using hl)
    · split at h
      · rename_i e1 e2 e3
        cases h
        exact snd_slc C (ih _ _ e1) (toOpt_ok ih e2) (toOpt_ok ih e3)
      · cases h
    · split at h
      · rename_i e1 e2
        cases h
        exact snd_idx C (toE_plain e2) (ih _ _ e1) (ih _ _ e2)
      · cases h
    · rename_i es _ _
      cases q : toEs (toE tb sc n) es with
      | none => rw [q] at h; cases h
      | some xs => rw [q] at h; cases h; exact snd_tup (toEs_ok ih q)
    · rename_i es _
      cases q : toEs (toE tb sc n) es with
      | none => rw [q] at h; cases h
      | some xs => rw [q] at h; cases h; exact snd_lst (toEs_ok ih q)
    · rename_i elt tgE iter ifs scope pos
      split at h
      · rename_i tg k as cs ee q1 q2 q3 q4
        split at h
        · rename_i hok
          cases h
          unfold lcOk at hok
          simp only [Bool.and_eq_true, decide_eq_true_eq, Bool.not_eq_true'] at hok
          obtain ⟨hlen, hg⟩ := toEs_get q3
          have Sb : ∀ s0 H0 Ca cl fp, Ctx (Xb X scope s0 H0 Ca cl fp) CX XE tb (relS scope sc) Φ gl cA := fun s0 H0 Ca cl fp => C.blk scope s0 H0 Ca cl fp
          have Se : ∀ s0 H0 Ca cl fp, SndE (Xb X scope s0 H0 Ca cl fp) Φ gl cA elt ee := fun s0 H0 Ca cl fp => ihS n (Nat.lt_succ_self n) _ _ (Sb s0 H0 Ca cl fp) _ _ q4
          have St : ∀ s0 H0 Ca cl fp, ∀ (i : Nat) (c : Expr) (ec : E), ifs[i]? = some c → cs[i]? = some ec → SndT (Xb X scope s0 H0 Ca cl fp) Φ gl cA c ec := fun s0 H0 Ca cl fp i c ec h1 h2 =>
            okT_of (Sb s0 H0 Ca cl fp) (N0 := n) (fun m hm => ihS m (Nat.lt_succ_of_le hm) _ _ (Sb s0 H0 Ca cl fp)) n (Nat.le_refl n) _ _ (hg i c ec h1 h2)
          intro env σ HP Hs H Q pv hs hp w
          obtain ⟨wi, PIw, hf, hw⟩ := lc_wish C q1 q2 ih hok.2 (by rw [hlen]; exact hok.1.2) hlen St Se pv hs hp w
          have own : (tgOwn tb.N tg).map (·.2) = tgIs tg := by unfold tgOwn; rw [List.map_map]; exact List.map_id _
          have bk : BlkOk X.N X.env.scope scope (tgOwn tb.N tg) := by rw [C.nm, C.scp]; exact blkOk_by hok.1.1
          refine ⟨_, pe_lc (g := gOf X.K tg) (tt := bT X scope ifs) (te := bE X scope elt) C.calm C.nd PIw bk (fun s H Ca cl fp => pg_of (TgC.blk C scope s H Ca cl fp) q1) (fun s H Ca cl fp => bT_ok scope (by rw [hlen]; exact hok.1.2) s H Ca cl fp) (fun s H Ca cl fp => bE_ok scope elt s H Ca cl fp) hf, ?_⟩
          rw [own]
          exact hw
        · cases h
      · cases h
    · rename_i f pf a as pos
      split at h
      · rename_i y hy
        split at h
        · rename_i x q
          split at h
          · rename_i hb
            rw [Bool.and_eq_true] at hb
            cases h
            exact snd_lrg C hy hb.1 hb.2 (toE_star q _ _) (ih _ _ q)
          · cases h
        · cases h
      split at h
      · rename_i hf
        split at h
        · rename_i c pc
          split at h
          · rename_i x m e1 e2
            split at h
            · rename_i hb
              cases h
              simp only [Bool.and_eq_true] at hb
              have : f = "isinstance" := beq_iff_eq.mp hf
              subst this
              exact snd_isi C (toE_star e1 _ _) hb.1 hb.2 e2 (ih _ _ e1)
            · cases h
          · rename_i x e1 e2
            split at h
            · rename_i hb
              cases h
              simp only [Bool.and_eq_true] at hb
              have : f = "isinstance" := beq_iff_eq.mp hf
              subst this
              exact snd_isiC C (toE_star e1 _ _) hb.1 hb.2 (ih _ _ e1)
            · cases h
          · cases h
        · cases h
      · cases q : toEs (toE tb sc n) (a :: as) with
        | none => rw [q] at h; cases h
        | some es =>
          rw [q] at h
          simp only at h
          obtain ⟨hl, hg⟩ := toEs_get q
          have q' := q
          unfold toEs at q'
          have qa : ∃ x, toE tb sc n a = some x := by
            cases q1 : toE tb sc n a with
            | none => rw [q1] at q'; cases q'
            | some x => exact ⟨x, rfl⟩
          obtain ⟨x, qa⟩ := qa
          have qas : ∃ xs, toEs (toE tb sc n) as = some xs := by
            cases q1 : toEs (toE tb sc n) as with
            | none => rw [qa, q1] at q'; cases q'
            | some x => exact ⟨x, rfl⟩
          obtain ⟨xs, qas⟩ := qas
          split at h
          · rename_i hb
            simp only [Bool.and_eq_true] at hb
            cases h
            exact snd_call C hb.1.1 hb.1.2 (beq_iff_eq.mp hb.2) (toEs_ok ih q) (toE_star qa _ _) (toEs_any qas)
          · split at h
            · rename_i hc
              cases h
              exact snd_mk C hc (toEs_ok ih q) (toE_star qa _ _) (toEs_any qas)
            · split at h
              · rename_i b hb
                split at h
                · rename_i hx
                  cases h
                  refine snd_bif C ?_ hx (toEs_ok ih q) (toE_star qa _ _) (toEs_any qas)
                  unfold toBf at hb
                  have z := List.find?_some hb
                  exact beq_iff_eq.mp z
                · cases h
              · cases h
    · rename_i a f _
      cases q : toE tb sc n a with
      | none => rw [q] at h; cases h
      | some x => rw [q] at h; cases h; exact snd_fld C q (ih _ _ q)
    · split at h
      · rename_i q1 q2
        split at h
        · rename_i hc
          cases h
          simp only [Bool.and_eq_true, decide_eq_true_eq] at hc
          exact snd_meth C hc.1 hc.2 q1 q2 (ih _ _ q1) (toEs_ok ih q2)
        · cases h
      · cases h
    · cases h; exact snd_dct
    · cases h
theorem toE_ok (C : Ctx X CX XE tb sc Φ gl cA) (n : Nat) (ex : Expr) (e : E) (h : toE tb sc n ex = some e) : SndE X Φ gl cA ex e := toE_okA tb Φ gl cA CX XE n X sc C ex e h
theorem toE_okT (C : Ctx X CX XE tb sc Φ gl cA) (n : Nat) (ex : Expr) (e : E) (h : toE tb sc n ex = some e) : SndT X Φ gl cA ex e := okT_of C (N0 := n) (fun m _ => toE_ok C m) n (Nat.le_refl n) ex e h
/-- a comprehension's parts -/
theorem toE_lc (C : Ctx X CX XE tb sc Φ gl cA) {n : Nat} {elt tgE iter : Expr} {ifs : List Expr} {scope : Scope} {ea : E} {pos : Pos} (h : toE tb sc n (.ListComp elt [⟨tgE, iter, ifs, 0⟩] scope pos) = some ea) :
    ((∃ tg k as cs ee, ea = .lc tg k as cs ee) ∧ ∃ tg, toTg tb scope tgE = some tg ∧ ∀ env σ HP Hs H Q, PV cA HP Hs env σ → Eh Hs H → Ex HP H → WpR cA (ev Φ gl env ea) HP Hs H Q → LcW X tgE iter tg (bT X scope ifs) (bE X scope elt) σ H Q) ∧
    (∀ tg, toTg tb scope tgE = some tg → BlkOk X.N X.env.scope scope (tgOwn tb.N tg)) ∧ ifs.length ≤ 1 ∧ ∀ tg, (tgOwn tb.N tg).map (·.2) = tgIs tg := by
  cases n with
  | zero => cases h
  | succ n =>
    unfold toE at h
    simp only at h
    split at h
    · rename_i tg k as cs ee q1 q2 q3 q4
      split at h
      · rename_i hok
        cases h
        unfold lcOk at hok
        simp only [Bool.and_eq_true, decide_eq_true_eq, Bool.not_eq_true'] at hok
        obtain ⟨hlen, hg⟩ := toEs_get q3
        have Sb : ∀ s0 H0 Ca cl fp, Ctx (Xb X scope s0 H0 Ca cl fp) CX XE tb (relS scope sc) Φ gl cA := fun s0 H0 Ca cl fp => C.blk scope s0 H0 Ca cl fp
        refine ⟨⟨⟨_, _, _, _, _, rfl⟩, tg, q1, fun env σ HP Hs H Q pv hs hp w => ?_⟩, fun tg' e => ?_, by rw [hlen]; exact hok.1.2, fun tg' => ?_⟩
        · exact lc_wish C q1 q2 (toE_ok C n) hok.2 (by rw [hlen]; exact hok.1.2) hlen (fun s0 H0 Ca cl fp i c ec h1 h2 => toE_okT (Sb s0 H0 Ca cl fp) n _ _ (hg i c ec h1 h2)) (fun s0 H0 Ca cl fp => toE_ok (Sb s0 H0 Ca cl fp) n _ _ q4) pv hs hp w
        · rw [q1] at e; cases e
          rw [C.nm, C.scp]; exact blkOk_by hok.1.1
        · unfold tgOwn; rw [List.map_map]; exact List.map_id _
      · cases h
    · cases h
end
end Bv
set_option maxRecDepth 100000
set_option maxHeartbeats 1000000
/-! Part 8: statements: the small language and what it does. -/
namespace Bv
open PySem L2
/-- a place in what a name holds -/
inductive Pl where
  | var (i : Nat)
  | ix (p : Pl) (k : E)
  deriving Inhabited
def plVar : Pl → Nat
  | .var i => i
  | .ix p _ => plVar p
/-- what a for walks -/
inductive It where
  | it (e : E)
  | rng1 (a : E)
  | rng2 (a b : E)
  | enm (e : E)
  | rev (e : E)
  | zip (a b : E)
  | rrng (a b : E)
  | itp (pl : Pl)
  deriving Inhabited
/-- what a list does to itself -/
inductive LM where
  | pop | clear | rev
  deriving DecidableEq, Inhabited
def lmName : LM → Str
  | .pop => "pop" | .clear => "clear" | .rev => "reverse"
/-- how a name holds what it gets: frozen, owned at the top alone, owned -/
inductive Ow where
  | frz | sh | own
  deriving DecidableEq, Inhabited
/-- where the result of a call goes that changes what it is lent: a new list of it alone, the end of a list -/
inductive LT where
  | asg (j : Nat) | app (j : Nat)
  deriving DecidableEq, Inhabited
/-- what is asked of a caught exception: isinstance(e, C), isinstance(e, (C, D, ..)), not y -/
inductive HA where
  | isx (C : Str) | isxs (Cs : List Str) | nloc (j : Nat) | nisb (f : Str) | feq (f : Str) (n : Int) | isd (g f : Str) (n : Int)
  deriving Inhabited
/-- an except suite's statements -/
inductive HS where
  | asg (j : Nat) (a : HA) | ret (as : List HA)
  deriving Inhabited
/-- in an except suite: a value -/
inductive HE where
  | v (j : Nat) | f (fd : Str) | ix (j : Nat) (h : HE) | tp (a b : HE) | kd (g : Str)
  deriving Inhabited
/-- its statements -/
inductive HT where
  | asg (j : Nat) (h : HE) | app (j : Nat) (h : HE)
  deriving Inhabited
/-- an argument that may raise -/
inductive XA where
  | e (e : E)
  | call (f : Str) (es : List E)
  deriving Inhabited
/-- what may raise: a call, an instance made of such, a list of calls -/
inductive EX where
  | call (f : Str) (es : List E)
  | mk (C : Str) (as : List XA)
  | lc (i : Nat) (it : E) (f : Str) (es : List E)
  deriving Inhabited
inductive S where
  | asg (i : Nat) (o : Ow) (e : E)
  | asgX (i : Nat) (o : Ow) (x : EX)
  | retX (x : EX)
  | retRep (f : Str) (i : Nat) (y z : Str) (e : E)
  | unp (is : List Nat) (e : E)
  | app (pl : Pl) (mv : Bool) (e : E)
  | seti (pl : Pl) (k : E) (mv : Bool) (e : E)
  | augi (pl : Pl) (k : E) (sub : Bool) (e : E)
  | setf (i : Nat) (f : Str) (e : E)
  | lm (pl : Pl) (m : LM)
  | ext (pl : Pl) (e : E)
  | setk (i : Nat) (k : E) (e : E)
  | lnd (t : LT) (c : Option Int) (i : Nat) (f : Str) (e : E)
  | dead
  | raise (C : Str)
  | raise1 (C : Str) (e : E)
  | raise2 (C : Str) (a b : E)
  | take (i j : Nat) (k : Int)
  | tryM (body : List S) (hds : List (Str × Nat × List HT)) (els : List S)
  | exp (f : Str) (es : List E)
  | tryE (body : List S) (C : Str) (i : Nat) (hs : List HS)
  | ite (c : E) (a b : List S)
  | for_ (tg : Tg) (it : It) (body : List S)
  | whl (c : E) (body : List S)
  | ret (e : E)
  | retN
  | brk
  | cnt
  deriving Inhabited
inductive Out where
  | nx (env : Env) | ret (g : G) (env : Env) | brk (env : Env) | cnt (env : Env) | exc (x : Exn) (env : Env) | stk
/-- a loop over trees -/
def loopT (st : T → Env → Option Env) (f : Env → Out) : List T → Env → Out
  | [], env => .nx env
  | t :: ts, env => match st t env with
    | none => .stk
    | some env1 => match f env1 with
      | .nx env2 => loopT st f ts env2
      | .cnt env2 => loopT st f ts env2
      | .brk env2 => .nx env2
      | .ret g env2 => .ret g env2
      | .exc x env2 => .exc x env2
      | .stk => .stk
def loopW (c : Env → Res Bool) (f : Env → Out) : Nat → Env → Out
  | 0, _ => .stk
  | n + 1, env => match c env with
    | .ok true => match f env with
      | .nx env2 => loopW c f n env2
      | .cnt env2 => loopW c f n env2
      | .brk env2 => .nx env2
      | .ret g env2 => .ret g env2
      | .exc x env2 => .exc x env2
      | .stk => .stk
    | .ok false => .nx env
    | .exc _ => .stk
    | .stk => .stk
/-- a name whose slot holds an owned thing -/
def ownAt (env : Env) : E → Option (Nat × G)
  | .var i => match env[i]? with
    | some (some (.nod true k gs)) => some (i, .nod true k gs)
    | _ => none
  | _ => none
/-- a name that holds a borrowed thing -/
def borAt (env : Env) : E → Option G
  | .var i => match env[i]? with
    | some (some (.nod false k gs)) => some (.nod false k gs)
    | _ => none
  | _ => none
/-- the node at a way down, through owned nodes alone -/
def G.at (g : G) : List Nat → Option G
  | [] => some g
  | j :: js => match g with
    | .nod true _ gs => match gs[j]? with
      | some x => x.at js
      | none => none
    | _ => none
def plIx (q : Nat × List Nat) (gs : List G) (r : Res G) : Res (Nat × List Nat) := r.bind fun kk => (asInt kk).bind fun n => match ixN gs.length n with
  | some j => .ok (q.1, q.2 ++ [j])
  | none => .stk
/-- a place: the name, the way down -/
def evPl (Φ : Fns) (gl : Str → Option T) (env : Env) : Pl → Res (Nat × List Nat)
  | .var i => .ok (i, [])
  | .ix p k => (evPl Φ gl env p).bind fun q => match env[q.1]? with
    | some (some g0) => match g0.at q.2 with
      | some (.nod true .lst gs) => plIx q gs (ev Φ gl env k)
      | some (.nod true .tup gs) => plIx q gs (ev Φ gl env k)
      | _ => .stk
    | _ => .stk
/-- the list at a place, walked: its items, and the name that holds it -/
def itpX (env : Env) : Res (Nat × List Nat) → Res (List T × Option (Nat × G))
  | .ok (i, js) => match env[i]? with
    | some (some g0) => match g0.at js with
      | some (.nod true .lst gs) => match G.vals? gs with
        | some ts => .ok (ts, some (i, g0))
        | none => .stk
      | _ => .stk
    | _ => .stk
  | _ => .stk
/-- what is walked, from an environment: the items, the environment in the loop, what is to be put back -/
def evIt (Φ : Fns) (gl : Str → Option T) (env : Env) : It → Res (List T × Option (Nat × G))
  | .it e => match ownAt env e with
    | some (i, g) => match g.items with
      | some ts => .ok (ts, some (i, g))
      | none => .stk
    | none => match borAt env e with
      | some g => (match g.items with | some ts => .ok (ts, none) | none => .stk)
      | none => (ev Φ gl env e).bind fun g => if g.free then (match itItems (.val g.toT) with | some ts => .ok (ts, none) | none => .stk) else .stk
  | .rng1 a => (ev Φ gl env a).bind fun g => (asInt g).bind fun n => if smallI n then .ok (rngT 0 n.toNat, none) else .stk
  | .rng2 a b => (ev Φ gl env a).bind fun g => (asInt g).bind fun i => (ev Φ gl env b).bind fun g2 => (asInt g2).bind fun j => if smallI i && smallI j then .ok (rngT i (j - i).toNat, none) else .stk
  | .enm e => match ownAt env e with
    | some (i, .nod true .lst gs) => match G.vals? gs with
      | some ts => .ok (enmT ts, some (i, .nod true .lst gs))
      | none => .stk
    | some _ => .stk
    | none => match borAt env e with
      | some g => (match lstItems g with | some ts => .ok (enmT ts, none) | none => .stk)
      | none => (ev Φ gl env e).bind fun g => if g.free then (match g.parts with | some (.lst, gs) => (match G.vals? gs with | some ts => .ok (enmT ts, none) | none => .stk) | _ => .stk) else .stk
  | .rev e => (ev Φ gl env e).bind fun g => if g.free then (match lstItems g with | some ts => .ok (ts.reverse, none) | none => .stk) else .stk
  | .itp pl => itpX env (evPl Φ gl env pl)
  | .rrng a b => (ev Φ gl env a).bind fun g => (asInt g).bind fun i => (ev Φ gl env b).bind fun g2 => (asInt g2).bind fun j => if smallI i && smallI j then .ok ((rngT i (j - i).toNat).reverse, none) else .stk
  | .zip a b => (ev Φ gl env a).bind fun g => (ev Φ gl env b).bind fun h => if g.free && h.free then (match lstItems g, lstItems h with | some ts, some us => .ok (zipT ts us, none) | _, _ => .stk) else .stk
/-- reversed, of a value -/
def revW (r : Res G) : Res (List T × Option (Nat × G)) := r.bind fun g => if g.free then (match lstItems g with | some ts => .ok (ts.reverse, none) | none => .stk) else .stk
def hide (h : Option (Nat × G)) (env : Env) : Env := match h with
  | some (i, _) => env.set i none
  | none => env
def unhide (h : Option (Nat × G)) (env : Env) : Env := match h with
  | some (i, g) => env.set i (some g)
  | none => env
def Out.unhide (h : Option (Nat × G)) : Out → Out
  | .nx env => .nx (Bv.unhide h env)
  | o => o
def pinOf (h : Option (Nat × G)) (P : List Nat) : List Nat := match h with
  | some (i, _) => i :: P
  | none => P
/-- frozen -/
def G.frz (g : G) : G := .val g.toT
/-- owned at the top alone -/
def G.shal : G → G
  | .nod true k gs => .nod true k ((G.toTs gs).map .val)
  | g => g.frz
def owG (o : Ow) (g : G) : G := match o with
  | .frz => g.frz
  | .sh => g.shal
  | .own => g
/-- what is put into a list -/
def mvG (mv : Bool) (g : G) : G := if mv then g else g.frz
mutual
def evS (Φ : Fns) (gl : Str → Option T) (P : List Nat) (mv : Bool) (env : Env) : E → Res (G × Env)
  | .var i => match env[i]? with
    | some (some (.val t)) => .ok (.val t, env)
    | some (some (.nod o k gs)) => if (G.nod o k gs).free && !P.contains i then (if mv then .ok (.nod o k gs, env.set i none) else .ok (G.frz (.nod o k gs), env.set i (some (G.frz (.nod o k gs))))) else .stk
    | _ => .stk
  | .tup es => (evSs Φ gl P mv env es).bind fun p => if p.1.length ≤ sizeLine then (match G.vals? p.1 with | some ts => .ok (.val (.nod .tup ts), p.2) | none => .ok (.nod true .tup p.1, p.2)) else .stk
  | .lst es => (evSs Φ gl P mv env es).bind fun p => if p.1.length ≤ sizeLine then .ok (.nod true .lst p.1, p.2) else .stk
  | e => (ev Φ gl env e).bind fun g => if g.free then .ok (g, env) else .stk
def evSs (Φ : Fns) (gl : Str → Option T) (P : List Nat) (mv : Bool) (env : Env) : List E → Res (List G × Env)
  | [] => .ok ([], env)
  | e :: es => (evS Φ gl P mv env e).bind fun p => (evSs Φ gl P mv p.2 es).bind fun q => .ok (p.1 :: q.1, q.2)
end
/-- a tuple's items stored -/
def unpT (P : List Nat) (is : List Nat) (env : Env) : T → Out
  | .nod .tup ts => if (∀ i ∈ is, i ∉ P ∧ i < env.length) ∧ ts.length = is.length then (match setAll is ts env with | some env1 => .nx env1 | none => .stk) else .stk
  | _ => .stk
def G.put (g : G) (js : List Nat) (g' : G) : G := match js with
  | [] => g'
  | j :: js => match g with
    | .nod o k gs => match gs[j]? with
      | some x => .nod o k (gs.set j (x.put js g'))
      | none => .nod o k gs
    | g => g
/-- the owned list at a place is made another one -/
def chgO (i : Nat) (js : List Nat) (env : Env) (f : List G → Option (List G)) : Out := match env[i]? with
  | some (some g0) => match g0.at js with
    | some (.nod true .lst gs) => match f gs with
      | some gs' => .nx (env.set i (some (g0.put js (.nod true .lst gs'))))
      | none => .stk
    | _ => .stk
  | _ => .stk
/-- the owned node at a place is made another one -/
def chgA (i : Nat) (js : List Nat) (env : Env) (f : Kd → List G → Option (Kd × List G)) : Out := match env[i]? with
  | some (some g0) => match g0.at js with
    | some (.nod true kd gs) => match f kd gs with
      | some p => .nx (env.set i (some (g0.put js (.nod true p.1 p.2))))
      | none => .stk
    | _ => .stk
  | _ => .stk
def fldPut (f : Str) (g : G) : List Str → List G → Option (List Str × List G)
  | [], [] => some ([f], [g])
  | n :: ns, x :: gs => if n = f then (if x.val?.isSome then some (n :: ns, g :: gs) else none) else (fldPut f g ns gs).map fun p => (n :: p.1, x :: p.2)
  | _, _ => none
/-- a field stored -/
def fldF (Φ : Fns) (f : Str) (g : G) : Kd → List G → Option (Kd × List G)
  | .ins C ns, gs => if Φ.fld C f && decide (ns.length < 900) then (fldPut f g ns gs).map fun p => (.ins C p.1, p.2) else none
  | _, _ => none
/-- a dict of ints: what stands at n is t from now on -/
def putD (n : Int) (t : T) : Kd → List G → Option (Kd × List G)
  | .dct ks, gs => match G.vals? gs with
    | some ts => if gs.length < sizeLine then (if (ks.any fun k => decide (k = .inl (.inl n))) = true then some (.dct ks, (List.zipWith (fun k x => if k = (.inl (.inl n) : DK) then t else x) ks ts).map .val) else some (.dct (ks ++ [.inl (.inl n)]), (ts ++ [t]).map .val)) else none
    | none => none
  | _, _ => none
def appF (g : G) (gs : List G) : Option (List G) := if gs.length < sizeLine then some (gs ++ [g]) else none
def extF (g : G) (gs : List G) : Option (List G) := match g with
  | .nod true .lst hs => if gs.length + hs.length ≤ sizeLine then some (gs ++ hs) else none
  | _ => none
def lmF (m : LM) (gs : List G) : Option (List G) := match m with
  | .pop => if gs.isEmpty then none else some gs.dropLast
  | .clear => some []
  | .rev => some gs.reverse
def setF (n : Int) (g : G) (gs : List G) : Option (List G) := match ixN gs.length n with
  | some j => if (gs[j]?).any (fun x => x.val?.isSome) then some (gs.set j g) else none
  | none => none
/-- the int that stands at an item of the owned list at a place -/
def itemI (env : Env) (i : Nat) (js : List Nat) (n : Int) : Option Int := match env[i]? with
  | some (some g0) => match g0.at js with
    | some (.nod true .lst gs) => if 0 ≤ n then (match atI gs n with
      | some (.val (.int a)) => some a
      | _ => none) else none
    | _ => none
  | _ => none
def lndO (P : List Nat) (t : LT) (i : Nat) (v : Int) (env1 : Env) : Out := match t with
  | .asg j => if j ∉ P ∧ j < env1.length ∧ j ≠ i then .nx (env1.set j (some (.nod true .lst [.val (.int v)]))) else .stk
  | .app j => if j ≠ i then chgO j [] env1 (appF (.val (.int v))) else .stk
/-- a call by f(y, e), y owned: y is as f leaves it -/
def lndR (Φ : Fns) (i : Nat) (f : Str) (env : Env) : Option (Option G) → Res G → Res (Int × Env)
  | some (some (.nod true kd gs)), .ok (.val t2) => if G.frees gs then (match Φ.call f [.nod true kd gs, .val t2] with
    | .ok (.val (.int n)) [g'] => if g'.free then .ok (n, env.set i (some g')) else .stk
    | _ => .stk) else .stk
  | _, _ => .stk
def lndV (c : Option Int) (n : Int) : Int := match c with
  | some m => m + n
  | none => n
def lndX (P : List Nat) (t : LT) (c : Option Int) (i : Nat) : Res (Int × Env) → Out
  | .ok (n, env1) => lndO P t i (lndV c n) env1
  | _ => .stk
def isAny (Φ : Fns) (C : Str) : List Str → Option Bool
  | [] => some false
  | D :: Ds => match Φ.xsub C D with
    | some true => some true
    | some false => isAny Φ C Ds
    | none => none
def hatom (Φ : Fns) (x : Exn) (env : Env) : HA → Option Bool
  | .isx D => Φ.xsub x.cls D
  | .isxs Ds => isAny Φ x.cls Ds
  | .nloc j => match env[j]? with
    | some (some (.val (.bl b))) => some (!b)
    | _ => none
  | .nisb f => if Φ.xin x.cls = some f then (match x.fs with
    | [(g, t)] => if g = f then (match isiT t (.ty "bool") with
      | .ok b => some (!b)
      | _ => none) else none
    | _ => none) else none
  | .feq f n => if Φ.xin x.cls = some f then (match x.fs with
    | [(g, t)] => if g = f then (match cmpT .eq t (.int n) with
      | .ok b => some b
      | _ => none) else none
    | _ => none) else none
  | .isd g f n => if Φ.isd g = true ∧ Φ.xin x.cls = some f then (match x.fs with
    | [(h, .int i)] => if h = f then some (decide (i = n)) else none
    | _ => none) else none
def hall (Φ : Fns) (x : Exn) (env : Env) : List HA → Option Bool
  | [] => none
  | [a] => hatom Φ x env a
  | a :: as => match hatom Φ x env a with
    | some true => hall Φ x env as
    | some false => some false
    | none => none
/-- an except suite; i: the exception's slot -/
def hexec (Φ : Fns) (P : List Nat) (x : Exn) (i : Nat) : List HS → Env → Out
  | [.ret as], env => match hall Φ x env as with
    | some b => .ret (.val (.bl b)) env
    | none => .stk
  | .asg j a :: r, env => if j ∉ P ∧ j < env.length ∧ j ≠ i then (match hatom Φ x env a with
    | some b => hexec Φ P x i r (env.set j (some (.val (.bl b))))
    | none => .stk) else .stk
  | _, _ => .stk
/-- behind a try's body -/
def tryX (Φ : Fns) (P : List Nat) (C : Str) (i : Nat) (hs : List HS) : Out → Out
  | .exc x env1 => match Φ.xsub x.cls C with
    | some true => if i < env1.length then hexec Φ P x i hs (env1.set i none) else .stk
    | _ => .stk
  | o => o
/-! except suites with values -/
def xfB (Φ : Fns) (C fd : Str) : Bool := (match Φ.xin C with
  | some f => f == fd
  | none => false) || (match Φ.xin2 C with
  | some p => p.1 == fd || p.2 == fd
  | none => false)
def subsX (Φ : Fns) (C : Str) : List Str → Option (List Bool)
  | [] => some []
  | D :: Ds => match Φ.xsub C D, subsX Φ C Ds with
    | some b, some bs => some (b :: bs)
    | _, _ => none
def kindX (Φ : Fns) (C : Str) (Cs : List Str) : Option Int := match subsX Φ C Cs, Φ.xsub C "ValueError" with
  | some bs, some v => kdN bs v
  | _, _ => none
def heIx (n : Int) (g : G) : Option T := match g.parts with
  | some (.lst, gs) => match atI gs n with
    | some (.val t) => some t
    | _ => none
  | _ => none
def heval (Φ : Fns) (x : Exn) (env : Env) : HE → Option T
  | .v j => match env[j]? with
    | some (some (.val t)) => some t
    | _ => none
  | .f fd => if xfB Φ x.cls fd then x.fs.lookup fd else none
  | .ix j h => match heval Φ x env h with
    | some (.int n) => match env[j]? with
      | some (some g) => heIx n g
      | _ => none
    | _ => none
  | .tp a b => match heval Φ x env a, heval Φ x env b with
    | some t, some u => some (.nod .tup [t, u])
    | _, _ => none
  | .kd g => match Φ.xkd g with
    | some Cs => (kindX Φ x.cls Cs).map .int
    | none => none
/-- a suite of such; i: the exception's slot -/
def hrun (Φ : Fns) (P : List Nat) (x : Exn) (i : Nat) : List HT → Env → Out
  | [], env => .nx (env.set i none)
  | .asg j h :: r, env => match heval Φ x env h with
    | some t => if j ∉ P ∧ j < env.length ∧ j ≠ i then hrun Φ P x i r (env.set j (some (.val t))) else .stk
    | none => .stk
  | .app j h :: r, env => match heval Φ x env h with
    | some t => match chgO j [] env (appF (.val t)) with
      | .nx env1 => hrun Φ P x i r env1
      | _ => .stk
    | none => .stk
/-- the first clause that takes the exception -/
def hdsX (Φ : Fns) (P : List Nat) (x : Exn) : List (Str × Nat × List HT) → Env → Out
  | [], env => .exc x env
  | (C, i, ts) :: r, env => match Φ.xsub x.cls C with
    | some true => if i ∉ P ∧ i < env.length then hrun Φ P x i ts (env.set i none) else .stk
    | some false => hdsX Φ P x r env
    | none => .stk
def tryMO (Φ : Fns) (P : List Nat) (hds : List (Str × Nat × List HT)) (els : Env → Out) : Out → Out
  | .nx env1 => els env1
  | .exc x env1 => hdsX Φ P x hds env1
  | o => o
def raise2X (Φ : Fns) (C : Str) (env : Env) : Res (List G) → Out
  | .ok [.val t, .val u] => match Φ.xin2 C with
    | some (f, g) => .exc ⟨C, [(g, u), (f, t)]⟩ env
    | none => .stk
  | _ => .stk
/-- a tuple's part, the tuple given up -/
def takeX (P : List Nat) (i j : Nat) (k : Int) (env : Env) : Out := match env[j]? with
  | some (some (.nod true .tup gs)) => match atI gs k with
    | some g => if g.free = true ∧ i ∉ P ∧ j ∉ P ∧ i ≠ j ∧ i < env.length then .nx ((env.set j none).set i (some g)) else .stk
    | none => .stk
  | _ => .stk
def expO (env : Env) : CRes → Out
  | .ok r _ => if r.free then .nx env else .stk
  | .exc x _ => .exc x env
  | .stk => .stk
/-- no exception is told of -/
def hardR {α : Type} : Res α → Res α
  | .ok a => .ok a
  | _ => .stk
def callXR : CRes → Res G
  | .ok r _ => if r.free then .ok r else .stk
  | .exc x _ => .exc x
  | .stk => .stk
def evXc (Φ : Fns) (gl : Str → Option T) (env : Env) (f : Str) (es : List E) : Res G := (hardR (evs Φ gl env es)).bind fun gs => callXR (Φ.call f (G.args gs))
def evXa (Φ : Fns) (gl : Str → Option T) (env : Env) : XA → Res G
  | .e e => hardR (ev Φ gl env e)
  | .call f es => evXc Φ gl env f es
def evXas (Φ : Fns) (gl : Str → Option T) (env : Env) : List XA → Res (List G)
  | [] => .ok []
  | a :: as => (evXa Φ gl env a).bind fun g => (evXas Φ gl env as).bind fun gs => .ok (g :: gs)
def evXl (Φ : Fns) (gl : Str → Option T) (env : Env) (i : Nat) (f : Str) (es : List E) (g : G) : Res G := match lstItems g with
  | some ts => if ts.length ≤ sizeLine then (lcT (tgSet [] 0 (.nm i)) (fun env1 => evAnd Φ gl env1 []) (fun env1 => evXc Φ gl env1 f es) (wipeE [i] env) ts).bind fun rs => .ok (.nod true .lst rs) else .stk
  | none => .stk
def evX (Φ : Fns) (gl : Str → Option T) (env : Env) : EX → Res G
  | .call f es => evXc Φ gl env f es
  | .mk C as => if (Φ.init C).isSome then (evXas Φ gl env as).bind fun gs => hardR (mkG Φ C gs) else .stk
  | .lc i it f es => (hardR (ev Φ gl env it)).bind fun g => evXl Φ gl env i f es g
def asgXO (P : List Nat) (i : Nat) (o : Ow) (env : Env) : Res G → Out
  | .ok g => if g.free = true ∧ i ∉ P ∧ i < env.length then .nx (env.set i (some (owG o g))) else .stk
  | .exc x => .exc x env
  | .stk => .stk
def retXO (env : Env) : Res G → Out
  | .ok g => if g.free = true then .ret g env else .stk
  | .exc x => .exc x env
  | .stk => .stk
/-- a text, the first place of another one exchanged -/
def rep1 (a y z : Str) : Str := Builtin.Str.glued z (Builtin.Str.partsBetween a (Builtin.Str.occurrences a y 0 a.length 1) y.length)
def repOk (a y z : Str) : Bool := !(Builtin.Str.occurrences a y 0 a.length 1).isEmpty && !(y.length == 0) && !(y == z) && decide (a.length + z.length ≤ 16777216)
def repX (Φ : Fns) (f y z : Str) (env : Env) : Option (Option G) → Res G → Out
  | some (some (.val (.str a))), .ok (.val t) => if repOk a y z then retXO env (hardR (backR (Φ.call f [.val (.str (rep1 a y z)), .val t]))) else .stk
  | _, _ => .stk
mutual
def exec (Φ : Fns) (gl : Str → Option T) (P : List Nat) : S → Env → Out
  | .asg i o e, env => match evS Φ gl P false env e with
    | .ok (g, env1) => if i ∉ P ∧ i < env1.length then .nx (env1.set i (some (owG o g))) else .stk
    | .exc _ => .stk
    | .stk => .stk
  | .asgX i o x, env => asgXO P i o env (evX Φ gl env x)
  | .retRep f i y z e, env => repX Φ f y z env env[i]? (ev Φ gl env e)
  | .retX x, env => retXO env (evX Φ gl env x)
  | .unp is e, env => match ev Φ gl env e with
    | .ok g => if g.free then unpT P is env g.toT else .stk
    | .exc _ => .stk
    | .stk => .stk
  | .app pl mv e, env => match evPl Φ gl env pl with
    | .ok (i, js) => match evS Φ gl (i :: P) mv env e with
      | .ok (g, env1) => chgO i js env1 (appF (mvG mv g))
      | .exc _ => .stk
      | .stk => .stk
    | .exc _ => .stk
    | .stk => .stk
  | .ext pl e, env => match evPl Φ gl env pl with
    | .ok (i, js) => match evS Φ gl (i :: P) true env e with
      | .ok (g, env1) => chgO i js env1 (extF g)
      | .exc _ => .stk
      | .stk => .stk
    | .exc _ => .stk
    | .stk => .stk
  | .seti pl k mv e, env => match evS Φ gl (plVar pl :: P) mv env e with
    | .ok (g, env1) => match evPl Φ gl env1 pl with
      | .ok (i, js) => match (ev Φ gl env1 k).bind asInt with
        | .ok n => chgO i js env1 (setF n (mvG mv g))
        | .exc _ => .stk
        | .stk => .stk
      | .exc _ => .stk
      | .stk => .stk
    | .exc _ => .stk
    | .stk => .stk
  | .augi pl k sub e, env => match evPl Φ gl env pl with
    | .ok (i, js) => match (ev Φ gl env k).bind asInt with
      | .ok n => match itemI env i js n with
        | some a => match (ev Φ gl env e).bind asInt with
          | .ok b => chgO i js env (setF n (.val (.int (if sub then a - b else a + b))))
          | .exc _ => .stk
          | .stk => .stk
        | none => .stk
      | .exc _ => .stk
      | .stk => .stk
    | .exc _ => .stk
    | .stk => .stk
  | .setf i f e, env => match evS Φ gl (i :: P) false env e with
    | .ok (g, env1) => chgA i [] env1 (fldF Φ f g)
    | .exc _ => .stk
    | .stk => .stk
  | .setk i k e, env => match ev Φ gl env e, ev Φ gl env k with
    | .ok (.val t), .ok (.val (.int n)) => chgA i [] env (putD n t)
    | _, _ => .stk
  | .lnd t c i f e, env => lndX P t c i (lndR Φ i f env env[i]? (ev Φ gl env e))
  | .dead, env => .stk
  | .raise C, env => if Φ.xcl C then .exc ⟨C, []⟩ env else .stk
  | .raise1 C e, env => match ev Φ gl env e with
    | .ok (.val t) => match Φ.xin C with
      | some f => if flatT t then .exc ⟨C, [(f, t)]⟩ env else .stk
      | none => .stk
    | _ => .stk
  | .raise2 C a b, env => raise2X Φ C env (evs Φ gl env [a, b])
  | .take i j k, env => takeX P i j k env
  | .tryM body hds els, env => tryMO Φ P hds (fun env1 => execs Φ gl P els env1) (execs Φ gl P body env)
  | .exp f es, env => match evs Φ gl env es with
    | .ok gs => expO env (Φ.call f (G.args gs))
    | _ => .stk
  | .tryE body C i hs, env => if i ∉ P ∧ i < env.length then tryX Φ P C i hs (execs Φ gl P body env) else .stk
  | .lm pl m, env => match evPl Φ gl env pl with
    | .ok (i, js) => chgO i js env (lmF m)
    | .exc _ => .stk
    | .stk => .stk
  | .ite c a b, env => match evB Φ gl env c with
    | .ok true => execs Φ gl P a env
    | .ok false => execs Φ gl P b env
    | .exc _ => .stk
    | .stk => .stk
  | .for_ tg it body, env => match evIt Φ gl env it with
    | .ok (ts, h) => (loopT (tgSet (pinOf h P) 0 tg) (execs Φ gl (pinOf h P) body) ts (hide h env)).unhide h
    | .exc _ => .stk
    | .stk => .stk
  | .whl c body, env => loopW (fun env => evB Φ gl env c) (execs Φ gl P body) 100000 env
  | .ret e, env => match evS Φ gl P true env e with
    | .ok (g, env1) => .ret g env1
    | .exc _ => .stk
    | .stk => .stk
  | .retN, env => .ret (.val .non) env
  | .brk, env => .brk env
  | .cnt, env => .cnt env
def execs (Φ : Fns) (gl : Str → Option T) (P : List Nat) : List S → Env → Out
  | [], env => .nx env
  | s :: ss, env => match exec Φ gl P s env with
    | .nx env1 => execs Φ gl P ss env1
    | o => o
end
/-- the places of what is lent -/
def lentIx : Nat → List G → List Nat
  | _, [] => []
  | n, .nod true _ _ :: gs => n :: lentIx (n + 1) gs
  | n, _ :: gs => lentIx (n + 1) gs
/-- what was lent, as it is now -/
def lentOut (env : Env) : List Nat → Option (List G)
  | [] => some []
  | i :: is => match env[i]? with
    | some (some (.nod true k gs)) => (lentOut env is).map (.nod true k gs :: ·)
    | _ => none
def endR (r : G) : Option (List G) → CRes
  | some gs => .ok r gs
  | none => .stk
/-- a def's run: the arguments, then empty slots -/
def runF (Φ : Fns) (gl : Str → Option T) (n : Nat) (body : List S) (gs : List G) : CRes :=
  match execs Φ gl (lentIx 0 gs) body (gs.map some ++ List.replicate (n - gs.length) none) with
  | .ret g env => endR g (lentOut env (lentIx 0 gs))
  | .nx env => endR (.val .non) (lentOut env (lentIx 0 gs))
  | .exc x _ => .exc x []
  | _ => .stk
end Bv
set_option maxRecDepth 100000
set_option maxHeartbeats 1000000
/-! Part 9: a frame's slots. -/
namespace Bv
open PySem L2
def RS (cA : CA) (HP HB H : Hp) : Env → St → List Addr → Prop
  | [], σ, O => σ = [] ∧ O = []
  | none :: env, σ, O => ∃ o r, σ = o :: r ∧ RS cA HP HB H env r O
  | some g :: env, σ, O => ∃ v r O1 O2, σ = some v :: r ∧ RG cA HP HB H g v O1 ∧ RS cA HP HB H env r O2 ∧ O = O1 ++ O2
section
variable [TC] {cA : CA} {HP HP' HB HB' H H' : Hp} {O O1 O2 : List Addr}
mutual
/-- a change elsewhere -/
theorem RG.upd {p : Addr} {o : HO} : ∀ {g : G} {v : V} {O : List Addr}, p ∉ O → RG cA HP HB H g v O → RG cA HP HB (upd H p o) g v O
  | .val _, _, _, _, h => h
  | .nod true k gs, _, _, n, ⟨q, vs, O', h1, h2, h3, h4⟩ => by
    subst h4
    have ne : q ≠ p := fun e => n (by rw [e]; exact List.mem_cons_self)
    refine ⟨q, vs, O', h1, ?_, RGs.upd (fun z => n (List.mem_cons_of_mem _ z)) h3, rfl⟩
    cases k with
    | tup => exact (upd_ne ne).trans h2
    | lst => exact (upd_ne ne).trans h2
    | dct ks => obtain ⟨o, h1, h2⟩ := h2; exact ⟨o, h1, (upd_ne ne).trans h2⟩
    | ins C ns => obtain ⟨h1, dx, h2⟩ := h2; exact ⟨h1, dx, (upd_ne ne).trans h2⟩
  | .nod false _ _, _, _, n, ⟨q, vs, h1, h2, h3⟩ => ⟨q, vs, h1, h2, RGs.upd n h3⟩
theorem RGs.upd {p : Addr} {o : HO} : ∀ {gs : List G} {vs : List V} {O : List Addr}, p ∉ O → RGs cA HP HB H gs vs O → RGs cA HP HB (upd H p o) gs vs O
  | [], _, _, _, h => h
  | _ :: _, _, _, n, ⟨v, r, O1, O2, h1, h2, h3, h4⟩ => by
    subst h4
    exact ⟨v, r, O1, O2, h1, RG.upd (fun z => n (List.mem_append_left _ z)) h2, RGs.upd (fun z => n (List.mem_append_right _ z)) h3, rfl⟩
end
theorem RS.mono (eP : Ex HP HP') (eB : Ex HB HB') (e : Ex H H') : ∀ {env : Env} {σ : St} {O : List Addr}, RS cA HP HB H env σ O → RS cA HP' HB' H' env σ O
  | [], _, _, h => h
  | none :: _, _, _, ⟨o, r, h1, h2⟩ => ⟨o, r, h1, RS.mono eP eB e h2⟩
  | some _ :: _, _, _, ⟨v, r, O1, O2, h1, h2, h3, h4⟩ => ⟨v, r, O1, O2, h1, h2.mono eP eB e, RS.mono eP eB e h3, h4⟩
theorem RS.upd {p : Addr} {o : HO} : ∀ {env : Env} {σ : St} {O : List Addr}, p ∉ O → RS cA HP HB H env σ O → RS cA HP HB (upd H p o) env σ O
  | [], _, _, _, h => h
  | none :: _, _, _, n, ⟨o, r, h1, h2⟩ => ⟨o, r, h1, RS.upd n h2⟩
  | some _ :: _, _, _, n, ⟨v, r, O1, O2, h1, h2, h3, h4⟩ => by
    subst h4
    exact ⟨v, r, O1, O2, h1, h2.upd (fun z => n (List.mem_append_left _ z)), RS.upd (fun z => n (List.mem_append_right _ z)) h3, rfl⟩
theorem RS.len : ∀ {env : Env} {σ : St} {O : List Addr}, RS cA HP HB H env σ O → env.length = σ.length
  | [], _, _, h => by rw [h.1]; rfl
  | none :: _, _, _, ⟨o, r, h1, h2⟩ => by rw [h1, List.length_cons, List.length_cons, RS.len h2]
  | some _ :: _, _, _, ⟨v, r, O1, O2, h1, h2, h3, h4⟩ => by rw [h1, List.length_cons, List.length_cons, RS.len h3]
theorem RS.ownIn : ∀ {env : Env} {σ : St} {O : List Addr}, RS cA HP HB H env σ O → ∀ p ∈ O, ∃ o, H p = some o
  | [], _, _, h => by intro p hp; rw [h.2] at hp; cases hp
  | none :: _, _, _, ⟨o, r, h1, h2⟩ => RS.ownIn h2
  | some _ :: _, _, _, ⟨v, r, O1, O2, h1, h2, h3, h4⟩ => by
    intro p hp
    rw [h4] at hp
    rcases List.mem_append.mp hp with hp | hp
    · exact h2.ownIn p hp
    · exact RS.ownIn h3 p hp
/-- a slot read -/
theorem RS.get : ∀ {env : Env} {σ : St} {O : List Addr} {i : Nat} {g : G}, RS cA HP HB H env σ O → env[i]? = some (some g) → ∃ v O1, σ[i]? = some (some v) ∧ RG cA HP HB H g v O1
  | [], _, _, _, _, _, e => by simp at e
  | none :: _, _, _, 0, _, _, e => by simp at e
  | none :: _, _, _, i + 1, g, ⟨o, r, h1, h2⟩, e => by
    subst h1
    obtain ⟨v, O1, a, b⟩ := RS.get (i := i) (g := g) h2 (by simpa using e)
    exact ⟨v, O1, by simpa using a, b⟩
  | some _ :: _, _, _, 0, g, ⟨v, r, O1, O2, h1, h2, h3, h4⟩, e => by
    simp at e; subst e; subst h1
    exact ⟨v, O1, rfl, h2⟩
  | some _ :: _, _, _, i + 1, g, ⟨v, r, O1, O2, h1, h2, h3, h4⟩, e => by
    subst h1
    obtain ⟨w, O', a, b⟩ := RS.get (i := i) (g := g) h3 (by simpa using e)
    exact ⟨w, O', by simpa using a, b⟩
theorem RS.pv (eB : Ex HB H) {env : Env} {σ : St} (h : RS cA HP HB H env σ O) : PV cA HP H env σ := ⟨fun i g e => by
  obtain ⟨v, O1, a, b⟩ := h.get e
  exact ⟨v, a, b.bor eB⟩, h.len⟩
/-- a slot emptied -/
theorem RS.hide : ∀ {env : Env} {σ : St} {O : List Addr} {i : Nat} {g : G}, RS cA HP HB H env σ O → env[i]? = some (some g) → ∃ v O1 O2, σ[i]? = some (some v) ∧ RG cA HP HB H g v O1 ∧ RS cA HP HB H (env.set i none) σ O2 ∧ O.Perm (O1 ++ O2)
  | [], _, _, _, _, _, e => by simp at e
  | none :: _, _, _, 0, _, _, e => by simp at e
  | none :: _, _, _, i + 1, g, ⟨o, r, h1, h2⟩, e => by
    subst h1
    obtain ⟨v, O1, O2, a, b, c, d⟩ := RS.hide (i := i) (g := g) h2 (by simpa using e)
    exact ⟨v, O1, O2, by simpa using a, b, ⟨o, r, rfl, c⟩, d⟩
  | some _ :: env, _, _, 0, g, ⟨v, r, O1, O2, h1, h2, h3, h4⟩, e => by
    simp at e; subst e; subst h1
    exact ⟨v, O1, O2, rfl, h2, ⟨some v, r, rfl, h3⟩, by rw [h4]⟩
  | some _ :: _, _, _, i + 1, g, ⟨v, r, O1, O2, h1, h2, h3, h4⟩, e => by
    subst h1
    obtain ⟨w, A, B, a, b, c, d⟩ := RS.hide (i := i) (g := g) h3 (by simpa using e)
    refine ⟨w, A, O1 ++ B, by simpa using a, b, ⟨v, r, O1, B, rfl, h2, c, rfl⟩, ?_⟩
    rw [h4]
    exact (List.Perm.append_left O1 d).trans (by rw [← List.append_assoc, ← List.append_assoc]; exact List.Perm.append_right B List.perm_append_comm)
/-- any slot dropped -/
theorem RS.drop : ∀ {env : Env} {σ : St} {O : List Addr} (i : Nat) (w : Option V), RS cA HP HB H env σ O → ∃ O1 O2, RS cA HP HB H (env.set i none) (σ.set i w) O2 ∧ O.Perm (O1 ++ O2)
  | [], _, _, i, w, h => ⟨[], [], by rw [h.1]; exact ⟨rfl, rfl⟩, by rw [h.2]; exact .refl _⟩
  | none :: _, _, _, 0, w, ⟨o, r, h1, h2⟩ => ⟨[], _, by rw [h1]; exact ⟨w, r, rfl, h2⟩, .refl _⟩
  | some _ :: _, _, _, 0, w, ⟨v, r, O1, O2, h1, h2, h3, h4⟩ => ⟨O1, O2, by rw [h1]; exact ⟨w, r, rfl, h3⟩, by rw [h4]⟩
  | none :: _, _, _, i + 1, w, ⟨o, r, h1, h2⟩ => by
    obtain ⟨A, B, c, d⟩ := RS.drop i w h2
    subst h1
    exact ⟨A, B, ⟨o, _, rfl, c⟩, d⟩
  | some _ :: _, _, _, i + 1, w, ⟨v, r, O1, O2, h1, h2, h3, h4⟩ => by
    obtain ⟨A, B, c, d⟩ := RS.drop i w h3
    subst h1
    refine ⟨A, O1 ++ B, ⟨v, _, O1, B, rfl, h2, c, rfl⟩, ?_⟩
    rw [h4]
    exact (List.Perm.append_left O1 d).trans (by rw [← List.append_assoc, ← List.append_assoc]; exact List.Perm.append_right B List.perm_append_comm)
/-- an empty slot filled -/
theorem RS.fill : ∀ {env : Env} {σ : St} {O Og : List Addr} {i : Nat} {g : G} {v : V}, RS cA HP HB H env σ O → env[i]? = some none → σ[i]? = some (some v) → RG cA HP HB H g v Og → ∃ O', RS cA HP HB H (env.set i (some g)) σ O' ∧ O'.Perm (Og ++ O)
  | [], _, _, _, _, _, _, _, e, _, _ => by simp at e
  | none :: env, _, O, Og, 0, g, v, ⟨o, r, h1, h2⟩, _, e, rg => by
    subst h1
    simp at e; subst e
    exact ⟨Og ++ O, ⟨v, r, Og, O, rfl, rg, h2, rfl⟩, .refl _⟩
  | some _ :: _, _, _, _, 0, _, _, _, e, _, _ => by simp at e
  | none :: _, _, _, _, i + 1, g, v, ⟨o, r, h1, h2⟩, e1, e2, rg => by
    subst h1
    obtain ⟨O', a, b⟩ := RS.fill (i := i) h2 (by simpa using e1) (by simpa using e2) rg
    exact ⟨O', ⟨o, r, rfl, a⟩, b⟩
  | some _ :: _, _, _, Og, i + 1, g, v, ⟨w, r, O1, O2, h1, h2, h3, h4⟩, e1, e2, rg => by
    subst h1
    obtain ⟨O', a, b⟩ := RS.fill (i := i) h3 (by simpa using e1) (by simpa using e2) rg
    refine ⟨O1 ++ O', ⟨w, r, O1, O', rfl, h2, a, rfl⟩, ?_⟩
    rw [h4]
    exact (List.Perm.append_left O1 b).trans (by rw [← List.append_assoc, ← List.append_assoc]; exact List.Perm.append_right O2 List.perm_append_comm)
end
/-- what is fixed through a def's run; HX: a guard -/
structure Fk where
  HP0 : Hp
  H0 : Hp
  L : List Addr
  HX : Hp
abbrev Fk.HB (k : Fk) : Hp := mn k.H0 k.L
/-- may be owned here -/
def Fk.mine (k : Fk) (HP : Hp) (p : Addr) : Prop := (k.H0 p = none ∨ p ∈ k.L) ∧ HP p = none ∧ k.HX p = none
structure SR [TC] (cA : CA) (k : Fk) (HP H : Hp) (env : Env) (σ : St) (O : List Addr) : Prop where
  rs : RS cA HP k.HB H env σ O
  tb : Tbs H
  nd : O.Nodup
  own0 : ∀ p ∈ O, k.mine HP p
  eP : Ex HP H
  eB : Ex k.HB H
  eX : Ex k.HX H
  ex0 : Ex k.HP0 HP
  new0 : ∀ p, HP p ≠ none → k.HP0 p ≠ none ∨ ((k.H0 p = none ∨ p ∈ k.L) ∧ k.HX p = none)
section
variable [TC] {cA : CA} {k : Fk} {HP HP1 H H1 : Hp} {env : Env} {σ : St} {O : List Addr}
theorem SR.pv (s : SR cA k HP H env σ O) : PV cA HP H env σ := s.rs.pv s.eB
theorem SR.hs (s : SR cA k HP H env σ O) : Eh H H := ⟨Ex.refl _, s.tb⟩
theorem SR.free (s : SR cA k HP H env σ O) {p : Addr} (h : H p = none) : (k.H0 p = none ∨ p ∈ k.L) ∧ k.HX p = none := by
  refine ⟨?_, s.eX.none h⟩
  have z := s.eB.none h
  unfold Fk.HB mn at z
  by_cases q : p ∈ k.L
  · exact .inr q
  · rw [if_neg q] at z; exact .inl z
theorem SR.step (s : SR cA k HP H env σ O) (st : Step HP H HP1 H1) : SR cA k HP1 H1 env σ O where
  rs := s.rs.mono st.exP (Ex.refl _) st.ex
  tb := st.tb s.tb
  nd := s.nd
  own0 := fun p hp => by
    obtain ⟨a, b, c⟩ := s.own0 p hp
    refine ⟨a, ?_, c⟩
    cases q : HP1 p with
    | none => rfl
    | some u =>
      rcases st.new p (by rw [q]; simp) with z | z
      · exact absurd b z
      · obtain ⟨o, e⟩ := s.rs.ownIn p hp
        rw [e] at z; cases z
  eP := st.sees
  eB := s.eB.trans st.ex
  eX := s.eX.trans st.ex
  ex0 := s.ex0.trans st.exP
  new0 := fun p hp => (st.new p hp).elim (s.new0 p) fun z => .inr (s.free z)
/-- some of the owned is frozen -/
theorem SR.adP (s : SR cA k HP H env σ O) {Oi O2 : List Addr} {env2 : Env} {σ2 : St} (r : RS cA HP k.HB H env2 σ2 O2) (h1 : ∀ p ∈ Oi, k.mine HP p) (h2 : ∀ p ∈ O2, k.mine HP p) (nd : (Oi ++ O2).Nodup) : SR cA k (ad HP Oi H) H env2 σ2 O2 where
  rs := r.mono (ex_ad s.eP) (Ex.refl _) (Ex.refl _)
  tb := s.tb
  nd := (List.nodup_append.mp nd).2.1
  own0 := fun p hp => by
    obtain ⟨a, b, c⟩ := h2 p hp
    refine ⟨a, ?_, c⟩
    rw [ad_out fun z => (List.nodup_append.mp nd).2.2 p z p hp rfl]
    exact b
  eP := ad_ex s.eP
  eB := s.eB
  eX := s.eX
  ex0 := s.ex0.trans (ex_ad s.eP)
  new0 := fun p hp => by
    by_cases q : p ∈ Oi
    · exact .inr ⟨(h1 p q).1, (h1 p q).2.2⟩
    · rw [ad_out q] at hp; exact s.new0 p hp
end
end Bv
set_option maxRecDepth 100000
set_option maxHeartbeats 1000000
/-! Part 10: values for keeps. -/
namespace Bv
open PySem L2
/-- what the making of a value leaves -/
structure StO (HP H : Hp) (O : List Addr) (HP1 H1 : Hp) : Prop where
  ex : Ex H H1
  exP : Ex HP HP1
  new : ∀ p, HP1 p ≠ none → HP p ≠ none ∨ H p = none ∨ p ∈ O
theorem StO.refl {HP H : Hp} {O : List Addr} : StO HP H O HP H := ⟨Ex.refl _, Ex.refl _, fun _ h => .inl h⟩
theorem Step.toO [TC] {HP H HP1 H1 : Hp} {O : List Addr} (s : Step HP H HP1 H1) : StO HP H O HP1 H1 := ⟨s.ex, s.exP, fun p h => (s.new p h).elim .inl fun z => .inr (.inl z)⟩
theorem StO.trans {HP H HP1 H1 HP2 H2 : Hp} {O O1 : List Addr} (a : StO HP H O HP1 H1) (b : StO HP1 H1 O1 HP2 H2) (s : ∀ p ∈ O1, p ∈ O ∨ H p = none) : StO HP H O HP2 H2 :=
  ⟨a.ex.trans b.ex, a.exP.trans b.exP, fun p h => (b.new p h).elim (a.new p) fun z => z.elim (fun z => .inr (.inl (a.ex.none z))) fun z => (s p z).elim (fun q => .inr (.inr q)) fun q => .inr (.inl q)⟩
def plainE : E → Bool
  | .var _ => false
  | .tup _ => false
  | .lst _ => false
  | _ => true
def WpS [TC] (cA : CA) (k : Fk) (r : Res (G × Env)) (HP H : Hp) (O : List Addr) (σ : St) (Q : VK) : Prop := match r with
  | .ok (g, env1) => ∀ v HP1 H1 Og O1, RG cA HP1 k.HB H1 g v Og → SR cA k HP1 H1 env1 σ O1 → (Og ++ O1).Nodup → (∀ p ∈ Og, k.mine HP1 p) → (∀ p ∈ Og ++ O1, p ∈ O ∨ H p = none) → StO HP H O HP1 H1 → Q v H1
  | .exc _ => False
  | .stk => False
def WpSs [TC] (cA : CA) (k : Fk) (r : Res (List G × Env)) (HP H : Hp) (O : List Addr) (σ : St) (Q : List V → Hp → Prop) : Prop := match r with
  | .ok (gs, env1) => ∀ vs HP1 H1 Og O1, RGs cA HP1 k.HB H1 gs vs Og → SR cA k HP1 H1 env1 σ O1 → (Og ++ O1).Nodup → (∀ p ∈ Og, k.mine HP1 p) → (∀ p ∈ Og ++ O1, p ∈ O ∨ H p = none) → StO HP H O HP1 H1 → Q vs H1
  | .exc _ => False
  | .stk => False
section
variable [TC] {X : Cx} {CX : CXT} {XE : XK} {tb : Tb} {sc : Scope} {Φ : Fns} {gl : Str → Option T} {cA : CA} {P : List Nat} {mv : Bool}
def SndS (X : Cx) (Φ : Fns) (gl : Str → Option T) (cA : CA) (P : List Nat) (mv : Bool) (ex : Expr) (e : E) : Prop :=
  ∀ k env σ HP H O Q, SR cA k HP H env σ O → WpS cA k (evS Φ gl P mv env e) HP H O σ Q → wpE X ex σ H Q
def SndSs (X : Cx) (Φ : Fns) (gl : Str → Option T) (cA : CA) (P : List Nat) (mv : Bool) (exs : List Expr) (es : List E) : Prop :=
  ∀ k env σ HP H O Q, SR cA k HP H env σ O → WpSs cA k (evSs Φ gl P mv env es) HP H O σ Q → wpA X exs σ H Q
theorem toE_cases {n : Nat} {ex : Expr} {e : E} (h : toE tb sc n ex = some e) : (∃ x pos i, ex = .Name x pos ∧ e = .var i ∧ visB sc x = true ∧ sane x = true ∧ slotOf tb.N x = some i) ∨ (∃ es x1 pos as m, n = m + 1 ∧ ex = .Tuple es x1 pos ∧ e = .tup as ∧ toEs (toE tb sc m) es = some as) ∨
    (∃ es pos as m, n = m + 1 ∧ ex = .List es pos ∧ e = .lst as ∧ toEs (toE tb sc m) es = some as) ∨ plainE e = true := by
  cases n with
  | zero => cases h
  | succ n =>
    unfold toE at h
    split at h
    · split at h
      · rename_i h1
        split at h
        · rename_i h2
          cases q : slotOf tb.N _ with
          | none => rw [q] at h; cases h
          | some i => rw [q] at h; cases h; exact .inl ⟨_, _, i, rfl, rfl, h1, h2, q⟩
        · cases h
      · split at h
        · cases h; exact .inr (.inr (.inr rfl))
        · cases h
    · cases h; exact .inr (.inr (.inr rfl))
    · cases h; exact .inr (.inr (.inr rfl))
    · cases h; exact .inr (.inr (.inr rfl))
    · cases h; exact .inr (.inr (.inr rfl))
    · split at h
      · cases h; exact .inr (.inr (.inr rfl))
      · cases h
    · rename_i a _
      cases q : toE tb sc n a with
      | none => rw [q] at h; cases h
      | some x => rw [q] at h; cases h; exact .inr (.inr (.inr rfl))
    · rename_i a _
      cases q : toE tb sc n a with
      | none => rw [q] at h; cases h
      | some x => rw [q] at h; cases h; exact .inr (.inr (.inr rfl))
    · split at h
      · cases h; exact .inr (.inr (.inr rfl))
      · cases h
    · rename_i a as _
      cases q : toEs (toE tb sc n) (a :: as) with
      | none => rw [q] at h; cases h
      | some xs => rw [q] at h; cases h; exact .inr (.inr (.inr rfl))
    · rename_i a as _
      cases q : toEs (toE tb sc n) (a :: as) with
      | none => rw [q] at h; cases h
      | some xs => rw [q] at h; cases h; exact .inr (.inr (.inr rfl))
    · split at h
      · cases h; exact .inr (.inr (.inr rfl))
      · cases h
    · split at h
      · cases h; exact .inr (.inr (.inr rfl))
      · cases h
    · rename_i es _ _
      cases q : toEs (toE tb sc n) es with
      | none => rw [q] at h; cases h
      | some xs => rw [q] at h; cases h; exact .inr (.inl ⟨_, _, _, xs, n, rfl, rfl, rfl, q⟩)
    · rename_i es _
      cases q : toEs (toE tb sc n) es with
      | none => rw [q] at h; cases h
      | some xs => rw [q] at h; cases h; exact .inr (.inr (.inl ⟨_, _, xs, n, rfl, rfl, rfl, q⟩))
    · split at h
      · split at h
        · cases h; exact .inr (.inr (.inr rfl))
        · cases h
      · cases h
    · repeat' split at h
      all_goals first | (cases h; done) | (cases h; exact .inr (.inr (.inr rfl)))
    · rename_i a _ _
      cases q : toE tb sc n a with
      | none => rw [q] at h; cases h
      | some x => rw [q] at h; cases h; exact .inr (.inr (.inr rfl))
    · repeat' split at h
      all_goals first | (cases h; done) | (cases h; exact .inr (.inr (.inr rfl)))
    · cases h; exact .inr (.inr (.inr rfl))
    · cases h
omit [TC] in
theorem evS_plain {e : E} (h : plainE e = true) (env : Env) : evS Φ gl P mv env e = (ev Φ gl env e).bind fun g => if g.free then .ok (g, env) else .stk := by
  cases e <;> first | (unfold evS; rfl) | cases h
theorem plainW {e : E} (h : plainE e = true) {k : Fk} {env : Env} {σ : St} {HP H : Hp} {O : List Addr} {Q : VK} (s : SR cA k HP H env σ O) (w : WpS cA k (evS Φ gl P mv env e) HP H O σ Q) : WpR cA (ev Φ gl env e) HP H H Q := by
  rw [evS_plain h] at w
  cases q : ev Φ gl env e with
  | exc x => rw [q] at w; exact w.elim
  | stk => rw [q] at w; exact w.elim
  | ok g =>
    rw [q] at w
    intro v HP1 H1 Og rg nd fr st
    by_cases hf : g.free = true
    · simp only [Res.bind, hf, if_true] at w
      have s1 := s.step st
      have dis : ∀ a ∈ Og, ∀ b ∈ O, a ≠ b := fun a ha b hb e => by
        subst e
        obtain ⟨o, z⟩ := s.rs.ownIn a hb
        rw [(fr a ha).1] at z; cases z
      exact w v HP1 H1 Og O (rg.freeB hf) s1 (List.nodup_append.mpr ⟨nd, s.nd, dis⟩) (fun p hp => ⟨(s.free (fr p hp).1).1, (fr p hp).2, (s.free (fr p hp).1).2⟩)
        (fun p hp => (List.mem_append.mp hp).elim (fun z => .inr (fr p z).1) .inl) st.toO
    · simp only [Res.bind, hf] at w
      exact w.elim
theorem sndS_plain {ex : Expr} {e : E} (h : plainE e = true) (S : SndE X Φ gl cA ex e) : SndS X Φ gl cA P mv ex e := by
  intro k env σ HP H O Q s w
  exact S env σ HP H H Q s.pv ⟨Ex.refl _, s.tb⟩ s.eP (plainW h s w)
theorem sndS_var (C : Ctx X CX XE tb sc Φ gl cA) {x : Str} {pos : Pos} {i : Nat} (h1 : visB sc x = true) (h2 : sane x = true) (h3 : slotOf tb.N x = some i) : SndS X Φ gl cA P mv (.Name x pos) (.var i) := by
  intro k env σ HP H O Q s w
  obtain ⟨s1, s2, _⟩ := sane_of h2
  have rd : ∀ v, σ[i]? = some (some v) → Q v H → wpE X (.Name x pos) σ H Q := fun v e q =>
    ⟨_, pe_var (i := i) (by rw [C.nm]; exact slot_get h3) (by rw [C.scp]; exact vis_of h1) s1 s2, v, e, q⟩
  unfold evS at w
  split at w
  · rename_i t e
    obtain ⟨v, O1, a, b⟩ := s.rs.get e
    refine rd v a ?_
    have hO : O1 = [] := b.2
    subst hO
    exact w v HP H [] O b s s.nd (fun _ z => nomatch z) (fun p hp => .inl hp) StO.refl
  · rename_i o kd gs e
    split at w
    · rename_i hf
      simp only [Bool.and_eq_true] at hf
      obtain ⟨v, Oi, O2, a, b, c, d⟩ := s.rs.hide e
      have hmem : ∀ p ∈ Oi ++ O2, p ∈ O := fun p hp => d.mem_iff.mpr hp
      have hnd : (Oi ++ O2).Nodup := d.nodup_iff.mp s.nd
      have hil : i < env.length := (List.getElem?_eq_some_iff.mp e).1
      refine rd v a ?_
      cases mv with
      | true =>
        simp only [if_true] at w
        have sr : SR cA k HP H (env.set i none) σ O2 := ⟨c, s.tb, (List.nodup_append.mp hnd).2.1, fun p hp => s.own0 p (hmem p (List.mem_append_right _ hp)), s.eP, s.eB, s.eX, s.ex0, s.new0⟩
        exact w v HP H Oi O2 b sr hnd (fun p hp => s.own0 p (hmem p (List.mem_append_left _ hp))) (fun p hp => .inl (hmem p hp)) StO.refl
      | false =>
        have rt := b.frz s.eP hf.1
        obtain ⟨O', r', pm⟩ := RS.fill (HP := ad HP Oi H) (c.mono (ex_ad s.eP) (Ex.refl _) (Ex.refl _)) (by rw [List.getElem?_set_self hil]) a (show RG cA (ad HP Oi H) k.HB H (G.frz (.nod o kd gs)) v [] from ⟨rt, rfl⟩)
        rw [List.nil_append] at pm
        have hm2 : ∀ p ∈ O', p ∈ O2 := fun p hp => pm.mem_iff.mp hp
        have nd2 : (Oi ++ O').Nodup := ((List.Perm.append_left Oi pm).nodup_iff).mpr hnd
        have sr0 := s.adP (env2 := env.set i none) (σ2 := σ) c (fun p hp => s.own0 p (hmem p (List.mem_append_left _ hp))) (fun p hp => s.own0 p (hmem p (List.mem_append_right _ hp))) hnd
        rw [List.set_set] at r'
        have sr : SR cA k (ad HP Oi H) H (env.set i (some (G.frz (.nod o kd gs)))) σ O' := ⟨r', sr0.tb, (List.nodup_append.mp nd2).2.1, fun p hp => sr0.own0 p (hm2 p hp), sr0.eP, sr0.eB, sr0.eX, sr0.ex0, sr0.new0⟩
        refine w v (ad HP Oi H) H [] O' ⟨rt, rfl⟩ sr sr.nd (fun _ z => nomatch z) (fun p hp => .inl (hmem p (List.mem_append_right _ (hm2 p hp)))) ⟨Ex.refl _, ex_ad s.eP, fun p hp => ?_⟩
        by_cases q : p ∈ Oi
        · exact .inr (.inr (hmem p (List.mem_append_left _ q)))
        · rw [ad_out q] at hp; exact .inl hp
    · exact w.elim
  · exact w.elim
theorem sndSs_nil : SndSs X Φ gl cA P mv [] [] := by
  intro k env σ HP H O Q s w
  refine ⟨_, pa_nil, ?_⟩
  unfold evSs at w
  exact w [] HP H [] O ⟨rfl, rfl⟩ s s.nd (fun _ z => nomatch z) (fun p hp => .inl hp) StO.refl
theorem sndSs_cons {a : Expr} {as : List Expr} {ea : E} {eas : List E} (hst : starEach (a :: as) X.env = (false, eval a X.env) :: starEach as X.env) (Sa : SndS X Φ gl cA P mv a ea) (Ss : SndSs X Φ gl cA P mv as eas) : SndSs X Φ gl cA P mv (a :: as) (ea :: eas) := by
  intro k env σ HP H O Q s w
  refine ⟨_, pa_cons peE paA hst, ?_⟩
  unfold evSs at w
  refine Sa k env σ HP H O _ s ?_
  cases q : evS Φ gl P mv env ea with
  | exc x => rw [q] at w; exact w.elim
  | stk => rw [q] at w; exact w.elim
  | ok p =>
    obtain ⟨g, env1⟩ := p
    rw [q] at w
    intro v HP1 H1 Og O1 rg s1 nd1 mine1 sub1 st1
    refine Ss k env1 σ HP1 H1 O1 _ s1 ?_
    cases q2 : evSs Φ gl P mv env1 eas with
    | exc x => simp only [Res.bind] at w; rw [q2] at w; exact w.elim
    | stk => simp only [Res.bind] at w; rw [q2] at w; exact w.elim
    | ok p2 =>
      obtain ⟨gs, env2⟩ := p2
      simp only [Res.bind] at w
      rw [q2] at w
      intro vs HP2 H2 Og2 O2 rg2 s2 nd2 mine2 sub2 st2
      have hog : ∀ p ∈ Og, ∃ o, H1 p = some o := rg.ownIn
      have dOg : ∀ p ∈ Og, p ∉ O1 := fun p hp z => (List.nodup_append.mp nd1).2.2 p hp p z rfl
      have away : ∀ p ∈ Og, p ∉ Og2 ++ O2 := fun p hp z => by
        rcases sub2 p z with z | z
        · exact dOg p hp z
        · obtain ⟨o, e⟩ := hog p hp
          rw [e] at z; cases z
      have mineOg : ∀ p ∈ Og, k.mine HP2 p := fun p hp => by
        obtain ⟨a, b, c⟩ := mine1 p hp
        refine ⟨a, ?_, c⟩
        cases q : HP2 p with
        | none => rfl
        | some u =>
          rcases st2.new p (by rw [q]; simp) with z | z | z
          · exact absurd b z
          · obtain ⟨o, e⟩ := hog p hp
            rw [e] at z; cases z
          · exact absurd z (dOg p hp)
      refine w (v :: vs) HP2 H2 (Og ++ Og2) O2 ⟨v, vs, Og, Og2, rfl, rg.mono st2.exP (Ex.refl _) st2.ex, rg2, rfl⟩ s2 ?_ ?_ ?_ (st1.trans st2 fun p hp => sub1 p (List.mem_append_right _ hp))
      · rw [List.append_assoc]
        exact List.nodup_append.mpr ⟨(List.nodup_append.mp nd1).1, nd2, fun a ha b hb e => away a ha (by rw [e]; exact hb)⟩
      · intro p hp
        rcases List.mem_append.mp hp with z | z
        · exact mineOg p z
        · exact mine2 p z
      · intro p hp
        rw [List.append_assoc] at hp
        rcases List.mem_append.mp hp with z | z
        · exact sub1 p (List.mem_append_left _ z)
        · rcases sub2 p z with z | z
          · exact sub1 p (List.mem_append_right _ z)
          · exact .inr (st1.ex.none z)
theorem sndS_tup {es : List Expr} {as : List E} {x1 : Nat} {pos : Pos} (S : SndSs X Φ gl cA P mv es as) : SndS X Φ gl cA P mv (.Tuple es x1 pos) (.tup as) := by
  intro k env σ HP H O Q s w
  refine ⟨_, pe_tup paA, ?_⟩
  unfold evS at w
  refine S k env σ HP H O _ s ?_
  cases q : evSs Φ gl P mv env as with
  | exc x => rw [q] at w; exact w.elim
  | stk => rw [q] at w; exact w.elim
  | ok p =>
    obtain ⟨gs, env1⟩ := p
    rw [q] at w
    simp only [Res.bind] at w
    intro vs HP1 H1 Og O1 rg s1 nd1 mine1 sub1 st1
    split at w
    · rename_i hl
      refine ⟨by rw [← rg.len]; exact hl, fun p hp => ?_⟩
      have fr := s1.free hp
      have hpP : HP1 p = none := s1.eP.none hp
      have sub' : ∀ q ∈ Og ++ O1, q ∈ O ∨ H q = none := sub1
      split at w
      · rename_i ts et
        obtain ⟨r, hO⟩ := rg.vals et
        subst hO
        have st : Step HP1 H1 (upd HP1 p (.tup vs)) (upd H1 p (.tup vs)) := Step.frz s1.eP hp
        exact w (.ref p) _ _ [] O1 ⟨⟨p, vs, rfl, .inl upd_same, r.mono st.exP⟩, rfl⟩ (s1.step st) (s1.step st).nd (fun _ z => nomatch z) sub1 (st1.trans (st.toO (O := O1)) fun p hp => sub1 p hp)
      · have st : Step HP1 H1 HP1 (upd H1 p (.tup vs)) := Step.own s1.eP hp
        have hn : p ∉ Og ++ O1 := fun z => by
          rcases List.mem_append.mp z with z | z
          · obtain ⟨o, e⟩ := rg.ownIn p z; rw [e] at hp; cases hp
          · obtain ⟨o, e⟩ := s1.rs.ownIn p z; rw [e] at hp; cases hp
        refine w (.ref p) _ _ (p :: Og) O1 ⟨p, vs, Og, rfl, upd_same, rg.mono (Ex.refl _) (Ex.refl _) st.ex, rfl⟩ (s1.step st) (List.nodup_cons.mpr ⟨hn, nd1⟩) (fun q hq => ?_) (fun q hq => ?_) (st1.trans (st.toO (O := O1)) fun p hp => sub1 p (List.mem_append_right _ hp))
        · rcases List.mem_cons.mp hq with rfl | z
          · exact ⟨fr.1, hpP, fr.2⟩
          · exact mine1 q z
        · rcases List.mem_cons.mp hq with rfl | z
          · exact .inr (st1.ex.none hp)
          · exact sub1 q z
    · exact w.elim
theorem sndS_lst {es : List Expr} {as : List E} {pos : Pos} (S : SndSs X Φ gl cA P mv es as) : SndS X Φ gl cA P mv (.List es pos) (.lst as) := by
  intro k env σ HP H O Q s w
  refine ⟨_, pe_lst paA, ?_⟩
  unfold evS at w
  refine S k env σ HP H O _ s ?_
  cases q : evSs Φ gl P mv env as with
  | exc x => rw [q] at w; exact w.elim
  | stk => rw [q] at w; exact w.elim
  | ok p =>
    obtain ⟨gs, env1⟩ := p
    rw [q] at w
    simp only [Res.bind] at w
    intro vs HP1 H1 Og O1 rg s1 nd1 mine1 sub1 st1
    split at w
    · rename_i hl
      refine ⟨by rw [← rg.len]; exact hl, fun p hp => ?_⟩
      have fr := s1.free hp
      have hpP : HP1 p = none := s1.eP.none hp
      have st : Step HP1 H1 HP1 (upd H1 p (.lst vs)) := Step.own s1.eP hp
      have hn : p ∉ Og ++ O1 := fun z => by
        rcases List.mem_append.mp z with z | z
        · obtain ⟨o, e⟩ := rg.ownIn p z; rw [e] at hp; cases hp
        · obtain ⟨o, e⟩ := s1.rs.ownIn p z; rw [e] at hp; cases hp
      refine w (.ref p) _ _ (p :: Og) O1 ⟨p, vs, Og, rfl, upd_same, rg.mono (Ex.refl _) (Ex.refl _) st.ex, rfl⟩ (s1.step st) (List.nodup_cons.mpr ⟨hn, nd1⟩) (fun q hq => ?_) (fun q hq => ?_) (st1.trans (st.toO (O := O1)) fun p hp => sub1 p (List.mem_append_right _ hp))
      · rcases List.mem_cons.mp hq with rfl | z
        · exact ⟨fr.1, hpP, fr.2⟩
        · exact mine1 q z
      · rcases List.mem_cons.mp hq with rfl | z
        · exact .inr (st1.ex.none hp)
        · exact sub1 q z
    · exact w.elim
theorem toE_okS (C : Ctx X CX XE tb sc Φ gl cA) : ∀ (n : Nat) (ex : Expr) (e : E), toE tb sc n ex = some e → SndS X Φ gl cA P mv ex e := by
  intro n
  induction n with
  | zero => intro ex e h; cases h
  | succ n ih =>
    intro ex e h
    have lists : ∀ {es : List Expr} {as : List E}, toEs (toE tb sc n) es = some as → SndSs X Φ gl cA P mv es as := by
      intro es
      induction es with
      | nil => intro as h; cases h; exact sndSs_nil
      | cons a es ihs =>
        intro as h
        unfold toEs at h
        cases q : toE tb sc n a with
        | none => rw [q] at h; cases h
        | some x =>
          cases q2 : toEs (toE tb sc n) es with
          | none => rw [q, q2] at h; cases h
          | some xs =>
            rw [q, q2] at h
            cases h
            exact sndSs_cons (toE_star q es _) (ih _ _ q) (ihs q2)
    rcases toE_cases h with ⟨x, pos, i, rfl, rfl, h1, h2, h3⟩ | ⟨es, x1, pos, as, m, hm, rfl, rfl, q⟩ | ⟨es, pos, as, m, hm, rfl, rfl, q⟩ | hp
    · exact sndS_var C h1 h2 h3
    · cases hm; exact sndS_tup (lists q)
    · cases hm; exact sndS_lst (lists q)
    · exact sndS_plain hp (toE_ok C _ _ _ h)
end
end Bv
set_option maxRecDepth 100000
/-! Part 11: (tests: moved into part 7). -/
namespace Bv
end Bv
set_option maxRecDepth 100000
set_option maxHeartbeats 2000000
/-! Part 12: statements. -/
namespace Bv
open PySem L2
def wpS (X : Cx) (st : Stmt) : TS := fun D σ H => ∃ t, PS X st t ∧ t D σ H
theorem psS {X : Cx} {st : Stmt} : PS X st (wpS X st) := ⟨fun pins s σ H D I ⟨t, h, q⟩ => h.run pins s σ H D I q⟩
def wpSs (X : Cx) (st : List Stmt) : TS := fun D σ H => ∃ t, PSs X st t ∧ t D σ H
theorem pssS {X : Cx} {st : List Stmt} : PSs X st (wpSs X st) := ⟨fun pins s σ H D I ⟨t, h, q⟩ => h.run pins s σ H D I q⟩
def wpG (X : Cx) (tg : Expr) : TG := fun v σ H Q => ∃ t, PG X tg t ∧ t v σ H Q
theorem pgG {X : Cx} {tg : Expr} : PG X tg (wpG X tg) := ⟨fun pins s σ H v u Q I r ⟨t, h, q⟩ => h.run pins s σ H v u Q I r q⟩
/- what a statement's end must give; σ0: the slots at first -/
/-- the weakest wish of an exception -/
def wpX (X : Cx) : WX := fun cls d σ H => ∀ u s', L2N.XE X (fun c e τ G => c = cls ∧ e = d ∧ τ = σ ∧ G = H) u s' → X.xe u s'
theorem takesX {X : Cx} : L2N.Takes X (wpX X) := fun u s' ⟨a, B, sI, pins, σ, H, cls, d, e, I, nb, up, sky, na, os, ag, w⟩ => w u s' ⟨a, B, sI, pins, σ, H, cls, d, e, I, nb, up, sky, na, os, ag, rfl, rfl, rfl, rfl⟩
theorem wpX_of {X : Cx} {W : WX} (tk : L2N.Takes X W) {cls : Value} {d : Option Addr} {σ : St} {H : Hp} (w : W cls d σ H) : wpX X cls d σ H := fun u s' x => (tk.imp fun c e τ G ⟨h1, h2, h3, h4⟩ => by subst h1 h2 h3 h4; exact w) u s' x
def WpOut [TC] (X : Cx) (cA : CA) (k : Fk) (P : List Nat) (o : Out) (σ0 : St) (D : Ends) : Prop := match o with
  | .nx env1 => ∀ σ1 HP1 H1 O1, SR cA k HP1 H1 env1 σ1 O1 → (∀ i ∈ P, σ1[i]? = σ0[i]?) → D.nx σ1 H1
  | .brk env1 => ∀ σ1 HP1 H1 O1, SR cA k HP1 H1 env1 σ1 O1 → (∀ i ∈ P, σ1[i]? = σ0[i]?) → D.bk σ1 H1
  | .cnt env1 => ∀ σ1 HP1 H1 O1, SR cA k HP1 H1 env1 σ1 O1 → (∀ i ∈ P, σ1[i]? = σ0[i]?) → D.ct σ1 H1
  | .ret g env1 => ∀ v σ1 HP1 H1 Og O1, RG cA HP1 k.HB H1 g v Og → SR cA k HP1 H1 env1 σ1 O1 → (∀ i ∈ P, σ1[i]? = σ0[i]?) → (Og ++ O1).Nodup → (∀ p ∈ Og, k.mine HP1 p) → D.rt v H1
  | .exc x env1 => ∀ cls d σ1 HP1 H1 O1, SR cA k HP1 H1 env1 σ1 O1 → (∀ i ∈ P, σ1[i]? = σ0[i]?) → XVal cA HP1 H1 x cls d → wpX X cls d σ1 H1
  | .stk => False
section
variable [TC] {X : Cx} {CX : CXT} {XE : XK} {tb : Tb} {sc : Scope} {Φ : Fns} {gl : Str → Option T} {cA : CA} {P : List Nat}
theorem WpOut.pins {k : Fk} {o : Out} {σ0 σ1 : St} {D : Ends} (h : WpOut X cA k P o σ0 D) (e : ∀ i ∈ P, σ1[i]? = σ0[i]?) : WpOut X cA k P o σ1 D := by
  cases o with
  | nx env1 => exact fun σ HP1 H1 O1 s q => h σ HP1 H1 O1 s fun i hi => (q i hi).trans (e i hi)
  | brk env1 => exact fun σ HP1 H1 O1 s q => h σ HP1 H1 O1 s fun i hi => (q i hi).trans (e i hi)
  | cnt env1 => exact fun σ HP1 H1 O1 s q => h σ HP1 H1 O1 s fun i hi => (q i hi).trans (e i hi)
  | ret g env1 => exact fun v σ HP1 H1 Og O1 r s q => h v σ HP1 H1 Og O1 r s fun i hi => (q i hi).trans (e i hi)
  | exc x env1 => exact fun cls d σ HP1 H1 O1 s q => h cls d σ HP1 H1 O1 s fun i hi => (q i hi).trans (e i hi)
  | stk => exact h
def SndSt (X : Cx) (Φ : Fns) (gl : Str → Option T) (cA : CA) (P : List Nat) (st : Stmt) (s : S) : Prop :=
  ∀ k env σ HP H O D, SR cA k HP H env σ O → WpOut X cA k P (exec Φ gl P s env) σ D → wpS X st D σ H
def SndSts (X : Cx) (Φ : Fns) (gl : Str → Option T) (cA : CA) (P : List Nat) (st : List Stmt) (s : List S) : Prop :=
  ∀ k env σ HP H O D, SR cA k HP H env σ O → WpOut X cA k P (execs Φ gl P s env) σ D → wpSs X st D σ H
/-- the slots as they are after one is set -/
theorem SR.put {k : Fk} {HP H : Hp} {env : Env} {σ : St} {O Og : List Addr} {i : Nat} {g : G} {v : V} (s : SR cA k HP H env σ O) (rg : RG cA HP k.HB H g v Og) (nd : (Og ++ O).Nodup) (mine : ∀ p ∈ Og, k.mine HP p) (hi : i < env.length) :
    ∃ O', SR cA k HP H (env.set i (some g)) (σ.set i (some v)) O' ∧ ∀ p ∈ O', p ∈ Og ++ O := by
  obtain ⟨Oa, O2, r2, pm⟩ := s.rs.drop i (some v)
  have hσ : i < σ.length := by rw [← s.rs.len]; exact hi
  obtain ⟨O', r', pm'⟩ := r2.fill (by rw [List.getElem?_set_self hi]) (by rw [List.getElem?_set_self hσ]) rg
  rw [List.set_set] at r'
  have m2 : ∀ p ∈ O2, p ∈ O := fun p hp => pm.mem_iff.mpr (List.mem_append_right _ hp)
  have nd2 : O2.Nodup := (List.nodup_append.mp (pm.nodup_iff.mp s.nd)).2.1
  have nd3 : (Og ++ O2).Nodup := List.nodup_append.mpr ⟨(List.nodup_append.mp nd).1, nd2, fun a ha b hb => (List.nodup_append.mp nd).2.2 a ha b (m2 b hb)⟩
  refine ⟨O', ⟨r', s.tb, pm'.nodup_iff.mpr nd3, fun p hp => ?_, s.eP, s.eB, s.eX, s.ex0, s.new0⟩, fun p hp => ?_⟩
  · rcases List.mem_append.mp (pm'.mem_iff.mp hp) with z | z
    · exact mine p z
    · exact s.own0 p (m2 p z)
  · rcases List.mem_append.mp (pm'.mem_iff.mp hp) with z | z
    · exact List.mem_append_left _ z
    · exact List.mem_append_right _ (m2 p z)
/-- the same, the value frozen -/
theorem SR.putF {k : Fk} {HP H : Hp} {env : Env} {σ : St} {O Og : List Addr} {i : Nat} {g : G} {v : V} (s : SR cA k HP H env σ O) (rg : RG cA HP k.HB H g v Og) (hf : g.free = true) (nd : (Og ++ O).Nodup) (mine : ∀ p ∈ Og, k.mine HP p) (hi : i < env.length) :
    ∃ HP' O', SR cA k HP' H (env.set i (some g.frz)) (σ.set i (some v)) O' := by
  have s' := s.adP (Oi := Og) s.rs mine s.own0 nd
  have rt := rg.frz s.eP hf
  obtain ⟨O', r, _⟩ := s'.put (Og := []) (i := i) (g := g.frz) (v := v) ⟨rt, rfl⟩ s'.nd (fun _ z => nomatch z) hi
  exact ⟨_, O', r⟩
/-- the same, owned at the top alone -/
theorem SR.putS {k : Fk} {HP H : Hp} {env : Env} {σ : St} {O Og : List Addr} {i : Nat} {g : G} {v : V} (s : SR cA k HP H env σ O) (rg : RG cA HP k.HB H g v Og) (hf : g.free = true) (nd : (Og ++ O).Nodup) (mine : ∀ p ∈ Og, k.mine HP p) (hi : i < env.length) :
    ∃ HP' O', SR cA k HP' H (env.set i (some g.shal)) (σ.set i (some v)) O' := by
  cases g with
  | val t => exact s.putF rg hf nd mine hi
  | nod o kd gs =>
    cases o with
    | false => unfold G.free at hf; cases hf
    | true =>
      obtain ⟨p, vs, O', rfl, ow, rgs, rfl⟩ := rg
      have hfs : G.frees gs = true := by unfold G.free at hf; rw [Bool.true_and] at hf; exact hf
      have n1 := List.nodup_cons.mp (List.nodup_append.mp nd).1
      have nd2 : (O' ++ O).Nodup := List.Sublist.nodup (List.sublist_cons_self p (O' ++ O)) nd
      have s' := s.adP (Oi := O') s.rs (fun q hq => mine q (List.mem_cons_of_mem _ hq)) s.own0 nd2
      have rt := rgs.frz s.eP hfs
      have pO : p ∉ O := fun z => (List.nodup_cons.mp nd).1 (List.mem_append_right _ z)
      obtain ⟨O1, r, _⟩ := s'.put (Og := [p]) (i := i) (g := .nod true kd ((G.toTs gs).map .val)) (v := .ref p) ⟨p, vs, [], rfl, ow, RTs.toG rt, rfl⟩ (List.nodup_cons.mpr ⟨pO, s.nd⟩) (fun q hq => by
        rw [List.mem_singleton.mp hq]
        obtain ⟨a, b, c⟩ := mine p List.mem_cons_self
        exact ⟨a, by rw [ad_out n1.1]; exact b, c⟩) hi
      exact ⟨_, O1, r⟩
/-- what is to go into a list -/
theorem SR.fz {k : Fk} {HP H : Hp} {env : Env} {σ : St} {O Og : List Addr} {g : G} {v : V} (mv : Bool) (s : SR cA k HP H env σ O) (rg : RG cA HP k.HB H g v Og) (hf : g.free = true) (nd : (Og ++ O).Nodup) (mine : ∀ p ∈ Og, k.mine HP p) :
    ∃ HP2 Og2, SR cA k HP2 H env σ O ∧ RG cA HP2 k.HB H (mvG mv g) v Og2 ∧ (Og2 ++ O).Nodup ∧ (∀ p ∈ Og2, k.mine HP2 p) := by
  cases mv with
  | true => exact ⟨HP, Og, s, rg, nd, mine⟩
  | false =>
    have s' := s.adP (Oi := Og) s.rs mine s.own0 nd
    exact ⟨_, [], s', ⟨rg.frz s.eP hf, rfl⟩, s'.nd, fun _ z => nomatch z⟩
theorem SR.val {k : Fk} {HP H : Hp} {env : Env} {σ : St} {O : List Addr} {i : Nat} {t : T} {v : V} (s : SR cA k HP H env σ O) (rt : RT cA HP t v) (hi : i < env.length) : ∃ O', SR cA k HP H (env.set i (some (.val t))) (σ.set i (some v)) O' := by
  obtain ⟨O', r, _⟩ := s.put (Og := []) (i := i) (g := .val t) (v := v) ⟨rt, rfl⟩ s.nd (fun _ z => nomatch z) hi
  exact ⟨O', r⟩
theorem frz_free : ∀ (g : G), (g.frz).free = true := fun g => rfl
theorem evS_free : ∀ (e : E) {mv : Bool} {env env1 : Env} {g : G}, evS Φ gl P mv env e = .ok (g, env1) → g.free = true := by
  intro e
  induction e using E.rec (motive_2 := fun es => ∀ {mv : Bool} {env env1 : Env} {gs : List G}, evSs Φ gl P mv env es = .ok (gs, env1) → G.frees gs = true) (motive_3 := fun _ => True) with
  | var i =>
    intro mv env env1 g h
    unfold evS at h
    split at h
    · cases h; rfl
    · split at h
      · rename_i hf
        simp only [Bool.and_eq_true] at hf
        split at h
        · cases h; exact hf.1
        · cases h; rfl
      · cases h
    · cases h
  | tup es ih =>
    intro mv env env1 g h
    unfold evS at h
    cases q : evSs Φ gl P mv env es with
    | exc x => rw [q] at h; cases h
    | stk => rw [q] at h; cases h
    | ok p =>
      rw [q] at h
      simp only [Res.bind] at h
      split at h
      · split at h
        · cases h; rfl
        · cases h; unfold G.free; rw [Bool.true_and]; exact ih (env1 := p.2) q
      · cases h
  | lst es ih =>
    intro mv env env1 g h
    unfold evS at h
    cases q : evSs Φ gl P mv env es with
    | exc x => rw [q] at h; cases h
    | stk => rw [q] at h; cases h
    | ok p =>
      rw [q] at h
      simp only [Res.bind] at h
      split at h
      · cases h; unfold G.free; rw [Bool.true_and]; exact ih (env1 := p.2) q
      · cases h
  | nil => rename_i h; unfold evSs at h; cases h; rfl
  | cons e es ih1 ih2 =>
    rename_i mv env env1 gs h
    unfold evSs at h
    cases q : evS Φ gl P mv env e with
    | exc x => rw [q] at h; cases h
    | stk => rw [q] at h; cases h
    | ok p =>
      cases q2 : evSs Φ gl P mv p.2 es with
      | exc x => rw [q] at h; simp only [Res.bind] at h; rw [q2] at h; cases h
      | stk => rw [q] at h; simp only [Res.bind] at h; rw [q2] at h; cases h
      | ok p2 =>
        rw [q] at h
        simp only [Res.bind] at h
        rw [q2] at h
        cases h
        unfold G.frees
        rw [ih1 (env1 := p.2) q, ih2 (env1 := p2.2) q2]
        rfl
  | none => trivial
  | some _ _ => trivial
  | _ =>
    intro mv env env1 g h
    rw [evS_plain rfl] at h
    first
      | (cases q : ev Φ gl env _ with
         | exc x => rw [q] at h; cases h
         | stk => rw [q] at h; cases h
         | ok g0 =>
           rw [q] at h
           simp only [Res.bind] at h
           split at h
           · cases h; assumption
           · cases h)
end
end Bv
set_option maxRecDepth 100000
set_option maxHeartbeats 4000000
/-! Part 12x: an exception leaves a list comprehension. -/
namespace Bv
open PySem PySem.Spec PyProof.Rows L2
def compPostX (M : Model) (A : Around) (E : Value → Shared → Prop) (Q : Value → Shared → Prop) (acc : Value) (C : Addr) (fr : Option Addr) (r : Result) (s' : Shared) : Prop :=
  match r with
  | .ok _ => ∃ m, s'.heap.Ns C m ∧ ∀ h', Heap.SameBut C s'.heap h' → Q acc { s' with heap := h' }
  | .error x => ∃ m, s'.heap.Ns C m ∧ ∀ h', Heap.SameBut C s'.heap h' → ∀ cenv : PySem.Env, cenv.locals = C → cenv.frame = fr → wpAny M A (passOn "comprehension.variables-let-go" x cenv : Sem Value) (fun _ _ => False) E { s' with heap := h' }
theorem comp_freeX {M : Model} {A : Around} {E : Value → Shared → Prop} {s : Shared} {env : PySem.Env} {e : Expr} {scope : Scope} {pos : Pos} {newAcc first : Sem Value} {g : Comprehension} {gs : List Comprehension} {cl : List (Str × Addr)}
    {Q : Value → Shared → Prop}
    (hcl : clausesOf e = g :: gs) (hs : ∀ x, foldedSetIterable g.iter env x = pure x) (hclos : closureFor scope env = pure cl)
    (hkind : scope.kind = .function) (hnames : ∀ x ∈ scope.names, x.2 = .local → scope.names.lookup x.1 = some .local)
    (h : wpAny M A first (fun x s₁ => wpAny M A (pyIter x) (fun it s₂ => wpAny M A newAcc (fun acc s₃ =>
      wpAny M A (newFunctionEnv scope env.globals cl [] env.qual none .none (some env)) (fun cenv s₄ => cenv.frame = env.frame ∧
        codeAny M A (.compStart e 0 it acc { cenv with scope := relabel scope env }) (compPostX M A E Q acc cenv.locals env.frame) s₄) E s₃) E s₂) E s₁) E s) :
    wpAny M A (comprehension e scope env pos newAcc false first none) Q E s := by
  unfold comprehension
  rw [hclos, hcl]
  refine wpAny_bind (wpAny_mono h (fun x s₁ h₁ => wpAny_bind (wpAny_standAt (wpAny_bind (wpAny_of_eq (hs x) (wpAny_bind (wpAny_holding (wpAny_mono h₁ (fun it s₂ h₂ =>
    wpAny_standIf (wpAny_bind (wpAny_mono h₂ (fun acc s₃ h₃ => wpAny_bind (wpAny_pure (wpAny_bind (wpAny_mono h₃ (fun cenv s₄ h₄ => ?_) fun _ _ h' => h')))) fun _ _ h' => h')))
      fun _ _ h' => h'))))))) fun _ _ h' => h')
  dsimp only
  obtain ⟨hfr, h₄⟩ := h₄
  have hv : ∀ x ∈ (scope.names.filter fun x => (x.2 == .local || x.2 == .cell) && x.1 != (".0" : Str)).reverse, x.2 = .local →
      Env.kindOf { cenv with scope := relabel scope env } x.1 = some .local := fun x hx hl => lookup_relabel_local (hnames x (List.mem_filter.mp (List.mem_reverse.mp hx)).1 hl)
  refine wpAny_holding (wpAny_bind (wpAny_attempt (wpAny_holding (wpAny_run (codeAny_mono h₄ fun r s' hr => ?_)))))
  cases r with
  | ok f =>
    obtain ⟨m, hn, hr⟩ := hr
    exact wpAny_bind (wpAny_holding (wpAny_comp_letGo (cenv := { cenv with scope := relabel scope env }) hkind _ s' m hv hn fun h' m' _ hs' => wpAny_pure (hr h' hs')))
  | error x =>
    obtain ⟨m, hn, hr⟩ := hr
    exact wpAny_bind (wpAny_holding (wpAny_comp_letGo (cenv := { cenv with scope := relabel scope env }) hkind _ s' m hv hn fun h' m' _ hs' => wpAny_mono (hr h' hs' _ rfl hfr) (fun _ _ f => f.elim) fun _ _ y => y))
/-- behind a call that let an exception out -/
theorem call_air {X : Cx} {pins : List (Addr × Obj)} {σ : L2.St} {H : Hp} {s s' : Shared} {E : XK} {u : Value} (I : Inv X pins σ H s) (c : L2N.CX X.prog X.w X.stack H s E u s') :
    ∃ (a : Addr) (B : Heap) (sI : Shared) (H' : Hp) (cls : Value) (d : Option Addr), u = .ref a ∧ Inv X pins σ H' sI ∧ (∀ b o, sI.heap.get? b = some o → b ∉ frs X.stack → B.get? b = some o) ∧ sI.heap.UpToSlots s'.heap ∧
      HandSPX.FlyingZ B X.stack a (L2N.Zn cls d) s'.heap ∧ H' a = none ∧ s'.os = sI.os ∧ AllBare s'.gens ∧ E cls d H' := by
  obtain ⟨a, B, H', cls, d, rfl, fl, hok, ub, na, os, ag, hE⟩ := c
  obtain ⟨G, g1, g2⟩ := restrict s'.heap fun b => (B.get? b).isSome || decide (b ∈ frs X.stack)
  have st : B.StaysIn s'.heap := fl.1
  have gB : ∀ b o, B.get? b = some o → G.get? b = some o := fun b o e => by
    rw [g1 b (by simp [e])]
    exact st b o e
  have gF : ∀ b, b ∈ frs X.stack → G.get? b = s'.heap.get? b := fun b hb => g1 b (by simp [hb])
  have og : ∀ b o, G.get? b = some o → s'.heap.get? b = some o ∧ ((B.get? b).isSome = true ∨ b ∈ frs X.stack) := fun b o e => by
    cases q : ((B.get? b).isSome || decide (b ∈ frs X.stack)) with
    | false => rw [g2 b q] at e; cases e
    | true =>
      rw [g1 b q] at e
      exact ⟨e, by simpa [Bool.or_eq_true] using q⟩
  refine ⟨a, B, { s with heap := G, gens := s'.gens, drawn := s'.drawn, toks := s'.toks }, H', cls, d, rfl, ?_, fun b o e hb => ?_, Heap.UpToSlots.of_keeps fun b o e => (og b o e).1, fl, na, os, ag, hE⟩
  · refine I.call (ch := []) ⟨fun b o e n hb _ => gB b o (ub.keep b o e n hb), fun b o e n hb _ => ?_, fun b o e n _ => ub.free b o e n, fun b o e _ => ?_, ub.tups, ub.frzs, ub.tbls⟩ (hok.kept gB) ag (fun _ z => nomatch z)
    · obtain ⟨sl, q⟩ := ub.slot b o e hb
      exact ⟨sl, by rw [gF b hb]; exact q⟩
    · by_cases hb : b ∈ frs X.stack
      · obtain ⟨sl, q⟩ := ub.slot b o e hb
        exact ⟨_, by rw [gF b hb]; exact q⟩
      · obtain ⟨o', q⟩ := ub.there b o e hb
        exact ⟨o', gB b o' q⟩
  · obtain ⟨e', h⟩ := og b o e
    rcases h with h | h
    · obtain ⟨o', q⟩ := Option.isSome_iff_exists.mp h
      have z := st b o' q
      rw [e'] at z; cases z
      exact q
    · exact absurd h hb
theorem note_eq {env env' : PySem.Env} (h : env.frame = env'.frame) (v : Value) : noteFrame v env = noteFrame v env' := by
  unfold noteFrame PySem.frameOf
  rw [h]
/-- the exception leaves the comprehension's block; L: the def's frame, C: the block's own dict -/
theorem comp_leave {prog : Program} {w : World} {A : Around} {env ce : PySem.Env} {outer : List PySem.Env} {E : Value → Shared → Prop} {Q : Value → Shared → Prop} {acc : Value} {B : Heap} {a L C : Addr} {Z : Obj → Prop} {s : Shared} (hZ : PXN.Steady1 Z) (hfr : A.frames = some (env :: outer)) (hf : env.frame = some L) (hce : ce.frame = env.frame)
    (fl : HandSPX.FlyingZ B (env :: outer) a Z s.heap) (hC : ∃ m, s.heap.Ns C m) (hCf : C ∉ frs (env :: outer))
    (hE : ∀ (B' h' : Heap), (∀ b o, b ≠ C → B.get? b = some o → B'.get? b = some o) → HandSPX.HeldZ B' (env :: outer) a Z L h' → (∀ b o, b ≠ C → s.heap.get? b = some o → (∀ vs, o.data ≠ .fields vs) → ∃ sl, h'.get? b = some { o with slots := sl }) → E (.ref a) { s with heap := h' }) :
    notedBy (model prog w) A ce (fun e s' => compPostX (model prog w) A E Q acc C env.frame (.error e) s') (.ref a) s := by
  show wpAny _ _ (noteFrame (.ref a) ce) _ _ _
  rw [note_eq hce]
  refine PXN.looks_onZ hZ hfr hf fl fun h1 held up => ?_
  obtain ⟨m, o, es, ep, ho, hd, hr⟩ := hC
  obtain ⟨sl, ho1⟩ := up C o ho (fun vs z => by rw [hd] at z; cases z)
  refine ⟨m, ⟨_, es, ep, ho1, hd, hr⟩, fun h2 sb cenv hl hcf => ?_⟩
  obtain ⟨B', b1, b2⟩ := restrict B fun b => decide (b ≠ C)
  have bk : ∀ b o, b ≠ C → B.get? b = some o → B'.get? b = some o := fun b o ne e => by rw [b1 b (decide_eq_true ne)]; exact e
  have kb : ∀ b o, B'.get? b = some o → b ≠ C ∧ B.get? b = some o := fun b o e => by
    by_cases z : b = C
    · rw [b2 b (by simp [z])] at e; cases e
    · rw [b1 b (decide_eq_true z)] at e; exact ⟨z, e⟩
  obtain ⟨k1, k2, k3, oe, vs, T, oT, ts, he, hz, hdv, hv1, hnT, hTe, hT, hdT, h3⟩ := held
  have notC : ∀ b o, h1.get? b = some o → (∃ vs, o.data = .fields vs) → b ≠ C := fun b o e ⟨vs, q⟩ z => by
    rw [z, ho1] at e
    cases e
    rw [hd] at q; cases q
  have aC : a ≠ C := notC a oe he ⟨vs, hdv⟩
  have TC : T ≠ C := notC T oT hT ⟨ts, hdT⟩
  have nb : ∀ b, B.get? b = none → B'.get? b = none := fun b e => by
    cases q : B'.get? b with
    | none => rfl
    | some o => rw [(kb b o q).2] at e; cases e
  have he2 : h2.get? a = some oe := by rw [sb.2 a aC]; exact he
  have hT2 : h2.get? T = some oT := by rw [sb.2 T TC]; exact hT
  have tr : HandSPX.TracedZ h2 B' a Z (rawInt L) := ⟨oe, vs, T, oT, ts, he2, hz, hdv, hv1, nb T hnT, hTe, hT2, hdT, h3⟩
  have st2 : B'.StaysIn h2 := fun b o e => by
    obtain ⟨z1, z2⟩ := kb b o e
    rw [sb.2 b z1]; exact k1 b o z2
  have ff : ∀ {l : List PySem.Env}, C ∉ frs l → h1.FunFrames B l → h2.FunFrames B' l := by
    intro l
    induction l with
    | nil => intro _ _; trivial
    | cons x r ih =>
      intro hn ⟨q1, ⟨L', o', f1, f2, f3, f4⟩, q3⟩
      have hL : L' ≠ C := fun z => hn (by unfold frs; rw [List.filterMap_cons, f1, z]; exact List.mem_cons_self)
      refine ⟨q1, ⟨L', o', f1, nb L' f2, by rw [sb.2 L' hL]; exact f3, f4⟩, ih (fun z => hn ?_) q3⟩
      unfold frs
      rw [List.filterMap_cons, f1]
      exact List.mem_cons_of_mem _ z
  have f2 := ff hCf k3
  unfold PySem.passOn
  refine wpAny_bind (wpAny_field he2 hdv hv1 ?_)
  rw [if_neg (by simp)]
  refine wpAny_bind (HandSPX.setFlight_anyZ st2 f2 tr fun h3 x1 x2 x3 x4 => ?_)
  refine wpAny_throw (hE B' h3 bk ⟨x1, nb a k2, x2, ?_⟩ fun b o ne e nf => ?_)
  · rw [hcf, hf] at x3
    exact x3
  · obtain ⟨s1, e1⟩ := up b o e nf
    have e2 : h2.get? b = some { o with slots := s1 } := by rw [sb.2 b ne]; exact e1
    obtain ⟨s3, e3⟩ := x4 b _ e2 nf
    exact ⟨s3, e3⟩
section
variable {X : Cx}
abbrev Xbx (X : Cx) (s : Shared) (H : Hp) (scope : Scope) (Ca : Addr) (cl : List (Str × Addr)) (fp : List Addr) (xe : Value → Shared → Prop) : Cx := (X.blk s H scope (compEnvC scope cl Ca X.env) fp).wish xe
theorem lc_coreX {pins : List (Addr × Obj)} {s : Shared} {σ : L2.St} {H : Hp} {Q : VK} {elt tg iter : Expr} {ifs : List Expr} {scope : Scope} {own : List (Str × Nat)} {pos pos' : Pos} {wi : TI} {g : TG} {tt : TT} {te : TE} {Qf : Value → Shared → Prop} {Wc : Value → Option Addr → Hp → Prop}
    (hc : X.calm = true) (hstk : X.stack = X.env :: X.outer) (hfm : X.env.frame = some X.env.locals) (hW : ∀ cls d G, Wc cls d G → wpX X cls d σ G) (hN : X.N.Nodup) (I : Inv X pins σ H s) (hi : PI X tg iter wi) (ok : BlkOk X.N X.env.scope scope own)
    (hg : ∀ (s : Shared) (H : Hp) (C : Addr) (cl : List (Str × Addr)) (fp : List Addr), PG (X.blk s H scope (compEnvC scope cl C X.env) fp) tg g) (ht : ∀ (s : Shared) (H : Hp) (C : Addr) (cl : List (Str × Addr)) (fp : List Addr), PTs (X.blk s H scope (compEnvC scope cl C X.env) fp) ifs tt)
    (he : ∀ (s : Shared) (H : Hp) (C : Addr) (cl : List (Str × Addr)) (fp : List Addr) (xe : Value → Shared → Prop), (∀ τ, PassesAt (L2N.CX X.prog X.w) (Xbx X s H scope C cl fp xe) τ Wc) → PE (Xbx X s H scope C cl fp xe) elt te) (hs : ∀ x, foldedSetIterable iter X.env x = pure x)
    (h : tLc wi g tt te (own.map (·.2)) σ H Q)
    (hRR : ∀ D C s' m H', Inv X pins σ H' s' → Q (.ref D) H' → s'.heap.Ns C m → FpOk X pins H' C → compPostX (model X.prog X.w) X.A X.xe Qf (.ref D) C X.env.frame (.ok .next) s') :
    wpAny (model X.prog X.w) X.A (comprehension (.ListComp elt [⟨tg, iter, ifs, 0⟩] scope pos) scope X.env pos' (newList []) false (eval iter X.env) none) Qf X.xe s := by
  have hfree : ∀ y ∈ scope.names, y.2 = .free → ∃ c, X.env.cells.lookup y.1 = some c := fun y hy e => by
    rcases ok.free y hy e with k | k
    · exact I.ok.has _ (.inl k)
    · exact I.ok.has _ (.inr k)
  refine comp_freeX rfl hs (closure_ok hfree) ok.kind (fun y hy e => by rw [ok.uniq y hy, e])
    (thn (hi.run pins s σ H _ I h) fun xv s1 hx => thn hx fun itv s2 h2 => ?_)
  obtain ⟨it, fp, tn, J, H2, e, I2, T, st2, f2, q⟩ := h2
  subst e
  refine wpAny_newObj_type (newEnv_comp ⟨rfl, ?_⟩) (by show 0 ≤ sizeLine; decide)
  generalize hD : s2.heap.objs.size = D
  have hDn : H2 D = none := I2.hok.fresh (Nat.le_of_eq hD)
  obtain ⟨W, ⟨m0, w0⟩, turn⟩ := q D hDn
  generalize hs3 : ({ s2 with heap := s2.heap.push { cls := .type "list", data := .seq ([] : List Value).toArray } } : Shared) = s3
  have I3 : Inv X pins σ (upd H2 D (.lst [])) s3 := by
    rw [← hs3]
    refine I2.laid (t' := s2.toks) (fun b o e => Heap.get?_push_of_some _ e) (Nat.le_of_eq hD) ⟨Nat.zero_le _, [], 0, .nil, ?_⟩
    rw [← hD]
    exact Heap.get?_push_size _ rfl
  have h3 : s3.heap = s2.heap.push { cls := .type "list", data := .seq ([] : List Value).toArray } := by rw [← hs3]
  have sz : ∀ b ∈ fp, b < s2.heap.objs.size := fun b hb => by
    obtain ⟨o, e, _⟩ := T.obj _ _ st2 b hb
    exact Heap.lt_size e
  have f3 : ∀ b ∈ fp, FpOk X pins (upd H2 D (.lst [])) b ∧ b < s3.heap.objs.size := fun b hb => by
    have hlt := sz b hb
    refine ⟨⟨?_, (f2 b hb).2⟩, by rw [h3, Heap.size_push]; exact Nat.lt_succ_of_lt hlt⟩
    rw [upd_ne (by rw [← hD]; exact Nat.ne_of_lt hlt)]
    exact (f2 b hb).1
  have st3 : tn 0 s3.heap := T.keep _ _ _ st2 fun b _ o e => by rw [h3]; exact Heap.get?_push_of_some _ e
  have I4 := block_start I3 ok hN f3
  have pg := hg s3 (upd H2 D (.lst [])) s3.heap.objs.size (cellsFrom (s3.heap.objs.size + 1) scope.names (cloFrom X.env.cells scope.names [])) fp
  have pt := ht s3 (upd H2 D (.lst [])) s3.heap.objs.size (cellsFrom (s3.heap.objs.size + 1) scope.names (cloFrom X.env.cells scope.names [])) fp
  have pe0 := he s3 (upd H2 D (.lst [])) s3.heap.objs.size (cellsFrom (s3.heap.objs.size + 1) scope.names (cloFrom X.env.cells scope.names [])) fp
  show codeAny _ _ (.compStart (.ListComp elt [⟨tg, iter, ifs, 0⟩] scope pos) 0 (.ref it) (.ref D) (compEnvC scope (cellsFrom (s3.heap.objs.size + 1) scope.names (cloFrom X.env.cells scope.names [])) s3.heap.objs.size X.env)) (compPostX (model X.prog X.w) X.A X.xe Qf (.ref D) s3.heap.objs.size X.env.frame) { s3 with heap := pushCells (s3.heap.push { cls := .type "dict", data := .dict #[] }) scope.names }
  have nfp : ∀ b ∈ fp, (upd H2 D (.lst [])) b = none := fun b hb => (f3 b hb).1.1
  unfold Xbx at pe0
  generalize hce : compEnvC scope (cellsFrom (s3.heap.objs.size + 1) scope.names (cloFrom X.env.cells scope.names [])) s3.heap.objs.size X.env = ce at I4 pg pt pe0 ⊢
  have cL : ce.locals = s3.heap.objs.size := by subst hce; rfl
  have cF : ce.frame = X.env.frame := by subst hce; rfl
  generalize hH3 : upd H2 D (.lst []) = H3 at I3 I4 pg pt pe0 w0 nfp f3
  generalize hs4 : ({ s3 with heap := pushCells (s3.heap.push { cls := .type "dict", data := .dict #[] }) scope.names } : Shared) = s4 at I4 ⊢
  have st4 : tn 0 s4.heap := T.keep _ _ _ st3 fun b _ o e => by rw [← hs4]; exact pushCells_keeps _ _ _ _ (Heap.get?_push_of_some _ e)
  have stat : ∀ {σ' : L2.St} {H' : Hp} {s' : Shared}, Inv (X.blk s3 H3 scope ce fp) [] σ' H' s' → (∀ b ∈ fp, H' b = none) → ∀ b ∈ fp, FpOk (X.blk s3 H3 scope ce fp) [] H' b := fun {σ' H' s'} I' hn b hb =>
    ⟨hn b hb, (I'.ok.exf b hb).1, I'.ok.exfs b hb, .inl hb, fun x c e => (I'.ok.exf b hb).2 x c e, fun p hp => absurd (show p ∈ ([] : List (Addr × Obj)) ++ [] from hp) (by simp)⟩
  have back : ∀ {pn : List (Addr × Obj)} {σ' : L2.St} {H' : Hp} {s' : Shared}, Inv (X.blk s3 H3 scope ce fp) pn σ' H' s' → Inv X pins σ H' s' ∧ FpOk X pins H' s3.heap.objs.size := fun {pn σ' H' s'} I6 => by
    refine ⟨I3.call' (ch := fp) I6.os I6.base I6.hok I6.bare fun b hb => ⟨(f3 b hb).1.2.2.2.1, (f3 b hb).1.2.1, (f3 b hb).1.2.2.2.2.1, (f3 b hb).1.2.2.2.2.2⟩, I3.fpOk (Nat.le_refl _) ?_⟩
    have z : H' ce.locals = none := I6.free
    rw [cL] at z
    exact z
  have hfr : X.A.frames = some (X.env :: X.outer) := by rw [I3.ok.frames, hstk]
  have pe := pe0 (notedBy (model X.prog X.w) X.A ce fun e s' => compPostX (model X.prog X.w) X.A X.xe Qf (.ref D) s3.heap.objs.size X.env.frame (.error e) s') (fun τ pn G sx e s' Ix c => by
    obtain ⟨a, B, sI, H', cls, d, rfl, II, nb, up, fl, na, os, ag, hE⟩ := call_air Ix c
    have II : Inv (X.blk s3 H3 scope ce fp) pn τ H' sI := II.unwish
    obtain ⟨IX, fpC⟩ := back II
    obtain ⟨f0, f1, f2', f3', f4, f5⟩ := fpC
    have fl : HandSPX.FlyingZ B (X.env :: X.outer) a (L2N.Zn cls d) s'.heap := by rw [← hstk]; exact fl
    have hCf : s3.heap.objs.size ∉ frs (X.env :: X.outer) := fun hm => by
      rcases List.mem_cons.mp (by unfold frs at hm; rw [List.filterMap_cons, hfm] at hm; exact hm : s3.heap.objs.size ∈ X.env.locals :: X.outer.filterMap (·.frame)) with z | z
      · exact f1 z
      · exact f2' z
    obtain ⟨mm, hns, _⟩ := II.loc
    have hns : sI.heap.Ns ce.locals mm := hns
    rw [cL] at hns
    refine comp_leave L2N.Zn.steady hfr hfm cF fl ?_ hCf fun B' h' hB held hup => hW cls d H' hE _ _ ?_
    · obtain ⟨o, es, ep, ho, hd, hr⟩ := hns
      obtain ⟨sl, ho1⟩ := up _ o ho (fun vs z => by rw [hd] at z; cases z)
      exact ⟨mm, _, es, ep, ho1, hd, hr⟩
    · obtain ⟨G', g1, g2⟩ := restrict sI.heap fun b => decide (b ≠ s3.heap.objs.size)
      have gk : ∀ b o, G'.get? b = some o → b ≠ s3.heap.objs.size ∧ sI.heap.get? b = some o := fun b o e => by
        by_cases z : b = s3.heap.objs.size
        · rw [g2 b (by simp [z])] at e; cases e
        · rw [g1 b (decide_eq_true z)] at e; exact ⟨z, e⟩
      have I9 : Inv X pins σ H' { sI with heap := G', toks := sI.toks } := IX.turned (t' := sI.toks) (fun b o ne e => by rw [g1 b (decide_eq_true ne)]; exact e) f0 f1 f3' f4 f5
      refine ⟨a, B', { sI with heap := G', toks := sI.toks }, pins, σ, H', cls, d, rfl, I9, fun b o e hb => ?_, fun b o e nf => ?_, ?_, na, os, ag, rfl, rfl, rfl, rfl⟩
      · obtain ⟨z1, z2⟩ := gk b o e
        exact hB b o z1 (nb b o z2 hb)
      · obtain ⟨z1, z2⟩ := gk b o e
        obtain ⟨s1, e1⟩ := up b o z2 nf
        obtain ⟨s2', e2⟩ := hup b _ z1 e1 nf
        exact ⟨s2', e2⟩
      · rw [hstk]
        exact .inr (.inr held))
  have loop : codeAny (model X.prog X.w) X.A (.compLoop (.ListComp elt [⟨tg, iter, ifs, 0⟩] scope pos) 0 (.ref it) (.ref D) ce) (compPostX (model X.prog X.w) X.A X.xe Qf (.ref D) s3.heap.objs.size X.env.frame) s4 := by
    refine compLoop_any (fun n s' => ∃ i H', Inv (X.blk s3 H3 scope ce fp) [] (wipe σ (own.map (·.2))) H' s' ∧ tn i s'.heap ∧ (∀ b ∈ fp, H' b = none) ∧ W i n H') ?_ m0 ⟨0, H3, I4, st4, nfp, w0⟩
    rintro n s5 ⟨i, H5, I5, st5, n5, w5⟩
    rcases turn i n H5 w5 with ⟨stop, qq⟩ | ⟨go, Nx, hNx, step⟩
    · have td := T.done (X.blk s3 H3 scope ce fp) rfl rfl rfl hc i [] s5 _ H5 (fun _ _ => False) I5 (stat I5 n5) st5 stop
      refine thnF td fun r s6 ⟨hr, I6⟩ => ?_
      subst hr
      obtain ⟨I7, fC⟩ := back I6
      obtain ⟨m, hn, _⟩ := I6.loc
      have hn : s6.heap.Ns ce.locals m := hn
      rw [cL] at hn
      exact hRR D s3.heap.objs.size s6 m H5 I7 qq hn fC
    · have ti := T.item (X.blk s3 H3 scope ce fp) rfl rfl rfl hc i [] s5 _ H5 (fun _ _ => False) I5 (stat I5 n5) st5 go
      refine thnF ti fun r s6 ⟨u, hr, h6⟩ => ?_
      subst hr
      refine thnF h6 fun _ s7 ⟨x, H7, I7, r7, y7, st7, n7⟩ => ?_
      have I7' := I7.pinned (stat I7 n7) (T.obj _ _ st7)
      refine thnF (pg.run _ s7 _ H7 x u _ I7' r7 (step x H7 y7)) fun _ s8 ⟨σ8, H8, I8, hw8, q8⟩ => ?_
      refine thnF (pt.run _ s8 σ8 H8 _ I8 q8) fun b s9 ⟨H9, I9, q9⟩ => ?_
      have fin : ∀ {s' : Shared} {H' : Hp}, Inv (X.blk s3 H3 scope ce fp) ([] ++ pinsAt fp s7.heap) σ8 H' s' → Nx H' → ∃ m, m < n ∧ ∃ i H', Inv (X.blk s3 H3 scope ce fp) [] (wipe σ (own.map (·.2))) H' s' ∧ tn i s'.heap ∧ (∀ b ∈ fp, H' b = none) ∧ W i m H' := fun {s' H'} I' nx => by
        obtain ⟨m', hm, w'⟩ := hNx H' nx
        have pin' : ∀ b ∈ fp, ∀ o, s7.heap.get? b = some o → s'.heap.get? b = some o ∧ H' b = none := fun b hb o e =>
          let z := I'.pin (b, o) (List.mem_append_right _ (List.mem_append_right _ (mem_pinsAt hb e)))
          ⟨z.1, z.2.1⟩
        have hl : (wipe σ (own.map (·.2))).length = σ8.length := by rw [← hw8, wipe_length]
        refine ⟨m', hm, i + 1, H', (I'.unpinned (pins := [])).weak hl (fun j v e => ?_), T.keep _ _ _ st7 fun b hb o e => (pin' b hb o e).1, fun b hb => ?_, w'⟩
        · rw [← hw8] at e
          exact (wipe_some e).1
        · obtain ⟨o, e, _⟩ := T.obj _ _ st7 b hb
          exact (pin' b hb o e).2
      cases b with
      | false =>
        simp only [Bool.false_eq_true, if_false] at q9 ⊢
        exact fin I9 q9
      | true =>
        simp only [if_true] at q9 ⊢
        refine thn (pe.run _ s9 σ8 H9 _ (I9.wish _) q9) fun z s10 ⟨yv, H10, I10, r10, acc, hD10, hz10, nx⟩ => ?_
        exact app_ok (X := X.blk s3 H3 scope ce fp) I10.unwish hD10 hz10 r10 fun s11 I11 => fin I11 nx
  exact codeAny_compStart_list loop (T.self X.A 0 _ _ _ st4 loop)
theorem pe_lcX {elt tg iter : Expr} {ifs : List Expr} {scope : Scope} {own : List (Str × Nat)} {pos : Pos} {wi : TI} {g : TG} {tt : TT} {te : L2.St → (Value → Option Addr → Hp → Prop) → TE} (hc : X.calm = true) (hstk : X.stack = X.env :: X.outer) (hfm : X.env.frame = some X.env.locals) (hN : X.N.Nodup) (hi : PI X tg iter wi) (ok : BlkOk X.N X.env.scope scope own)
    (hg : ∀ (s : Shared) (H : Hp) (C : Addr) (cl : List (Str × Addr)) (fp : List Addr), PG (X.blk s H scope (compEnvC scope cl C X.env) fp) tg g) (ht : ∀ (s : Shared) (H : Hp) (C : Addr) (cl : List (Str × Addr)) (fp : List Addr), PTs (X.blk s H scope (compEnvC scope cl C X.env) fp) ifs tt)
    (he : ∀ (σ0 : L2.St) (s : Shared) (H : Hp) (C : Addr) (cl : List (Str × Addr)) (fp : List Addr) (xe : Value → Shared → Prop), (∀ τ, PassesAt (L2N.CX X.prog X.w) (Xbx X s H scope C cl fp xe) τ (fun cls d G => wpX X cls d σ0 G)) → PE (Xbx X s H scope C cl fp xe) elt (te σ0 (fun cls d G => wpX X cls d σ0 G))) (hs : ∀ x, foldedSetIterable iter X.env x = pure x) :
    PE X (.ListComp elt [⟨tg, iter, ifs, 0⟩] scope pos) (fun σ H Q => tLc wi g tt (te σ (fun cls d G => wpX X cls d σ G)) (own.map (·.2)) σ H Q) := by
  refine ⟨fun pins s σ H Q I h => ?_⟩
  rw [eval_ListComp]
  refine lc_coreX (Wc := fun cls d G => wpX X cls d σ G) hc hstk hfm (fun _ _ _ h => h) hN I hi ok hg ht (he σ) hs h fun D C s' m H' I' q hn f => ⟨m, hn, fun h'' sb => ?_⟩
  obtain ⟨f0, f1, f2, f3, f4, f5⟩ := f
  exact ⟨.ref D, H', I'.turned (t' := s'.toks) (fun b o hb e => (sb.2 b hb).trans e) f0 f1 f3 f4 f5, rfl, q⟩
end
end Bv
set_option maxRecDepth 100000
set_option maxHeartbeats 4000000
/-! Part 12y: try: body, except C1 as n: suite, .., else: suite. -/
namespace Bv
open PySem PySem.Spec PyProof.Rows L2
def asD (D : Ends) (i : Nat) : Ends := { nx := fun σ' H' => D.nx (σ'.set i none) H', rt := D.rt, bk := fun σ' H' => D.bk (σ'.set i none) H', ct := fun σ' H' => D.ct (σ'.set i none) H' }
def wFull (K : PySem.W.Frag) (Wout : WX) (D : Ends) : List (Value × Nat × (Addr → Value → Option Addr → TS)) → WX
  | [] => Wout
  | (c, i, ts) :: r => fun cls d σ H => ∃ b, PySem.W.exmOne K cls c = some b ∧ (b = true → ∀ a, H a = none → ts a cls d (asD D i) (σ.set i (some (.ref a))) H) ∧ (b = false → wFull K Wout D r cls d σ H)
inductive HdsAs (X : Cx) : List ExceptHandler → List (Value × Nat × (Addr → Value → Option Addr → TS)) → Prop
  | nil : HdsAs X [] []
  | cons {x n : Str} {c : Value} {i : Nat} {ts : Addr → Value → Option Addr → TS} {b₀ : Stmt} {suite : List Stmt} {np pos' : Pos} {hds : List ExceptHandler} {l : List (Value × Nat × (Addr → Value → Option Addr → TS))} (hc : Names X x c) (hi : X.N[i]? = some n) (hln : X.env.kindOf n = some .local)
      (hsu : ∀ (a : Addr) (oe : Obj) (cls : Value) (d : Option Addr) (pn : List (Addr × Obj)), L2N.Zn cls d oe → (∃ vs, oe.data = .fields vs) → PSs (X.suite a ((a, oe) :: pn)) (b₀ :: suite) (ts a cls d)) (r : HdsAs X hds l) :
      HdsAs X (.ExceptHandler (some (.Name x np)) (some n) (b₀ :: suite) pos' :: hds) ((c, i, ts) :: l)
section
variable {X : Cx} {body : List Stmt} {h₀ : ExceptHandler} {hds : List ExceptHandler} {l : List (Value × Nat × (Addr → Value → Option Addr → TS))} {pos : Pos} {tb : WX → TS} {Wout : WX}
theorem ps_try_full {orelse : List Stmt} {u : TS} (ho : PSs X orelse u) (hs : X.stack = X.env :: X.outer) (hf : X.env.frame = some X.env.locals) (hN : X.N.Nodup) (tk : L2N.Takes X Wout)
    (hb : ∀ (W : WX) (pn : List (Addr × Obj)) (xe : Value → Shared → Prop), L2N.Takes (X.tr pn xe) W → PassesOwn (model X.prog X.w) X.A X.env xe → PSs (X.tr pn xe) body (tb W))
    (hh : HdsAs X (h₀ :: hds) l) : PS X (.Try body (h₀ :: hds) orelse [] pos) (fun D σ H => tb (wFull X.K Wout D l) { D with nx := u D } σ H) := by
  refine ⟨fun pins s σ H D I h => ?_⟩
  have ok := I.ok
  have hfr : X.A.frames = some (X.env :: X.outer) := by rw [ok.frames, hs]
  refine wpAny_Try_except ?_
  refine wpAny_mono ((hb (wFull X.K Wout D l) (X.pn ++ pins) (fun e s₁ => wpAny (model X.prog X.w) X.A (noteFrame e X.env) (fun _ s₂ => wpAny (model X.prog X.w) X.A (setFlight e none) (fun _ s₃ =>
    wpAny (model X.prog X.w) X.A (handleBy e X.env (h₀ :: hds)) (SP X pins D) X.xe s₃) X.xe s₂) X.xe s₁) (fun u s' xx => ?_) PassesOwn.looking).run [] s σ H { D with nx := u D } (I.toTry _) h) (fun f s1 hsp => ?_) (fun e s1 he => he)
  · -- the catch
    obtain ⟨a, B, sI, pins', σ', H', cls, d, rfl, J', nb, up, sky, na, os, ag, w⟩ := xx
    have J : Inv X pins σ' H' sI := J'.ofTry ok
    have sky' : L2.Sky B (X.env :: X.outer) a (L2N.Zn cls d) X.env.locals s'.heap := by rw [← hs]; exact sky
    show wpAny (model X.prog X.w) X.A (noteFrame (.ref a) X.env) _ _ _
    refine L2N.Sky.land L2N.Zn.steady hfr hf sky' fun h3 fl3 up3 => ?_
    have J3 : Inv X pins σ' H' { s' with heap := h3 } := J.landed nb fl3.1 (up.trans up3) os ag
    obtain ⟨oe3, vs3, he3, hz3, hd3⟩ := fl3.there
    have notFr : ∀ {h : Heap} {o : Obj} {vs : Array Value}, h.FunFrames B (X.env :: X.outer) → h.get? a = some o → o.data = .fields vs → a ∉ frs (X.env :: X.outer) := fun {h o vs} ff e dd hm => by
      obtain ⟨_, o', e', hnf⟩ := ff.mem hm
      rw [e] at e'; cases e'
      exact hnf _ dd
    have nfr := notFr fl3.2.2.1 he3 hd3
    have nL : a ≠ X.env.locals := fun z => nfr (List.mem_filterMap.mpr ⟨X.env, List.mem_cons_self, by rw [hf, z]⟩)
    have nF : a ∉ X.fs := fun hm => by
      obtain ⟨e, he, q⟩ := List.mem_filterMap.mp hm
      exact nfr (List.mem_filterMap.mpr ⟨e, List.mem_cons_of_mem _ he, q⟩)
    have S3 := J3.suite he3 hd3 na nL nF
    have go : ∀ {hds' : List ExceptHandler} {l' : List (Value × Nat × (Addr → Value → Option Addr → TS))}, HdsAs X hds' l' → wFull X.K Wout D l' cls d σ' H' →
        wpAny (model X.prog X.w) X.A (handleBy (.ref a) X.env hds') (SP X pins D) X.xe { s' with heap := h3 } := by
      intro hds' l' hk
      induction hk with
      | nil =>
        intro w
        refine wpAny_handleBy_nil ?_
        obtain ⟨k1, k2, k3, oe, vs, T, oT, ts', he, hz, hd, h1, hr⟩ := id fl3
        unfold PySem.passOn
        refine wpAny_bind (wpAny_field he hd h1 ?_)
        rw [if_neg (show ¬ ((Value.ref T == Value.none) = true) from by simp)]
        have fin : wpAny (model X.prog X.w) X.A (setFlight (.ref a) X.env.frame) (fun _ s4 => wpAny (model X.prog X.w) X.A (throw (.ref a) : Sem Flow) (SP X pins D) X.xe s4) X.xe { s' with heap := h3 } := by
          rw [hf]
          refine HandSPX.setFlight_upZ fl3 fun h4 hh4 up4 => wpAny_throw (tk _ _ ?_)
          exact ⟨a, B, sI, pins, σ', H', cls, d, rfl, J, nb, (up.trans up3).trans up4, .inr (.inr (by rw [hs]; exact hh4)), na, os, ag, w⟩
        first
          | exact wpAny_bind (wpAny_pure (wpAny_bind fin))
          | exact wpAny_bind fin
      | @cons x n c i ts b₀ suite np pos' hds2 l2 hc hi hln hsu r ih =>
        intro w
        obtain ⟨b, hb1, hyes, hno⟩ := w
        have hloc : Loc X.env.scope n := .inl hln
        refine wpAny_handleBy_cons (codeAny_handlers_test ?_) (by intro q; cases q)
        have LT : PySem.W.Looks (model X.prog X.w) h3 (typeOf (.ref a)) cls := fun A Q E s k q => wpAny_typeOf_ref (k _ _ he3) (by rw [hz3.1]; exact q)
        have LM := PySem.W.exm_one (M := model X.prog X.w) (J3.kIn) LT hb1
        have test : ∀ {Q : Value → Shared → Prop} {E : Value → Shared → Prop}, Q c { s' with heap := h3 } → wpAny (model X.prog X.w) (X.A.mark (some (.ref a))) (eval (.Name x np) X.env) Q E { s' with heap := h3 } := fun {Q E} q => by
          obtain ⟨hg, hdbg, hm | ⟨hm, hv, hnn⟩⟩ := hc
          · exact ld_glob (X := X.suite a ((a, oe3) :: (X.pn ++ pins))) S3 hg hm q hdbg
          · exact ld_blt (X := X.suite a ((a, oe3) :: (X.pn ++ pins))) S3 hg hm hv q hnn hdbg
        refine test (LM.here ?_)
        cases b with
        | true =>
          refine codeAny_handlers_suite_as ?_
          refine HandSPX.lands_againZ fl3 fun h4 fl4 up4 => ?_
          have J4 : Inv X pins σ' H' { s' with heap := h4 } := J.landed nb fl4.1 ((up.trans up3).trans up4) os ag
          obtain ⟨oe4, vs4, he4, hz4, hd4⟩ := fl4.there
          have S4 := J4.suite he4 hd4 na nL nF
          refine store_ok (X := X.suite a ((a, oe4) :: (X.pn ++ pins))) (v := .ref a) S4 hN hi hloc rfl (fun s5 S5 => ?_) (.inr hln)
          refine wpAny_mono ((hsu a oe4 cls d (X.pn ++ pins) hz4 ⟨_, hd4⟩).run [] s5 _ H' _ S5 (hyes rfl a na)) (fun f s6 hsp => ?_) (fun _ _ z => False.elim z)
          have end_ : ∀ {σ6 : L2.St} {H6 : Hp} {Q : Shared → Prop}, Inv (X.suite a ((a, oe4) :: (X.pn ++ pins))) [] σ6 H6 s6 → (∀ s7, Inv X pins (σ6.set i none) H6 s7 → Q s7) →
              wpAny (model X.prog X.w) X.A (do bindName X.env n .none; unbindBehindTheSuite X.env n pos') (fun _ s7 => Q s7) X.xe s6 := fun {σ6 H6 Q} S6 hq => gone_ok (S6.unsuite ok) hN hi hln hq
          cases f with
          | next =>
            obtain ⟨σ6, H6, S6, q6⟩ := hsp
            exact end_ S6 fun s7 J7 => ⟨_, _, J7, q6⟩
          | brk =>
            obtain ⟨σ6, H6, S6, q6⟩ := hsp
            exact end_ S6 fun s7 J7 => ⟨_, _, J7, q6⟩
          | cont =>
            obtain ⟨σ6, H6, S6, q6⟩ := hsp
            exact end_ S6 fun s7 J7 => ⟨_, _, J7, q6⟩
          | ret u =>
            obtain ⟨v6, σ6, H6, S6, r6, q6⟩ := hsp
            exact end_ S6 fun s7 J7 => ⟨_, _, _, J7, r6, q6⟩
        | false =>
          show wpAny _ X.A (handleBy (.ref a) X.env hds2) _ _ _
          exact ih (hno rfl)
    exact go hh w
  · cases f with
    | next =>
      obtain ⟨σ', H', J', q⟩ := hsp
      exact ho.run pins s1 σ' H' D (J'.ofTry ok) q
    | brk =>
      obtain ⟨σ', H', J', q⟩ := hsp
      exact ⟨σ', H', J'.ofTry ok, q⟩
    | cont =>
      obtain ⟨σ', H', J', q⟩ := hsp
      exact ⟨σ', H', J'.ofTry ok, q⟩
    | ret u =>
      obtain ⟨v, σ', H', J', r, q⟩ := hsp
      exact ⟨v, σ', H', J'.ofTry ok, r, q⟩
end
end Bv
set_option maxRecDepth 100000
set_option maxHeartbeats 2000000
/-! Part 13: the single statements. -/
namespace Bv
open PySem L2
/-- a def's own context: all of its stored names are the frame's -/
structure Cst [TC] (X : Cx) (CX : CXT) (XE : XK) (tb : Tb) (sc : Scope) (Φ : Fns) (gl : Str → Option T) (cA : CA) : Prop where
  c : Ctx X CX XE tb sc Φ gl cA
  fn : ∀ x, X.fn x = true
  po : PassesOwn (model X.prog X.w) X.A X.env X.xe
  cx : CX = L2N.CX X.prog X.w
  stk : X.stack = X.env :: X.outer
  frm : X.env.frame = some X.env.locals
  kf : X.env.scope.kind = .function
/-- range(x, y) -/
def rngOf (tb : Tb) (sc : Scope) : Expr → Option (Expr × Expr)
  | .Call (.Name g _) [x, y] [] _ => if g == ("range" : Str) && builtinB tb sc g then some (x, y) else none
  | _ => none
def revIt (tb : Tb) (sc : Scope) (n : Nat) (a : Expr) : Option It := match rngOf tb sc a with
  | some (x, y) => match toE tb sc n x, toE tb sc n y with
    | some u, some v => some (.rrng u v)
    | _, _ => none
  | none => (toE tb sc n a).map .rev
def toIt (tb : Tb) (sc : Scope) (n : Nat) : Expr → Option It
  | .Call (.Name f p) [a] [] pos =>
    if f == ("range" : Str) && builtinB tb sc f then (toE tb sc n a).map .rng1
    else if f == ("enumerate" : Str) && builtinB tb sc f then (toE tb sc n a).map .enm
    else if f == ("reversed" : Str) && builtinB tb sc f then revIt tb sc n a
    else (toE tb sc n (.Call (.Name f p) [a] [] pos)).map .it
  | .Call (.Name f p) [a, b] [] pos =>
    if f == ("range" : Str) && builtinB tb sc f then (match toE tb sc n a, toE tb sc n b with | some x, some y => some (.rng2 x y) | _, _ => none)
    else if f == ("zip" : Str) && builtinB tb sc f then (match toE tb sc n a, toE tb sc n b with | some x, some y => some (.zip x y) | _, _ => none)
    else (toE tb sc n (.Call (.Name f p) [a, b] [] pos)).map .it
  | e => (toE tb sc n e).map .it
def isLcB : Expr → Bool
  | .ListComp .. => true
  | _ => false
/-- how a comprehension's name is stored is known -/
def lcSw (sc : Scope) (x : Str) (px : Pos) : Expr → Bool
  | .ListComp _ [⟨_, _, _, 0⟩] scope pos => match sc.names.lookup x with
    | some .cell => true
    | some .local => (px.line == pos.line) && !(scope.names.any fun (n, k) => n == x && (k == .local || k == .cell))
    | _ => false
  | .ListComp .. => false
  | _ => true
def isSlcB : Expr → Bool
  | .Slice .. => true
  | _ => false
def isTupB : Expr → Bool
  | .Tuple .. => true
  | _ => false
def toSs (f : Stmt → Option S) : List Stmt → Option (List S)
  | [] => some []
  | s :: ss => match f s, toSs f ss with
    | some a, some as => some (a :: as)
    | _, _ => none
/-- from the text to a place -/
def toPl (tb : Tb) (sc : Scope) (n : Nat) : Expr → Option Pl
  | .Name x px => match toE tb sc n (.Name x px) with
    | some (.var i) => some (.var i)
    | _ => none
  | .Subscript a k _ => match toPl tb sc n a, toE tb sc n k with
    | some p, some kk => some (.ix p kk)
    | _, _ => none
  | _ => none
def toLm (m : Str) : Option LM := [LM.pop, .clear, .rev].find? fun l => lmName l == m
def owOf (ow : List Nat) (i : Nat) : Ow := if ow.contains i then (if ow.contains (100000 + i) then .own else .sh) else .frz
def mvAt (ow : List Nat) (pos : Pos) : Bool := ow.contains (1000 + pos.line)
/-- a call that is lent an owned list -/
def lendC (tb : Tb) (sc : Scope) (ow : List Nat) (n : Nat) : Expr → Option (Nat × Str × E)
  | .Call (.Name f p) [.Name y py, e] [] pos => match toE tb sc n (.Name y py), toE tb sc n e with
    | some (.var i), some a => if ow.contains (300000 + i) && glB sc f && sane f && (tb.fns.lookup f == some 2) then some (i, f, a) else none
    | _, _ => none
  | _ => none
def lendE (tb : Tb) (sc : Scope) (ow : List Nat) (n : Nat) : Expr → Option (Option Int × Nat × Str × E)
  | .BinOp (.Constant (.int c) j pc) .Add ce pos => (lendC tb sc ow n ce).map fun x => (some c, x)
  | ce => (lendC tb sc ow n ce).map fun x => (none, x)
def lendS (tb : Tb) (sc : Scope) (ow : List Nat) (n : Nat) : Stmt → Option S
  | .Assign [.Name x px] (.List [ce] lp) pos => match (if locB sc x then slotOf tb.N x else none), lendE tb sc ow n ce with
    | some j, some (c, i, f, a) => some (.lnd (.asg j) c i f a)
    | _, _ => none
  | .Expr (.Call (.Attribute (.Name y py) m apos) [ce] [] cpos) pos => if m == ("append" : Str) && apos.endLine == cpos.line then (match toE tb sc n (.Name y py), lendE tb sc ow n ce with
    | some (.var j), some (c, i, f, a) => some (.lnd (.app j) c i f a)
    | _, _ => none) else none
  | .Raise _ _ _ => some .dead
  | _ => none
/-! exceptions -/
def xnmB (tb : Tb) (sc : Scope) (D : Str) : Bool := glB sc D && sane D && (if D == ("ValueError" : Str) then tb.bls.contains D else tb.xcs.contains D)
def xnms (tb : Tb) (sc : Scope) : List Expr → Option (List Str)
  | [] => some []
  | .Name D p :: r => if xnmB tb sc D then (xnms tb sc r).map (D :: ·) else none
  | _ :: _ => none
/-- from the text to what is asked of the exception that x holds -/
def toHA (tb : Tb) (sc : Scope) (n : Nat) (x : Str) : Expr → Option HA
  | .Call (.Name f p) [.Name y py, .Name D pD] [] pos => if f == ("isinstance" : Str) && builtinB tb sc f && y == x && xnmB tb sc D then some (.isx D) else none
  | .Call (.Name f p) [.Name y py, .Tuple ds k tp] [] pos => if f == ("isinstance" : Str) && builtinB tb sc f && y == x && decide (ds.length < 1000) then (xnms tb sc ds).map .isxs else none
  | .UnaryOp .Not (.Name y py) pos => match toE tb sc n (.Name y py) with
    | some (.var j) => some (.nloc j)
    | _ => none
  | .UnaryOp .Not (.Call (.Name f p) [.Attribute (.Name y py) fd pa, .Name c pc] [] pos) pos' => if f == ("isinstance" : Str) && builtinB tb sc f && y == x && c == ("bool" : Str) && builtinB tb sc c then some (.nisb fd) else none
  | .Compare (.Attribute (.Name y py) fd pa) [.Eq] [.Constant (.int i) j pc] pos => if y == x then some (.feq fd i) else none
  | .Call (.Name g p) [.Attribute (.Name y py) fd pa, .Constant (.int i) j pc] [] pos => if y == x && glB sc g && sane g then some (.isd g fd i) else none
  | _ => none
def toHAs (tb : Tb) (sc : Scope) (n : Nat) (x : Str) : List Expr → Option (List HA)
  | [] => some []
  | e :: es => match toHA tb sc n x e, toHAs tb sc n x es with
    | some a, some as => some (a :: as)
    | _, _ => none
def toHS (tb : Tb) (sc : Scope) (n : Nat) (x : Str) : List Stmt → Option (List HS)
  | [.Return (some (.BoolOp .And (a :: as) p)) pos] => match toHAs tb sc n x (a :: as) with
    | some r => some [.ret r]
    | none => none
  | .Assign [.Name y p] e pos :: r => match (if locB sc y then slotOf tb.N y else none), toHA tb sc n x e, toHS tb sc n x r with
    | some j, some a, some rs => some (.asg j a :: rs)
    | _, _, _ => none
  | _ => none
def locO (sc : Scope) (x : Str) : Bool := match sc.names.lookup x with
  | some .local => true
  | _ => false
/-- a call that may raise -/
def callX (tb : Tb) (sc : Scope) (n : Nat) : Expr → Option (Str × List E)
  | .Call (.Name f p) (a :: as) [] pos => match toEs (toE tb sc n) (a :: as) with
    | some es => if glB sc f && sane f && (tb.fns.lookup f == some es.length) then some (f, es) else none
    | none => none
  | _ => none
def toXA (tb : Tb) (sc : Scope) (n : Nat) (e : Expr) : Option XA := match callX tb sc n e with
  | some (f, es) => some (.call f es)
  | none => (toE tb sc n e).map .e
def toXAs (tb : Tb) (sc : Scope) (n : Nat) : List Expr → Option (List XA)
  | [] => some []
  | e :: es => match toXA tb sc n e, toXAs tb sc n es with
    | some a, some as => some (a :: as)
    | _, _ => none
def toEX (tb : Tb) (sc : Scope) (n : Nat) : Expr → Option EX
  | .ListComp elt [⟨.Name y py, iter, [], 0⟩] scope pos => match toTg tb scope (.Name y py), toE tb sc n iter, callX tb (relS scope sc) n elt with
    | some (.nm i), some a, some (f, es) => if lcOk tb sc scope (.nm i) .it [] then some (.lc i a f es) else none
    | _, _, _ => none
  | .Call (.Name C p) (a :: as) [] pos => match callX tb sc n (.Call (.Name C p) (a :: as) [] pos) with
    | some (f, es) => some (.call f es)
    | none => if clsB tb sc C then (toXAs tb sc n (a :: as)).map (.mk C) else none
  | _ => none
def xcS (tb : Tb) (sc : Scope) (ow : List Nat) (n : Nat) (rec : List Stmt → Option (List S)) : Stmt → Option S
  | .Raise (some (.Call (.Name x p) [.Constant (.str m) j p2] [] pos)) none pos' => if glB sc x && sane x && tb.xcs.contains x then some (.raise x) else none
  | .Raise (some (.Call (.Name x p) [e] [] pos)) none pos' => match toE tb sc n e with
    | some a => if glB sc x && sane x && tb.xcs.contains x then some (.raise1 x a) else none
    | none => none
  | .Assign [.Name x px] e pos => if ow.contains (500000 + pos.line) && !isLcB e then (match (if locB sc x then slotOf tb.N x else none), toEX tb sc n e with
    | some i, some a => some (.asgX i (owOf ow i) a)
    | _, _ => none) else none
  | .Return (some e) pos => if ow.contains (500000 + pos.line) then (toEX tb sc n e).map .retX else none
  | .Expr (.Call (.Name f p) (a :: as) [] cpos) pos => match toEs (toE tb sc n) (a :: as) with
    | some es => if glB sc f && sane f && (tb.fns.lookup f == some es.length) then some (.exp f es) else none
    | none => none
  | .Try body [.ExceptHandler (some (.Name x np)) (some y) (b₀ :: suite) pos'] [] [] pos => match rec body, slotOf tb.N y, toHS tb sc n y (b₀ :: suite) with
    | some b, some i, some hs => if glB sc x && sane x && tb.xcs.contains x && !(x == ("ValueError" : Str)) && locO sc y && sane y then some (.tryE b x i hs) else none
    | _, _, _ => none
  | _ => none
/-- in an except suite: a value -/
def toHE (tb : Tb) (sc : Scope) (x : Str) : Nat → Expr → Option HE
  | 0, _ => none
  | n + 1, e => match e with
    | .Name y py => match toE tb sc 1 (.Name y py) with
      | some (.var j) => some (.v j)
      | _ => none
    | .Attribute (.Name y py) fd _ => if y == x then some (.f fd) else none
    | .Subscript (.Name y py) i _ => match toE tb sc 1 (.Name y py), toHE tb sc x n i with
      | some (.var j), some h => if isSlcB i then none else some (.ix j h)
      | _, _ => none
    | .Tuple [a, b] _ _ => match toHE tb sc x n a, toHE tb sc x n b with
      | some h, some g => some (.tp h g)
      | _, _ => none
    | .Call (.Name g p) [.Name y py] [] pos => if y == x && glB sc g && sane g then some (.kd g) else none
    | _ => none
def toHTs (tb : Tb) (sc : Scope) (x : Str) : List Stmt → Option (List HT)
  | [] => some []
  | .Assign [.Name y p] e pos :: r => match (if locB sc y then slotOf tb.N y else none), toHE tb sc x 9 e, toHTs tb sc x r with
    | some j, some h, some rs => some (.asg j h :: rs)
    | _, _, _ => none
  | .Expr (.Call (.Attribute (.Name y py) m apos) [e] [] cpos) pos :: r => if m == ("append" : Str) && apos.endLine == cpos.line then (match toE tb sc 1 (.Name y py), toHE tb sc x 9 e, toHTs tb sc x r with
    | some (.var j), some h, some rs => some (.app j h :: rs)
    | _, _, _ => none) else none
  | _ :: _ => none
def toHds (tb : Tb) (sc : Scope) : List ExceptHandler → Option (List (Str × Nat × List HT))
  | [] => some []
  | .ExceptHandler (some (.Name x np)) (some y) (b₀ :: suite) pos' :: r => match slotOf tb.N y, toHTs tb sc y (b₀ :: suite), toHds tb sc r with
    | some i, some hs, some rest => if glB sc x && sane x && tb.xcs.contains x && !(x == ("ValueError" : Str)) && locO sc y && sane y then some ((x, i, hs) :: rest) else none
    | _, _, _ => none
  | _ :: _ => none
def stLine : Stmt → Nat
  | .Expr _ p => p.line
  | .Assign _ _ p => p.line
  | .If _ _ _ p => p.line
  | .Return _ p => p.line
  | .For _ _ _ _ p => p.line
  | .Raise _ _ p => p.line
  | _ => 0
def xcT (tb : Tb) (sc : Scope) (ow : List Nat) (n : Nat) (rec : List Stmt → Option (List S)) (st : Stmt) : Option S :=
  if ow.contains (800000 + stLine st) then some .dead else match st with
  | .Assign [.Name x px] (.Subscript (.Name y py) (.Constant (.int k) kj kp) sp) pos => if ow.contains (700000 + pos.line) then (match (if locB sc x then slotOf tb.N x else none), toE tb sc 1 (.Name y py) with
    | some i, some (.var j) => some (.take i j k)
    | _, _ => none) else none
  | .For tg it body [] pos => if ow.contains (600000 + pos.line) then (match toTg tb sc tg, toPl tb sc n it, rec body with
    | some t, some p, some b => some (.for_ t (.itp p) b)
    | _, _, _ => none) else none
  | .Raise (some (.Call (.Name x p) [e1, e2] [] pos)) none pos' => match toE tb sc n e1, toE tb sc n e2 with
    | some a, some b => if glB sc x && sane x && tb.xcs.contains x then some (.raise2 x a b) else none
    | _, _ => none
  | .Try body (h :: hds) orelse [] pos => if ow.contains (900000 + pos.line) then (match rec body, toHds tb sc (h :: hds), rec orelse with
    | some b, some hs, some o => some (.tryM b hs o)
    | _, _, _ => none) else none
  | _ => none
def toS (tb : Tb) (sc : Scope) (ow : List Nat) : Nat → Stmt → Option S
  | 0, _ => none
  | n + 1, st => match xcT tb sc ow n (toSs (toS tb sc ow n)) st with
   | some s => some s
   | none => match xcS tb sc ow n (toSs (toS tb sc ow n)) st with
   | some s => some s
   | none => match lendS tb sc ow n st with
   | some s => some s
   | none => match st with
    | .Assign [.Name x px] e _ => match (if locB sc x then slotOf tb.N x else none), toE tb sc n e with
      | some i, some a => if lcSw sc x px e then some (.asg i (owOf ow i) a) else none
      | _, _ => none
    | .Assign [.Tuple ts _ _] e _ => if isTupB e then none else match toNms tb sc ts, toE tb sc n e with
      | some is, some a => some (.unp is a)
      | _, _ => none
    | .Assign [.Subscript (.Name x px) k _] e pos => match toE tb sc n (.Name x px), toE tb sc n k, toE tb sc n e with
      | some (.var i), some kk, some a => if ow.contains (200000 + i) then some (.setk i kk a) else some (.seti (.var i) kk (mvAt ow pos) a)
      | _, _, _ => none
    | .Assign [.Subscript r k _] e pos => match toPl tb sc n r, toE tb sc n k, toE tb sc n e with
      | some p, some kk, some a => some (.seti p kk (mvAt ow pos) a)
      | _, _, _ => none
    | .Assign [.Attribute (.Name x px) f _] e _ => match toE tb sc n (.Name x px), toE tb sc n e with
      | some (.var i), some a => some (.setf i f a)
      | _, _ => none
    | .Expr (.Call (.Attribute r m apos) [e] [] cpos) pos => if m == ("append" : Str) && apos.endLine == cpos.line then (match toPl tb sc n r, toE tb sc n e with
      | some p, some a => some (.app p (mvAt ow pos) a)
      | _, _ => none) else if m == ("extend" : Str) && apos.endLine == cpos.line then (match toPl tb sc n r, toE tb sc n e with
      | some p, some a => some (.ext p a)
      | _, _ => none) else none
    | .Expr (.Call (.Attribute r m apos) [] [] cpos) pos => if apos.endLine == cpos.line then (match toPl tb sc n r, toLm m with
      | some p, some l => some (.lm p l)
      | _, _ => none) else none
    | .AugAssign (.Subscript r k _) op e _ => match toPl tb sc n r, toE tb sc n k, toE tb sc n e with
      | some p, some kk, some a => (match op with
        | .Add => some (.augi p kk false a)
        | .Sub => some (.augi p kk true a)
        | _ => none)
      | _, _, _ => none
    | .If c a b _ => match toE tb sc n c, toSs (toS tb sc ow n) a, toSs (toS tb sc ow n) b with
      | some cc, some x, some y => some (.ite cc x y)
      | _, _, _ => none
    | .For tg it body [] _ => match toTg tb sc tg, toIt tb sc n it, toSs (toS tb sc ow n) body with
      | some t, some i, some b => (match i, t with | .enm _, .nm _ => none | .zip _ _, .nm _ => none | _, _ => some (.for_ t i b))
      | _, _, _ => none
    | .While c body [] _ => match toE tb sc n c, toSs (toS tb sc ow n) body with
      | some cc, some b => some (.whl cc b)
      | _, _ => none
    | .Return (some e) _ => (toE tb sc n e).map .ret
    | .Return none _ => some .retN
    | .Break _ => some .brk
    | .Continue _ => some .cnt
    | _ => none
section
variable [TC] {X : Cx} {CX : CXT} {XE : XK} {tb : Tb} {sc : Scope} {Φ : Fns} {gl : Str → Option T} {cA : CA} {P : List Nat}
theorem toE_swaps {n : Nat} {e : Expr} {a : E} (h : toE tb sc n e = some a) (hl : isLcB e = false) (t : Option Expr) (l : Nat) (env : PySem.Env) : swapsWith e t l env = pure false := by
  cases n with
  | zero => cases h
  | succ n => cases e <;> first | rfl | (simp [toE] at h; done) | cases hl
theorem swaps_nn {e t : Expr} (ht : ∀ x p, t ≠ .Name x p) (l : Nat) (env : PySem.Env) : swapsWith e (some t) l env = pure false := by
  cases e <;> cases t <;> first | rfl | exact absurd rfl (ht _ _)
theorem pg_nm (C : Cst X CX XE tb sc Φ gl cA) {x : Str} {pos : Pos} {i : Nat} (h1 : locB sc x = true) (h2 : slotOf tb.N x = some i) : PG X (.Name x pos) (gName i) :=
  pg_name C.c.nd (by rw [C.c.nm]; exact slot_get h2) (by rw [C.c.scp]; exact loc_of h1) (.inl (C.fn x))
theorem pins_set {P : List Nat} {σ : St} {i : Nat} {w : Option V} (h : i ∉ P) : ∀ j ∈ P, (σ.set i w)[j]? = σ[j]? := fun j hj => by
  rw [List.getElem?_set_ne]
  intro e; subst e; exact h hj
/-- what a store is to reach -/
theorem asg_w {k : Fk} {env : Env} {σ : St} {HP H : Hp} {O : List Addr} {D : Ends} {ea : E} {i : Nat} {o : Ow} (s : SR cA k HP H env σ O) (w : WpOut X cA k P (exec Φ gl P (.asg i o ea) env) σ D) : WpS cA k (evS Φ gl P false env ea) HP H O σ fun v H1 => D.nx (σ.set i (some v)) H1 := by
  unfold exec at w
  cases q : evS Φ gl P false env ea with
  | exc x => rw [q] at w; exact w.elim
  | stk => rw [q] at w; exact w.elim
  | ok pr =>
    obtain ⟨g, env1⟩ := pr
    rw [q] at w
    intro v HP1 H1 Og O1 rg s1 nd mine sub st
    simp only at w
    split at w
    · rename_i hi
      cases o with
      | own =>
        obtain ⟨O', s', _⟩ := s1.put rg nd mine hi.2
        exact w _ _ _ O' s' (pins_set hi.1)
      | frz =>
        obtain ⟨HP', O', s'⟩ := s1.putF rg (evS_free _ q) nd mine hi.2
        exact w _ _ _ O' s' (pins_set hi.1)
      | sh =>
        obtain ⟨HP', O', s'⟩ := s1.putS rg (evS_free _ q) nd mine hi.2
        exact w _ _ _ O' s' (pins_set hi.1)
    · exact w.elim
theorem snd_asg (C : Cst X CX XE tb sc Φ gl cA) {x : Str} {e : Expr} {ea : E} {i : Nat} {o : Ow} {p pos : Pos} (h1 : locB sc x = true) (h2 : slotOf tb.N x = some i) (hsw : swapsWith e (some (.Name x p)) pos.line X.env = pure false) (S : SndS X Φ gl cA P false e ea) :
    SndSt X Φ gl cA P (.Assign [.Name x p] e pos) (.asg i o ea) := by
  intro k env σ HP H O D s w
  refine ⟨_, ps_set (i := i) C.c.nd (by rw [C.c.nm]; exact slot_get h2) (by rw [C.c.scp]; exact loc_of h1) peE hsw (.inl (C.fn x)), ?_⟩
  show wpE X e σ H fun v H1 => D.nx (σ.set i (some v)) H1
  exact S k env σ HP H O _ s (asg_w s w)
/-- name = [..], the name a plain local -/
theorem snd_asgLc (C : Cst X CX XE tb sc Φ gl cA) {n : Nat} {x : Str} {elt tgE iter : Expr} {ifs : List Expr} {scope : Scope} {ea : E} {i : Nat} {o : Ow} {p pos spos : Pos} (h1 : sc.names.lookup x = some .local) (h2 : slotOf tb.N x = some i)
    (h : toE tb sc n (.ListComp elt [⟨tgE, iter, ifs, 0⟩] scope pos) = some ea) (hln : (p.line == pos.line) = true) (hny : (scope.names.any fun (n, k) => n == x && (k == .local || k == .cell)) = false) :
    SndSt X Φ gl cA P (.Assign [.Name x p] (.ListComp elt [⟨tgE, iter, ifs, 0⟩] scope pos) spos) (.asg i o ea) := by
  intro k env σ HP H O D s w
  have w1 := asg_w s w
  obtain ⟨W, bk, hl, own⟩ := toE_lc C.c h
  obtain ⟨⟨tg0, k0, as0, cs0, ee0, rfl⟩, tg, hg, W⟩ := W
  have w2 := plainW (e := .lc tg0 k0 as0 cs0 ee0) rfl s w1
  obtain ⟨wi, PIw, hf, hw⟩ := W env σ HP H H _ s.pv s.hs s.eP w2
  have kf : X.env.scope.names.lookup x = some .local := by rw [C.c.scp]; exact h1
  refine ⟨_, ps_setLc (g := gOf X.K tg) (tt := bT X scope ifs) (te := bE X scope elt) C.c.calm C.c.nd (by rw [C.c.nm]; exact slot_get h2) kf (sw_true C.kf kf hln hny) PIw (bk tg hg) (fun s H Ca cl fp => pg_of (TgC.blk C.c scope s H Ca cl fp) hg)
    (fun s H Ca cl fp => bT_ok scope hl s H Ca cl fp) (fun s H Ca cl fp => bE_ok scope elt s H Ca cl fp) hf, ?_⟩
  rw [own tg]
  exact hw
theorem snd_ret {e : Expr} {ea : E} {pos : Pos} (S : SndS X Φ gl cA P true e ea) : SndSt X Φ gl cA P (.Return (some e) pos) (.ret ea) := by
  intro k env σ HP H O D s w
  refine ⟨_, ps_ret peE, ?_⟩
  show wpE X e σ H D.rt
  refine S k env σ HP H O _ s ?_
  unfold exec at w
  cases q : evS Φ gl P true env ea with
  | exc x => rw [q] at w; exact w.elim
  | stk => rw [q] at w; exact w.elim
  | ok pr =>
    obtain ⟨g, env1⟩ := pr
    rw [q] at w
    intro v HP1 H1 Og O1 rg s1 nd mine sub st
    exact w v σ HP1 H1 Og O1 rg s1 (fun _ _ => rfl) nd mine
theorem snd_retN {pos : Pos} : SndSt X Φ gl cA P (.Return none pos) .retN := by
  intro k env σ HP H O D s w
  refine ⟨_, ps_retN, ?_⟩
  unfold exec at w
  exact w .non σ HP H [] O ⟨rfl, rfl⟩ s (fun _ _ => rfl) s.nd (fun _ z => nomatch z)
theorem snd_brk {pos : Pos} : SndSt X Φ gl cA P (.Break pos) .brk := by
  intro k env σ HP H O D s w
  unfold exec at w
  exact ⟨_, ps_break, w σ HP H O s fun _ _ => rfl⟩
theorem snd_cnt {pos : Pos} : SndSt X Φ gl cA P (.Continue pos) .cnt := by
  intro k env σ HP H O D s w
  unfold exec at w
  exact ⟨_, ps_continue, w σ HP H O s fun _ _ => rfl⟩
theorem sndSts_nil : SndSts X Φ gl cA P [] [] := by
  intro k env σ HP H O D s w
  unfold execs at w
  exact ⟨_, pss_nil, w σ HP H O s fun _ _ => rfl⟩
theorem sndSts_cons {st : Stmt} {sts : List Stmt} {a : S} {as : List S} (S1 : SndSt X Φ gl cA P st a) (S2 : SndSts X Φ gl cA P sts as) : SndSts X Φ gl cA P (st :: sts) (a :: as) := by
  intro k env σ HP H O D s w
  refine ⟨_, pss_cons psS pssS, ?_⟩
  show wpS X st { D with nx := fun σ' H' => wpSs X sts D σ' H' } σ H
  refine S1 k env σ HP H O _ s ?_
  unfold execs at w
  cases q : exec Φ gl P a env with
  | nx env1 =>
    rw [q] at w
    intro σ1 HP1 H1 O1 s1 e1
    exact S2 k env1 σ1 HP1 H1 O1 D s1 (WpOut.pins w e1)
  | brk env1 => rw [q] at w; exact w
  | cnt env1 => rw [q] at w; exact w
  | ret g env1 => rw [q] at w; exact w
  | exc x env1 => rw [q] at w; exact w
  | stk => rw [q] at w; exact w
theorem SR.test {k : Fk} {HP H : Hp} {env : Env} {σ : St} {O : List Addr} {ex : Expr} {e : E} (s : SR cA k HP H env σ O) (S : SndT X Φ gl cA ex e) {Q : Bool → Hp → Prop}
    (h : match evB Φ gl env e with | .ok b => ∀ HP1 H1, SR cA k HP1 H1 env σ O → Q b H1 | .exc _ => False | .stk => False) : wpT X ex σ H Q := by
  refine S env σ HP H H Q s.pv s.hs s.eP ?_
  cases q : evB Φ gl env e with
  | exc x => rw [q] at h; exact h
  | stk => rw [q] at h; exact h
  | ok b => rw [q] at h; exact fun HP1 H1 st => h HP1 H1 (s.step st)
theorem snd_ite {c : Expr} {a b : List Stmt} {ec : E} {sa sb : List S} {pos : Pos} (Sc : SndT X Φ gl cA c ec) (Sa : SndSts X Φ gl cA P a sa) (Sb : SndSts X Φ gl cA P b sb) : SndSt X Φ gl cA P (.If c a b pos) (.ite ec sa sb) := by
  intro k env σ HP H O D s w
  refine ⟨_, ps_if ptT pssS pssS, ?_⟩
  refine s.test Sc ?_
  unfold exec at w
  cases q : evB Φ gl env ec with
  | exc x => rw [q] at w; exact w
  | stk => rw [q] at w; exact w
  | ok b =>
    rw [q] at w
    intro HP1 H1 s1
    cases b with
    | true => exact iteT (Sa k env σ HP1 H1 O D s1 w)
    | false => exact iteF (Sb k env σ HP1 H1 O D s1 w)
theorem snd_whl (C : Cst X CX XE tb sc Φ gl cA) {c : Expr} {b : List Stmt} {ec : E} {sb : List S} {pos : Pos} (Sc : SndT X Φ gl cA c ec) (Sb : SndSts X Φ gl cA P b sb) : SndSt X Φ gl cA P (.While c b [] pos) (.whl ec sb) := by
  intro k env σ HP H O D s w
  refine ⟨_, ps_while C.po ptT pssS, ?_⟩
  unfold exec at w
  refine ⟨fun m σ' H' => ∃ env' HP' O', SR cA k HP' H' env' σ' O' ∧ (∀ i ∈ P, σ'[i]? = σ[i]?) ∧ WpOut X cA k P (loopW (fun env => evB Φ gl env ec) (execs Φ gl P sb) m env') σ D, ⟨_, env, HP, O, s, fun _ _ => rfl, w⟩, ?_⟩
  rintro m σ' H' ⟨env', HP', O', s', e', w'⟩
  refine s'.test Sc ?_
  cases m with
  | zero => exact w'.elim
  | succ m =>
    unfold loopW at w'
    cases q : evB Φ gl env' ec with
    | exc x => rw [q] at w'; exact w'
    | stk => rw [q] at w'; exact w'
    | ok b =>
      rw [q] at w'
      intro HP1 H1 s1
      cases b with
      | false => exact iteF (w' σ' HP1 H1 O' s1 e')
      | true =>
        refine iteT ⟨fun σ2 H2 => ∃ env2 HP2 O2, SR cA k HP2 H2 env2 σ2 O2 ∧ (∀ i ∈ P, σ2[i]? = σ[i]?) ∧ WpOut X cA k P (loopW (fun env => evB Φ gl env ec) (execs Φ gl P sb) m env2) σ D, fun σ2 H2 h2 => ⟨m, Nat.lt_succ_self m, h2⟩, ?_⟩
        refine Sb k env' σ' HP1 H1 O' _ s1 ?_
        simp only at w'
        cases q2 : execs Φ gl P sb env' with
        | nx env2 => rw [q2] at w'; exact fun σ2 HP2 H2 O2 s2 e2 => ⟨env2, HP2, O2, s2, fun i hi => (e2 i hi).trans (e' i hi), w'⟩
        | cnt env2 => rw [q2] at w'; exact fun σ2 HP2 H2 O2 s2 e2 => ⟨env2, HP2, O2, s2, fun i hi => (e2 i hi).trans (e' i hi), w'⟩
        | brk env2 => rw [q2] at w'; exact fun σ2 HP2 H2 O2 s2 e2 => w' σ2 HP2 H2 O2 s2 fun i hi => (e2 i hi).trans (e' i hi)
        | ret g env2 => rw [q2] at w'; exact fun v σ2 HP2 H2 Og O2 rg s2 e2 => w' v σ2 HP2 H2 Og O2 rg s2 fun i hi => (e2 i hi).trans (e' i hi)
        | exc x env2 => rw [q2] at w'; exact fun cls d σ2 HP2 H2 O2 s2 e2 xv => w' cls d σ2 HP2 H2 O2 s2 (fun i hi => (e2 i hi).trans (e' i hi)) xv
        | stk => rw [q2] at w'; exact w'
end
end Bv
set_option maxRecDepth 100000
set_option maxHeartbeats 2000000
/-! Part 14: unpacking, stores, loops. -/
namespace Bv
open PySem L2
section
variable [TC] {X : Cx} {CX : CXT} {XE : XK} {tb : Tb} {sc : Scope} {Φ : Fns} {gl : Str → Option T} {cA : CA} {P : List Nat}
theorem setVs_pin : ∀ {is : List Nat} {vs : List V} {σ : St}, (∀ i ∈ is, i ∉ P) → ∀ j ∈ P, (setVs is vs σ)[j]? = σ[j]?
  | [], _, _, _, _, _ => rfl
  | i :: is, [], _, _, _, _ => rfl
  | i :: is, v :: vs, σ, h, j, hj => by
    show (setVs is vs (σ.set i (some v)))[j]? = _
    rw [setVs_pin (fun i hi => h i (List.mem_cons_of_mem _ hi)) j hj]
    exact pins_set (h i List.mem_cons_self) j hj
theorem SR.vals {k : Fk} {HP H : Hp} : ∀ {is : List Nat} {ts : List T} {vs : List V} {env env1 : Env} {σ : St} {O : List Addr}, SR cA k HP H env σ O → RTs cA HP ts vs → (∀ i ∈ is, i < env.length) → setAll is ts env = some env1 → ∃ O', SR cA k HP H env1 (setVs is vs σ) O'
  | [], [], _, _, _, _, _, s, _, _, e => by cases e; exact ⟨_, s⟩
  | [], _ :: _, _, _, _, _, _, _, _, _, e => by cases e
  | _ :: _, [], _, _, _, _, _, _, _, _, e => by cases e
  | i :: is, t :: ts, _, env, env1, σ, O, s, ⟨v, r, h1, h2, h3⟩, hl, e => by
    subst h1
    obtain ⟨O1, s1⟩ := s.val h2 (hl i List.mem_cons_self)
    exact SR.vals (is := is) (ts := ts) (vs := r) s1 h3 (fun j hj => by rw [List.length_set]; exact hl j (List.mem_cons_of_mem _ hj)) e
theorem pgs_nms (C : Cst X CX XE tb sc Φ gl cA) : ∀ {ts : List Expr} {is : List Nat}, toNms tb sc ts = some is → PGs X ts (fun vs σ H Q => vs.length = is.length ∧ Q (setVs is vs σ) H) ∧ (assignEach ts X.env).length = is.length ∧ (assignEach ts X.env).findIdx? (·.1) = none
  | [], _, h => by
    cases h
    exact ⟨⟨fun pins s σ H vs us Q I r q => by
      have e : vs = [] := List.eq_nil_of_length_eq_zero q.1
      exact pgs_nil.run pins s σ H vs us Q I r ⟨e, by rw [e] at q; exact q.2⟩⟩, rfl, rfl⟩
  | e :: ts, is, h => by
    unfold toNms at h
    cases q : toNm tb sc e with
    | none => rw [q] at h; cases h
    | some i =>
      cases q2 : toNms tb sc ts with
      | none => rw [q, q2] at h; cases h
      | some is' =>
        rw [q, q2] at h; cases h
        obtain ⟨p1, p2, p3⟩ := pgs_nms C q2
        unfold toNm at q
        split at q
        · rename_i x pos
          split at q
          · rename_i hx
            have pg := pg_nm C (pos := pos) hx q
            have pc := pgs_cons pg p1 rfl
            refine ⟨⟨fun pins s σ H vs us Q I r w => ?_⟩, ?_, ?_⟩
            · cases vs with
              | nil => exact absurd w.1 (by simp)
              | cons v vr => exact pc.run pins s σ H (v :: vr) us Q I r ⟨v, vr, rfl, by simpa using w.1, w.2⟩
            · show (assignEach ts X.env).length + 1 = is'.length + 1
              rw [p2]
            · show List.findIdx? _ ((false, assign (.Name x pos) X.env) :: assignEach ts X.env) = none
              rw [List.findIdx?_cons, p3]
              rfl
          · cases q
        · cases q
theorem toE_swst {n : Nat} {e : Expr} {a : E} (h : toE tb sc n e = some a) (ht : isTupB e = false) (ts : List Expr) (x1 : Nat) (pos : Pos) (env : PySem.Env) : swappedStores [.Tuple ts x1 pos] e env = pure none := by
  cases n with
  | zero => cases h
  | succ n => cases e <;> first | rfl | (simp [toE] at h; done) | cases ht
theorem pg_tg (C : Cst X CX XE tb sc Φ gl cA) {ts : List Expr} {is : List Nat} {x1 : Nat} {pos : Pos} (h : toNms tb sc ts = some is) : PG X (.Tuple ts x1 pos) (gTup X.K is.length fun vs σ H Q => vs.length = is.length ∧ Q (setVs is vs σ) H) := by
  obtain ⟨p1, p2, p3⟩ := pgs_nms C h
  exact pg_tup C.c.calm p1 p2 p3
/-- a made value is frozen and stays about -/
theorem SR.frzS {k : Fk} {HP H HP1 H1 : Hp} {env : Env} {σ : St} {O Og : List Addr} {g : G} {v : V} (s : SR cA k HP H env σ O) (rg : RG cA HP1 H H1 g v Og) (nd : Og.Nodup) (fr : ∀ p ∈ Og, H p = none ∧ HP1 p = none) (st : Step HP H HP1 H1) (hf : g.free = true) :
    ∃ HP2, SR cA k HP2 H1 env σ O ∧ RT cA HP2 g.toT v := by
  have s1 := s.step st
  have rg1 := rg.freeB (HB' := k.HB) hf
  have mine : ∀ p ∈ Og, k.mine HP1 p := fun p hp => ⟨(s.free (fr p hp).1).1, (fr p hp).2, (s.free (fr p hp).1).2⟩
  have dis : ∀ a ∈ Og, ∀ b ∈ O, a ≠ b := fun a ha b hb e => by
    subst e
    obtain ⟨o, z⟩ := s.rs.ownIn a hb
    rw [(fr a ha).1] at z; cases z
  exact ⟨_, s1.adP s1.rs mine s1.own0 (List.nodup_append.mpr ⟨nd, s.nd, dis⟩), rg1.frz s1.eP hf⟩
theorem SR.frzSx {k : Fk} {HP H HP1 H1 : Hp} {env : Env} {σ : St} {O Og : List Addr} {g : G} {v : V} (s : SR cA k HP H env σ O) (rg : RG cA HP1 H H1 g v Og) (nd : Og.Nodup) (fr : ∀ p ∈ Og, H p = none ∧ HP1 p = none) (st : Step HP H HP1 H1) (hf : g.free = true) :
    ∃ HP2, Ex HP HP2 ∧ SR cA k HP2 H1 env σ O ∧ RT cA HP2 g.toT v := by
  have s1 := s.step st
  have rg1 := rg.freeB (HB' := k.HB) hf
  have mine : ∀ p ∈ Og, k.mine HP1 p := fun p hp => ⟨(s.free (fr p hp).1).1, (fr p hp).2, (s.free (fr p hp).1).2⟩
  have dis : ∀ a ∈ Og, ∀ b ∈ O, a ≠ b := fun a ha b hb e => by
    subst e
    obtain ⟨o, z⟩ := s.rs.ownIn a hb
    rw [(fr a ha).1] at z; cases z
  exact ⟨_, st.exP.trans (ex_ad s1.eP), s1.adP s1.rs mine s1.own0 (List.nodup_append.mpr ⟨nd, s.nd, dis⟩), rg1.frz s1.eP hf⟩
theorem snd_unp (C : Cst X CX XE tb sc Φ gl cA) {ts : List Expr} {is : List Nat} {e : Expr} {ea : E} {x1 : Nat} {p pos : Pos} (h1 : toNms tb sc ts = some is) (hsw : swapsWithSole [.Tuple ts x1 p] e pos.line X.env = pure false) (hst : swappedStores [.Tuple ts x1 p] e X.env = pure none) (S : SndE X Φ gl cA e ea) :
    SndSt X Φ gl cA P (.Assign [.Tuple ts x1 p] e pos) (.unp is ea) := by
  intro k env σ HP H O D s w
  refine ⟨_, ps_asg peE (pg_tg C h1) hsw hst rfl, ?_⟩
  show wpE X e σ H fun v H1 => gTup X.K is.length _ v σ H1 D.nx
  refine S env σ HP H H _ s.pv s.hs s.eP ?_
  unfold exec at w
  cases q : ev Φ gl env ea with
  | exc x => rw [q] at w; exact w.elim
  | stk => rw [q] at w; exact w.elim
  | ok g =>
    rw [q] at w
    intro v HP1 H1 Og rg nd fr st
    simp only at w
    split at w
    · rename_i hf
      obtain ⟨HP2, s2, rt⟩ := s.frzS rg nd fr st hf
      unfold unpT at w
      split at w
      · rename_i ts' et
        rw [et] at rt
        split at w
        · rename_i hi
          split at w
          · rename_i env1 ee
            obtain ⟨a, vs, rfl, ha, hr⟩ := rt
            obtain ⟨O', s'⟩ := s2.vals hr (fun i h => (hi.1 i h).2) ee
            exact ⟨a, vs, rfl, .inl (s2.eP.rd ha), by rw [← hr.len]; exact hi.2, by rw [← hr.len]; exact hi.2, w _ _ _ O' s' (setVs_pin fun i h => (hi.1 i h).1)⟩
          · exact w.elim
        · exact w.elim
      · exact w.elim
    · exact w.elim
theorem RG.only {HP HB H : Hp} {g : G} {v : V} {O : List Addr} (h : RG cA HP HB H g v O) : RG cA HP HB (ad (fun _ => none) O H) g v O := by
  have main : ∀ (g : G) (v : V) (O O' : List Addr), (∀ p ∈ O, p ∈ O') → RG cA HP HB H g v O → RG cA HP HB (ad (fun _ => none) O' H) g v O := by
    intro g
    induction g using G.rec (motive_2 := fun gs => ∀ (vs : List V) (O O' : List Addr), (∀ p ∈ O, p ∈ O') → RGs cA HP HB H gs vs O → RGs cA HP HB (ad (fun _ => none) O' H) gs vs O) with
    | val t => intro v O O' _ h; exact h
    | nod o k gs ih =>
      intro v O O' hs h
      cases o with
      | true =>
        obtain ⟨p, vs, O2, h1, h2, h3, h4⟩ := h
        subst h4
        refine ⟨p, vs, O2, h1, ?_, ih vs O2 O' (fun q hq => hs q (List.mem_cons_of_mem _ hq)) h3, rfl⟩
        have e := hs p List.mem_cons_self
        cases k with
        | tup => exact (ad_in e).trans h2
        | lst => exact (ad_in e).trans h2
        | dct ks => obtain ⟨o, a, b⟩ := h2; exact ⟨o, a, (ad_in e).trans b⟩
        | ins C ns => obtain ⟨a, dx, b⟩ := h2; exact ⟨a, dx, (ad_in e).trans b⟩
      | false =>
        obtain ⟨p, vs, h1, h2, h3⟩ := h
        exact ⟨p, vs, h1, h2, ih vs O O' hs h3⟩
    | nil => rename_i h; exact h
    | cons g gs ih1 ih2 =>
      rename_i vs O O' hs h
      obtain ⟨v, r, O1, O2, h1, h2, h3, h4⟩ := h
      subst h4
      exact ⟨v, r, O1, O2, h1, ih1 v O1 O' (fun q hq => hs q (List.mem_append_left _ hq)) h2, ih2 r O2 O' (fun q hq => hs q (List.mem_append_right _ hq)) h3, rfl⟩
  exact main g v O O (fun _ z => z) h
/-- a wider frame -/
theorem SR.weak {k k' : Fk} {HP H : Hp} {env : Env} {σ : St} {O : List Addr} (s : SR cA k' HP H env σ O) (e1 : k'.H0 = k.H0) (e2 : k'.L = k.L) (e3 : Ex k.HP0 k'.HP0) (e4 : Ex k.HX k'.HX)
    (n : ∀ p, k'.HP0 p ≠ none → k.HP0 p ≠ none ∨ ((k.H0 p = none ∨ p ∈ k.L) ∧ k.HX p = none)) : SR cA k HP H env σ O where
  rs := by have := s.rs; unfold Fk.HB at this ⊢; rw [e1, e2] at this; exact this
  tb := s.tb
  nd := s.nd
  own0 := fun p hp => by
    obtain ⟨a, b, c⟩ := s.own0 p hp
    rw [e1, e2] at a
    exact ⟨a, b, e4.none c⟩
  eP := s.eP
  eB := by have := s.eB; unfold Fk.HB at this ⊢; rw [e1, e2] at this; exact this
  eX := e4.trans s.eX
  ex0 := e3.trans s.ex0
  new0 := fun p hp => (s.new0 p hp).elim (n p) fun z => .inr ⟨by rw [e1, e2] at z; exact z.1, e4.none z.2⟩
theorem tg_ok (C : Cst X CX XE tb sc Φ gl cA) {tgE : Expr} {tg : Tg} (h : toTg tb sc tgE = some tg) {k : Fk} {HP H : Hp} {env env1 : Env} {σ : St} {O : List Addr} {t : T} {x : V} {m : Nat} (s : SR cA k HP H env σ O) (rt : RT cA HP t x) (ht : tgSet P m tg t env = some env1) {Q : St → Hp → Prop}
    (q : ∀ σ1 O1, SR cA k HP H env1 σ1 O1 → (∀ j ∈ P, σ1[j]? = σ[j]?) → Q σ1 H) : wpG X tgE x σ H Q := by
  unfold toTg at h
  split at h
  · rename_i y pos
    split at h
    · rename_i hl
      cases e : slotOf tb.N y with
      | none => rw [e] at h; cases h
      | some i =>
        rw [e] at h; cases h
        simp only [tgSet] at ht
        split at ht
        · rename_i hi
          cases ht
          obtain ⟨O', s'⟩ := s.val rt hi.2
          exact ⟨_, pg_nm C hl e, q _ O' s' (pins_set hi.1)⟩
        · cases ht
    · cases h
  · rename_i es x1 pos
    cases e : toNms tb sc es with
    | none => rw [e] at h; cases h
    | some is =>
      rw [e] at h; cases h
      have ht' : ∃ ts, t = .nod .tup ts := by
        cases t with
        | nod k ts => cases k <;> first | exact ⟨ts, rfl⟩ | (simp [tgSet] at ht)
        | _ => simp [tgSet] at ht
      obtain ⟨ts, rfl⟩ := ht'
      simp only [tgSet] at ht
      split at ht
      · rename_i hi
        obtain ⟨a, vs, rfl, ha, hr⟩ := rt
        obtain ⟨O', s'⟩ := s.vals hr (fun i h => (hi.1 i h).2) ht
        exact ⟨_, pg_tg C e, a, vs, rfl, .inl (s.eP.rd ha), by rw [← hr.len]; exact hi.2, by rw [← hr.len]; exact hi.2, q _ O' s' (setVs_pin fun i h => (hi.1 i h).1)⟩
      · cases ht
  · cases h
/-- one turn of a loop -/
theorem loop_step (C : Cst X CX XE tb sc Φ gl cA) {tgE : Expr} {tg : Tg} (ht : toTg tb sc tgE = some tg) {body : List Stmt} {sb : List S} (Sb : SndSts X Φ gl cA P body sb) {k : Fk} {HP H : Hp} {env : Env} {σ σ0 : St} {O : List Addr} {t : T} {rest : List T} {x : V} {D : Ends}
    (s : SR cA k HP H env σ O) (rt : RT cA HP t x) (hp : ∀ j ∈ P, σ[j]? = σ0[j]?) (w : WpOut X cA k P (loopT (tgSet P 0 tg) (execs Φ gl P sb) (t :: rest) env) σ0 D) {Nx : St → Hp → Prop}
    (hn : ∀ σ1 H1 env1 HP1 O1, SR cA k HP1 H1 env1 σ1 O1 → (∀ j ∈ P, σ1[j]? = σ0[j]?) → WpOut X cA k P (loopT (tgSet P 0 tg) (execs Φ gl P sb) rest env1) σ0 D → Nx σ1 H1) :
    wpG X tgE x σ H fun σ2 H2 => wpSs X body { D with nx := Nx, ct := Nx, bk := D.nx } σ2 H2 := by
  unfold loopT at w
  cases q : tgSet P 0 tg t env with
  | none => rw [q] at w; exact w.elim
  | some env1 =>
    rw [q] at w
    refine tg_ok C ht s rt q fun σ1 O1 s1 e1 => ?_
    refine Sb k env1 σ1 HP H O1 _ s1 ?_
    simp only at w
    have tr : ∀ {σ2 : St}, (∀ j ∈ P, σ2[j]? = σ1[j]?) → ∀ j ∈ P, σ2[j]? = σ0[j]? := fun e j hj => (e j hj).trans ((e1 j hj).trans (hp j hj))
    cases q2 : execs Φ gl P sb env1 with
    | nx env2 => rw [q2] at w; exact fun σ2 HP2 H2 O2 s2 e2 => hn σ2 H2 env2 HP2 O2 s2 (tr e2) w
    | cnt env2 => rw [q2] at w; exact fun σ2 HP2 H2 O2 s2 e2 => hn σ2 H2 env2 HP2 O2 s2 (tr e2) w
    | brk env2 => rw [q2] at w; exact fun σ2 HP2 H2 O2 s2 e2 => w σ2 HP2 H2 O2 s2 (tr e2)
    | ret g env2 => rw [q2] at w; exact fun v σ2 HP2 H2 Og O2 rg s2 e2 => w v σ2 HP2 H2 Og O2 rg s2 (tr e2)
    | exc x env2 => rw [q2] at w; exact fun cls d σ2 HP2 H2 O2 s2 e2 xv => w cls d σ2 HP2 H2 O2 s2 (tr e2) xv
    | stk => rw [q2] at w; exact w
/-- the word of a loop -/
def Lw [TC] (X : Cx) (cA : CA) (Φ : Fns) (gl : Str → Option T) (P : List Nat) (k : Fk) (tg : Tg) (sb : List S) (ts : List T) (σ0 : St) (D : Ends) (i : Nat) (σ : St) (H : Hp) : Prop :=
  ∃ env HP O, SR cA k HP H env σ O ∧ (∀ j ∈ P, σ[j]? = σ0[j]?) ∧ WpOut X cA k P (loopT (tgSet P 0 tg) (execs Φ gl P sb) (ts.drop i) env) σ0 D
theorem lw_end {k : Fk} {tg : Tg} {sb : List S} {ts : List T} {σ0 : St} {D : Ends} {n : Nat} (hn : ts.length ≤ n) : ∀ σ H, Lw X cA Φ gl P k tg sb ts σ0 D n σ H → D.nx σ H := by
  rintro σ H ⟨env, HP, O, s, hp, w⟩
  rw [List.drop_of_length_le hn] at w
  unfold loopT at w
  exact w σ HP H O s hp
theorem lw_step (C : Cst X CX XE tb sc Φ gl cA) {tgE : Expr} {tg : Tg} (ht : toTg tb sc tgE = some tg) {body : List Stmt} {sb : List S} (Sb : SndSts X Φ gl cA P body sb) {k : Fk} {ts : List T} {σ0 : St} {D : Ends} {i : Nat} {t : T} (hi : ts[i]? = some t) {σ : St} {H H' : Hp} {x : V}
    (h : Lw X cA Φ gl P k tg sb ts σ0 D i σ H) (hx : ∀ HP env O, SR cA k HP H env σ O → ∃ HP', SR cA k HP' H' env σ O ∧ RT cA HP' t x) :
    wpG X tgE x σ H' fun σ2 H2 => wpSs X body { D with nx := Lw X cA Φ gl P k tg sb ts σ0 D (i + 1), ct := Lw X cA Φ gl P k tg sb ts σ0 D (i + 1), bk := D.nx } σ2 H2 := by
  obtain ⟨env, HP, O, s, hp, w⟩ := h
  obtain ⟨HP', s', rt⟩ := hx HP env O s
  have hd : ts.drop i = t :: ts.drop (i + 1) := by
    obtain ⟨h1, h2⟩ := List.getElem?_eq_some_iff.mp hi
    rw [List.drop_eq_getElem_cons h1, h2]
  rw [hd] at w
  exact loop_step C ht Sb s' rt hp w fun σ1 H1 env1 HP1 O1 s1 e1 w1 => ⟨env1, HP1, O1, s1, e1, w1⟩
end
end Bv
set_option maxRecDepth 100000
set_option maxHeartbeats 2000000
/-! Part 15: for. -/
namespace Bv
open PySem L2
section
variable [TC] {X : Cx} {CX : CXT} {XE : XK} {tb : Tb} {sc : Scope} {Φ : Fns} {gl : Str → Option T} {cA : CA} {P : List Nat}
theorem Fk.mine_weak {k k' : Fk} {HP : Hp} {p : Addr} (e1 : k'.H0 = k.H0) (e2 : k'.L = k.L) (e4 : Ex k.HX k'.HX) (h : k'.mine HP p) : k.mine HP p := by
  obtain ⟨a, b, c⟩ := h
  rw [e1, e2] at a
  exact ⟨a, b, e4.none c⟩
theorem out_none {k : Fk} {HP H : Hp} {env : Env} {σ : St} {O : List Addr} (s : SR cA k HP H env σ O) {o : Out} {D : Ends} (w : WpOut X cA k P o σ D) : WpOut X cA { k with HP0 := HP } P o σ D := by
  have wk : ∀ {HP1 H1 : Hp} {env1 : Env} {σ1 : St} {O1 : List Addr}, SR cA { k with HP0 := HP } HP1 H1 env1 σ1 O1 → SR cA k HP1 H1 env1 σ1 O1 := fun s1 => s1.weak rfl rfl s.ex0 (Ex.refl _) s.new0
  cases o with
  | nx env1 => exact fun σ1 HP1 H1 O1 s1 e1 => w σ1 HP1 H1 O1 (wk s1) e1
  | brk env1 => exact fun σ1 HP1 H1 O1 s1 e1 => w σ1 HP1 H1 O1 (wk s1) e1
  | cnt env1 => exact fun σ1 HP1 H1 O1 s1 e1 => w σ1 HP1 H1 O1 (wk s1) e1
  | ret g env1 => exact fun v σ1 HP1 H1 Og O1 rg s1 e1 nd m => w v σ1 HP1 H1 Og O1 rg (wk s1) e1 nd fun p hp => Fk.mine_weak rfl rfl (Ex.refl _) (m p hp)
  | exc x env1 => exact fun cls d σ1 HP1 H1 O1 s1 e1 xv => w cls d σ1 HP1 H1 O1 (wk s1) e1 xv
  | stk => exact w
/-- a frame that starts anew -/
theorem SR.here {k : Fk} {HP H : Hp} {env : Env} {σ : St} {O : List Addr} (s : SR cA k HP H env σ O) : SR cA { k with HP0 := HP } HP H env σ O :=
  ⟨s.rs, s.tb, s.nd, s.own0, s.eP, s.eB, s.eX, Ex.refl _, fun _ h => .inl h⟩
/-- .. with the owned thing of a name put under guard -/
structure Guard [TC] (cA : CA) (k k' : Fk) (HP H : Hp) (env : Env) (σ : St) (i : Nat) (g : G) (v : V) (Oi O2 : List Addr) : Prop where
  eq : k' = { k with HP0 := HP, HX := ad k.HX Oi H }
  at_ : σ[i]? = some (some v)
  rg : RG cA HP k.HB H g v Oi
  sr : SR cA k' HP H (env.set i none) σ O2
theorem SR.guard {k : Fk} {HP H : Hp} {env : Env} {σ : St} {O : List Addr} (s : SR cA k HP H env σ O) {i : Nat} {g : G} (e : env[i]? = some (some g)) : ∃ v Oi O2, Guard cA k { k with HP0 := HP, HX := ad k.HX Oi H } HP H env σ i g v Oi O2 ∧ (∀ p ∈ Oi, p ∈ O) ∧ Oi.Nodup := by
  obtain ⟨v, Oi, O2, a, b, c, d⟩ := s.rs.hide e
  have hmem : ∀ p ∈ Oi ++ O2, p ∈ O := fun p hp => d.mem_iff.mpr hp
  have hnd : (Oi ++ O2).Nodup := d.nodup_iff.mp s.nd
  refine ⟨v, Oi, O2, ⟨rfl, a, b, ⟨c, s.tb, (List.nodup_append.mp hnd).2.1, fun p hp => ?_, s.eP, s.eB, ad_ex s.eX, Ex.refl _, fun _ h => .inl h⟩⟩, fun p hp => hmem p (List.mem_append_left _ hp), (List.nodup_append.mp hnd).1⟩
  obtain ⟨x, y, z⟩ := s.own0 p (hmem p (List.mem_append_right _ hp))
  refine ⟨x, y, ?_⟩
  show ad k.HX Oi H p = none
  rw [ad_out fun q => (List.nodup_append.mp hnd).2.2 p q p hp rfl]
  exact z
theorem out_some {k k' : Fk} {HP H : Hp} {env : Env} {σ : St} {O Oi O2 : List Addr} {i : Nat} {g : G} {v : V} (s : SR cA k HP H env σ O) (gd : Guard cA k k' HP H env σ i g v Oi O2) (hm : ∀ p ∈ Oi, p ∈ O) (hnd : Oi.Nodup) {o : Out} {D : Ends} (w : WpOut X cA k P (o.unhide (some (i, g))) σ D) : WpOut X cA k' (i :: P) o σ D := by
  have e := gd.eq
  subst e
  have wk : ∀ {HP1 H1 : Hp} {env1 : Env} {σ1 : St} {O1 : List Addr}, SR cA { k with HP0 := HP, HX := ad k.HX Oi H } HP1 H1 env1 σ1 O1 → SR cA k HP1 H1 env1 σ1 O1 := fun s1 => s1.weak rfl rfl s.ex0 (ex_ad s.eX) s.new0
  have up : ∀ {σ1 : St}, (∀ j ∈ i :: P, σ1[j]? = σ[j]?) → ∀ j ∈ P, σ1[j]? = σ[j]? := fun e j hj => e j (List.mem_cons_of_mem _ hj)
  cases o with
  | nx env1 =>
    intro σ1 HP1 H1 O1 s1 e1
    have hv : σ1[i]? = some (some v) := (e1 i List.mem_cons_self).trans gd.at_
    have hi : i < env1.length := by
      rw [s1.rs.len]
      exact (List.getElem?_eq_some_iff.mp hv).1
    have keepO : Ex (ad (fun _ => none) Oi H) H1 := ⟨fun p u n hp => by
      by_cases q : p ∈ Oi
      · rw [ad_in q] at hp
        exact s1.eX.k p u n (by show ad k.HX Oi H p = some u; rw [ad_in q]; exact hp)
      · rw [ad_out q] at hp; exact absurd hp (by simp), fun p ps hp => by
      by_cases q : p ∈ Oi
      · rw [ad_in q] at hp
        exact s1.eX.t p ps (by show ad k.HX Oi H p = some _; rw [ad_in q]; exact hp)
      · rw [ad_out q] at hp; cases hp⟩
    have rg1 : RG cA HP1 k.HB H1 g v Oi := gd.rg.only.mono s1.ex0 (Ex.refl _) keepO
    have inH : ∀ p ∈ Oi, ∃ u, H p = some u := gd.rg.ownIn
    have dis : ∀ p ∈ Oi, p ∉ O1 := fun p hp z => by
      obtain ⟨u, hu⟩ := inH p hp
      have := (s1.own0 p z).2.2
      have q : ad k.HX Oi H p = none := this
      rw [ad_in hp, hu] at q; cases q
    obtain ⟨O', s', _⟩ := (wk s1).put rg1 (List.nodup_append.mpr ⟨hnd, s1.nd, fun a ha b hb e => dis a ha (by rw [e]; exact hb)⟩) (fun p hp => by
      obtain ⟨a, b, c⟩ := s.own0 p (hm p hp)
      refine ⟨a, ?_, c⟩
      cases q : HP1 p with
      | none => rfl
      | some u =>
        rcases s1.new0 p (by rw [q]; simp) with z | z
        · exact absurd b z
        · obtain ⟨u, hu⟩ := inH p hp
          have z2 : ad k.HX Oi H p = none := z.2
          rw [ad_in hp, hu] at z2; cases z2) hi
    have eσ : σ1.set i (some v) = σ1 := by
      obtain ⟨h1, h2⟩ := List.getElem?_eq_some_iff.mp hv
      rw [← h2]; exact List.set_getElem_self h1
    rw [eσ] at s'
    exact w σ1 HP1 H1 O' s' (up e1)
  | brk env1 => exact fun σ1 HP1 H1 O1 s1 e1 => w σ1 HP1 H1 O1 (wk s1) (up e1)
  | cnt env1 => exact fun σ1 HP1 H1 O1 s1 e1 => w σ1 HP1 H1 O1 (wk s1) (up e1)
  | ret g env1 => exact fun v σ1 HP1 H1 Og O1 rg s1 e1 nd m => w v σ1 HP1 H1 Og O1 rg (wk s1) (up e1) nd fun p hp => Fk.mine_weak (k := k) (k' := { k with HP0 := HP, HX := ad k.HX Oi H }) rfl rfl (ex_ad s.eX) (m p hp)
  | exc x env1 => exact fun cls d σ1 HP1 H1 O1 s1 e1 xv => w cls d σ1 HP1 H1 O1 (wk s1) (up e1) xv
  | stk => exact w
/-! ### the loops over a list, a tuple, a text, a range -/
abbrev Wlp (J : L2.It) (g : TG) (tb : TS) (D : Ends) (σ : St) (H : Hp) : Prop := ∃ W : Nat → Nat → St → Hp → Prop, (∃ m, W 0 m σ H) ∧ ∀ i m σ H, W i m σ H →
  (J.stop i H ∧ D.nx σ H) ∨ (J.go i H ∧ ∃ N : St → Hp → Prop, (∀ σ' H', N σ' H' → ∃ m', m' < m ∧ W (i + 1) m' σ' H') ∧ ∀ x H', J.yld i H x H' → g x σ H' fun σ2 H2 => tb { D with nx := N, ct := N, bk := D.nx } σ2 H2)
section
variable (C : Cst X CX XE tb sc Φ gl cA) {tgE : Expr} {tg : Tg} (ht : toTg tb sc tgE = some tg) {body : List Stmt} {sb : List S} (Sb : SndSts X Φ gl cA P body sb) {k : Fk} {HP H : Hp} {env : Env} {σ : St} {O : List Addr} {D : Ends} {ts : List T}
theorem RTs.at {HP : Hp} {ts : List T} {xs : List V} {i : Nat} {x : V} (r : RTs cA HP ts xs) (h : xs[i]? = some x) : ∃ t, ts[i]? = some t ∧ RT cA HP t x := by
  have hl : i < ts.length := by rw [r.len]; exact (List.getElem?_eq_some_iff.mp h).1
  obtain ⟨v, e1, e2⟩ := r.get (List.getElem?_eq_getElem hl)
  rw [h] at e1; cases e1
  exact ⟨_, List.getElem?_eq_getElem hl, e2⟩
include C ht Sb
theorem for_lst (s : SR cA k HP H env σ O) {a : Addr} {xs : List V} (hl : ∀ HP' H' env' σ' O', SR cA k HP' H' env' σ' O' → SqL X.K H' a xs) (hr : RTs cA k.HP0 ts xs) (w : WpOut X cA k P (loopT (tgSet P 0 tg) (execs Φ gl P sb) ts env) σ D) :
    Wlp (Itl X.K a) (wpG X tgE) (wpSs X body) D σ H := by
  refine for_list (xs := xs) (Lw X cA Φ gl P k tg sb ts σ D) ⟨env, HP, O, s, fun _ _ => rfl, w⟩ (fun i σ' H' _ ⟨env', HP', O', s', _⟩ => hl _ _ _ _ _ s') (fun i x σ' H' hx p => ?_) (lw_end (Nat.le_of_eq hr.len))
  obtain ⟨t, ht', rt⟩ := hr.at hx
  exact lw_step C ht Sb ht' p fun HP' env' O' s' => ⟨HP', s', rt.mono s'.ex0⟩
theorem for_tp (s : SR cA k HP H env σ O) {a : Addr} {xs : List V} (hl : ∀ HP' H' env' σ' O', SR cA k HP' H' env' σ' O' → SqT X.K H' a xs) (hr : RTs cA k.HP0 ts xs) (w : WpOut X cA k P (loopT (tgSet P 0 tg) (execs Φ gl P sb) ts env) σ D) :
    Wlp (Itt X.K a) (wpG X tgE) (wpSs X body) D σ H := by
  refine for_tup (xs := xs) (Lw X cA Φ gl P k tg sb ts σ D) ⟨env, HP, O, s, fun _ _ => rfl, w⟩ (fun i σ' H' _ ⟨env', HP', O', s', _⟩ => hl _ _ _ _ _ s') (fun i x σ' H' hx p => ?_) (lw_end (Nat.le_of_eq hr.len))
  obtain ⟨t, ht', rt⟩ := hr.at hx
  exact lw_step C ht Sb ht' p fun HP' env' O' s' => ⟨HP', s', rt.mono s'.ex0⟩
theorem for_rng (s : SR cA k HP H env σ O) {lo : Int} {n : Nat} (w : WpOut X cA k P (loopT (tgSet P 0 tg) (execs Φ gl P sb) (rngT lo n) env) σ D) : Wlp (Itr lo n) (wpG X tgE) (wpSs X body) D σ H := by
  refine for_range (Lw X cA Φ gl P k tg sb (rngT lo n) σ D) ⟨env, HP, O, s, fun _ _ => rfl, w⟩ (fun i σ' H' hi p => ?_) (lw_end (by unfold rngT; rw [List.length_map, List.length_range]; exact Nat.le_refl _))
  exact lw_step C ht Sb (t := .int (lo + i)) (by unfold rngT; rw [List.getElem?_map, List.getElem?_range hi]; rfl) p fun HP' env' O' s' => ⟨HP', s', rfl⟩
/-- a range, from its end -/
theorem for_rrng (s : SR cA k HP H env σ O) {lo : Int} {n : Nat} (w : WpOut X cA k P (loopT (tgSet P 0 tg) (execs Φ gl P sb) (rngT lo n).reverse env) σ D) : Wlp (Itc (lo + (n : Nat) - 1) (-1) n) (wpG X tgE) (wpSs X body) D σ H := by
  have len : (rngT lo n).length = n := by unfold rngT; rw [List.length_map, List.length_range]
  refine ⟨fun i m σ' H' => m = n - i ∧ i ≤ n ∧ Lw X cA Φ gl P k tg sb (rngT lo n).reverse σ D i σ' H', ⟨n, by simp, Nat.zero_le _, env, HP, O, s, fun _ _ => rfl, w⟩, ?_⟩
  rintro i m σ' H' ⟨rfl, hi, p⟩
  by_cases hlt : i < n
  · refine .inr ⟨hlt, Lw X cA Φ gl P k tg sb (rngT lo n).reverse σ D (i + 1), fun σ2 H2 p2 => ⟨n - (i + 1), by omega, rfl, hlt, p2⟩, fun x H2 y => ?_⟩
    obtain ⟨rfl, rfl⟩ := y
    refine lw_step C ht Sb (t := .int (lo + (n : Nat) - 1 + (i : Nat) * (-1))) ?_ p fun HP' env' O' s' => ⟨HP', s', rfl⟩
    rw [List.getElem?_reverse (by rw [len]; exact hlt), len]
    unfold rngT
    rw [List.getElem?_map, List.getElem?_range (by omega)]
    show some (T.int (lo + ((n - 1 - i : Nat) : Int))) = _
    congr 2
    omega
  · exact .inl ⟨by show n ≤ i; omega, lw_end (by rw [List.length_reverse, len]; omega) _ _ p⟩
/-- a text, sign by sign -/
theorem for_str (s : SR cA k HP H env σ O) {z : Str} (w : WpOut X cA k P (loopT (tgSet P 0 tg) (execs Φ gl P sb) (strItems z) env) σ D) : Wlp (Its z) (wpG X tgE) (wpSs X body) D σ H := by
  refine ⟨fun i m σ' H' => m = z.cps.size - i ∧ i ≤ z.cps.size ∧ Lw X cA Φ gl P k tg sb (strItems z) σ D i σ' H', ⟨z.cps.size, by simp, Nat.zero_le _, env, HP, O, s, fun _ _ => rfl, w⟩, ?_⟩
  rintro i m σ' H' ⟨rfl, hi, p⟩
  by_cases hlt : i < z.cps.size
  · refine .inr ⟨hlt, Lw X cA Φ gl P k tg sb (strItems z) σ D (i + 1), fun σ2 H2 p2 => ⟨z.cps.size - (i + 1), by omega, rfl, hlt, p2⟩, fun x H2 y => ?_⟩
    obtain ⟨rfl, c, hc, rfl⟩ := y
    refine lw_step C ht Sb (t := .str ⟨#[c]⟩) ?_ p fun HP' env' O' s' => ⟨HP', s', rfl⟩
    unfold strItems
    rw [List.getElem?_map, Array.getElem?_toList, hc]
    rfl
  · exact .inl ⟨by show z.cps.size ≤ i; omega, lw_end (by unfold strItems; rw [List.length_map, Array.length_toList]; omega) _ _ p⟩
theorem for_enm (s : SR cA k HP H env σ O) {a : Addr} {xs : List V} (hl : ∀ HP' H' env' σ' O', SR cA k HP' H' env' σ' O' → SqL X.K H' a xs) (hr : RTs cA k.HP0 ts xs)
    (w : WpOut X cA k P (loopT (tgSet P 0 tg) (execs Φ gl P sb) (enmT ts) env) σ D) : Wlp (Ite X.K a) (wpG X tgE) (wpSs X body) D σ H := by
  have len : (enmT ts).length = xs.length := by unfold enmT; rw [List.length_map, List.length_zipIdx, hr.len]
  refine ⟨fun i m σ' H' => m = xs.length - i ∧ i ≤ xs.length ∧ Lw X cA Φ gl P k tg sb (enmT ts) σ D i σ' H', ⟨xs.length, by simp, Nat.zero_le _, env, HP, O, s, fun _ _ => rfl, w⟩, ?_⟩
  rintro i m σ' H' ⟨rfl, hi, p⟩
  have p0 := p
  obtain ⟨env', HP', O', s', _⟩ := p0
  have q := hl _ _ _ _ _ s'
  by_cases hlt : i < xs.length
  · refine .inr ⟨⟨xs, xs[i], q, by simp [hlt]⟩, Lw X cA Φ gl P k tg sb (enmT ts) σ D (i + 1), fun σ2 H2 p2 => ⟨xs.length - (i + 1), by omega, rfl, hlt, p2⟩, fun v H2 y => ?_⟩
    obtain ⟨T, x, rfl, hT, rfl, hx⟩ := y
    obtain ⟨t, ht', rt⟩ := hr.at (hx xs q)
    refine lw_step C ht Sb (t := .nod .tup [.int (i : Nat), t]) ?_ p fun HP' env' O' s' => ?_
    · unfold enmT
      rw [List.getElem?_map, List.getElem?_zipIdx, ht']
      simp
    · have st : Step HP' H' (upd HP' T (.tup [.int (i : Nat), x])) (upd H' T (.tup [.int (i : Nat), x])) := Step.frz s'.eP hT
      exact ⟨_, s'.step st, T, [.int (i : Nat), x], rfl, .inl upd_same, .int (i : Nat), [x], rfl, rfl, x, [], rfl, (rt.mono s'.ex0).mono st.exP, rfl⟩
  · exact .inl ⟨⟨xs, q, by omega⟩, lw_end (by rw [len]; omega) _ _ p⟩
theorem for_zip {us : List T} (s : SR cA k HP H env σ O) {a b : Addr} {xs ys : List V} (hl : ∀ HP' H' env' σ' O', SR cA k HP' H' env' σ' O' → SqL X.K H' a xs) (hl2 : ∀ HP' H' env' σ' O', SR cA k HP' H' env' σ' O' → SqL X.K H' b ys) (hr : RTs cA k.HP0 ts xs) (hr2 : RTs cA k.HP0 us ys)
    (w : WpOut X cA k P (loopT (tgSet P 0 tg) (execs Φ gl P sb) (zipT ts us) env) σ D) : Wlp (Itz X.K a b) (wpG X tgE) (wpSs X body) D σ H := by
  have len : (zipT ts us).length = min xs.length ys.length := by unfold zipT; rw [List.length_zipWith, hr.len, hr2.len]
  refine ⟨fun i m σ' H' => m = min xs.length ys.length - i ∧ i ≤ min xs.length ys.length ∧ Lw X cA Φ gl P k tg sb (zipT ts us) σ D i σ' H', ⟨min xs.length ys.length, by simp, Nat.zero_le _, env, HP, O, s, fun _ _ => rfl, w⟩, ?_⟩
  rintro i m σ' H' ⟨rfl, hi, p⟩
  have p0 := p
  obtain ⟨env', HP', O', s', _⟩ := p0
  have q := hl _ _ _ _ _ s'
  have q2 := hl2 _ _ _ _ _ s'
  by_cases hlt : i < min xs.length ys.length
  · have l1 : i < xs.length := by omega
    have l2 : i < ys.length := by omega
    refine .inr ⟨⟨xs, ys, xs[i], ys[i], q, q2, by simp [l1], by simp [l2]⟩, Lw X cA Φ gl P k tg sb (zipT ts us) σ D (i + 1), fun σ2 H2 p2 => ⟨min xs.length ys.length - (i + 1), by omega, rfl, hlt, p2⟩, fun v H2 y => ?_⟩
    obtain ⟨T, x, y, rfl, hT, rfl, hx, hy⟩ := y
    obtain ⟨t, ht', rt⟩ := hr.at (hx xs q)
    obtain ⟨u, hu, ru⟩ := hr2.at (hy ys q2)
    refine lw_step C ht Sb (t := .nod .tup [t, u]) ?_ p fun HP' env' O' s' => ?_
    · unfold zipT
      rw [List.getElem?_zipWith, ht', hu]
    · have st : Step HP' H' (upd HP' T (.tup [x, y])) (upd H' T (.tup [x, y])) := Step.frz s'.eP hT
      exact ⟨_, s'.step st, T, [x, y], rfl, .inl upd_same, x, [y], rfl, (rt.mono s'.ex0).mono st.exP, y, [], rfl, (ru.mono s'.ex0).mono st.exP, rfl⟩
  · exact .inl ⟨⟨xs, ys, q, q2, by omega⟩, lw_end (by rw [len]; omega) _ _ p⟩
theorem for_rev (s : SR cA k HP H env σ O) {a : Addr} {xs : List V} (hl : ∀ HP' H' env' σ' O', SR cA k HP' H' env' σ' O' → SqL X.K H' a xs) (hr : RTs cA k.HP0 ts xs)
    (w : WpOut X cA k P (loopT (tgSet P 0 tg) (execs Φ gl P sb) ts.reverse env) σ D) : Wlp (Itv X.K a xs.length) (wpG X tgE) (wpSs X body) D σ H := by
  have len : ts.reverse.length = xs.length := by rw [List.length_reverse, hr.len]
  refine ⟨fun i m σ' H' => m = xs.length - i ∧ i ≤ xs.length ∧ Lw X cA Φ gl P k tg sb ts.reverse σ D i σ' H', ⟨xs.length, by simp, Nat.zero_le _, env, HP, O, s, fun _ _ => rfl, w⟩, ?_⟩
  rintro i m σ' H' ⟨rfl, hi, p⟩
  have p0 := p
  obtain ⟨env', HP', O', s', _⟩ := p0
  have q := hl _ _ _ _ _ s'
  by_cases hlt : i < xs.length
  · have hx0 : xs[xs.length - 1 - i]? = some xs[xs.length - 1 - i] := List.getElem?_eq_getElem (by omega)
    refine .inr ⟨⟨hlt, xs, xs[xs.length - 1 - i], q, hx0⟩, Lw X cA Φ gl P k tg sb ts.reverse σ D (i + 1), fun σ2 H2 p2 => ⟨xs.length - (i + 1), by omega, rfl, hlt, p2⟩, fun v H2 y => ?_⟩
    obtain ⟨rfl, hx⟩ := y
    obtain ⟨t, ht', rt⟩ := hr.at (hx xs q)
    refine lw_step C ht Sb (t := t) ?_ p fun HP' env' O' s' => ⟨HP', s', rt.mono s'.ex0⟩
    rw [List.getElem?_reverse (by rw [hr.len]; exact hlt), hr.len]
    exact ht'
  · exact .inl ⟨by show xs.length ≤ i; omega, lw_end (by rw [len]; omega) _ _ p⟩
end
end
end Bv
set_option maxRecDepth 100000
set_option maxHeartbeats 2000000
/-! Part 16: the for statement, append, a store, and every statement. -/
namespace Bv
open PySem L2
section
variable [TC] {X : Cx} {CX : CXT} {XE : XK} {tb : Tb} {sc : Scope} {Φ : Fns} {gl : Str → Option T} {cA : CA} {P : List Nat}
omit [TC] in
theorem vals_toTs : ∀ {gs : List G} {ts : List T}, G.vals? gs = some ts → G.toTs gs = ts
  | [], _, h => by cases h; rfl
  | .val t :: gs, _, h => by
    unfold G.vals? at h
    simp only [G.val?] at h
    cases q : G.vals? gs with
    | none => rw [q] at h; cases h
    | some us => rw [q] at h; cases h; show t :: G.toTs gs = _; rw [vals_toTs q]
  | .nod _ _ _ :: gs, _, h => by unfold G.vals? at h; simp only [G.val?] at h; cases h
omit [TC] in
theorem toTs_map (ts : List T) : G.toTs (ts.map .val) = ts := vals_toTs (vals_map ts)
theorem parts_toT {g : G} {kd : Kd} {gs : List G} (h : g.parts = some (kd, gs)) : g.toT = .nod kd (G.toTs gs) := by
  cases g with
  | val t =>
    cases t with
    | nod k ts => cases h; show T.nod kd ts = _; rw [toTs_map]
    | _ => cases h
  | nod o k gs' => cases h; rfl
theorem items_toT {g : G} {ts : List T} (h : g.items = some ts) : g.toT = .nod .lst ts ∨ g.toT = .nod .tup ts := by
  unfold G.items at h
  split at h
  · rename_i gs e; left; rw [parts_toT e, vals_toTs h]
  · rename_i gs e; right; rw [parts_toT e, vals_toTs h]
  · cases h
theorem ownAt_of {env : Env} {e : E} {i : Nat} {g : G} (h : ownAt env e = some (i, g)) : e = .var i ∧ env[i]? = some (some g) ∧ ∃ kd gs, g = .nod true kd gs := by
  unfold ownAt at h
  split at h
  · split at h
    · rename_i e'; cases h; exact ⟨rfl, e', _, _, rfl⟩
    · cases h
  · cases h
theorem borAt_of {env : Env} {e : E} {g : G} (h : borAt env e = some g) : ∃ i, e = .var i ∧ env[i]? = some (some g) ∧ ∃ kd gs, g = .nod false kd gs := by
  unfold borAt at h
  split at h
  · split at h
    · rename_i e'; cases h; exact ⟨_, rfl, e', _, _, rfl⟩
    · cases h
  · cases h
theorem toE_var {n : Nat} {ex : Expr} {i : Nat} (h : toE tb sc n ex = some (.var i)) : ∃ x pos, ex = .Name x pos ∧ visB sc x = true ∧ sane x = true ∧ slotOf tb.N x = some i := by
  rcases toE_cases h with ⟨x, pos, j, rfl, e, h1, h2, h3⟩ | ⟨_, _, _, _, _, _, _, e, _⟩ | ⟨_, _, _, _, _, _, e, _⟩ | hp
  · cases e; exact ⟨x, pos, rfl, h1, h2, h3⟩
  · cases e
  · cases e
  · cases hp
theorem wpE_var (C : Ctx X CX XE tb sc Φ gl cA) {n : Nat} {ex : Expr} {i : Nat} (h : toE tb sc n ex = some (.var i)) {σ : St} {v : V} {H : Hp} {Q : VK} (e : σ[i]? = some (some v)) (q : Q v H) : wpE X ex σ H Q := by
  obtain ⟨x, pos, rfl, h1, h2, h3⟩ := toE_var h
  obtain ⟨s1, s2, _⟩ := sane_of h2
  exact ⟨_, pe_var (i := i) (by rw [C.nm]; exact slot_get h3) (by rw [C.scp]; exact vis_of h1) s1 s2, v, e, q⟩
section
variable (C : Cst X CX XE tb sc Φ gl cA) {tgE : Expr} {tg : Tg} (ht : toTg tb sc tgE = some tg) {body : List Stmt} {sb : List S} (Sb : ∀ P, SndSts X Φ gl cA P body sb)
include C ht Sb
/-- over a value: a list, a tuple or a text -/
theorem snd_forE {n : Nat} {e : Expr} {a : E} {pos : Pos} (he : toE tb sc n e = some a) : SndSt X Φ gl cA P (.For tgE e body [] pos) (.for_ tg (.it a) sb) := by
  intro k env σ HP H O D s w
  unfold exec at w
  cases qi : evIt Φ gl env (.it a) with
  | exc x => rw [qi] at w; exact w.elim
  | stk => rw [qi] at w; exact w.elim
  | ok p =>
    obtain ⟨ts, h⟩ := p
    rw [qi] at w
    simp only at w
    simp only [evIt] at qi
    cases qo : ownAt env a with
    | some ig =>
      obtain ⟨i, g⟩ := ig
      rw [qo] at qi
      simp only at qi
      obtain ⟨ea, eg, kd, gs, hg⟩ := ownAt_of qo
      cases q2 : g.items with
      | none => rw [q2] at qi; cases qi
      | some ts' =>
        rw [q2] at qi
        cases qi
        obtain ⟨v, Oi, O2, gd, hm, hnd⟩ := s.guard eg
        have w' := out_some s gd hm hnd w
        subst ea hg
        have rg := gd.rg
        obtain ⟨p, vs, O', rfl, h2, h3, h4⟩ := rg
        have pin : p ∈ Oi := by rw [h4]; exact List.mem_cons_self
        have keep : ∀ {HP' H' : Hp} {env' : Env} {σ' : St} {O'' : List Addr} {u : HO}, SR cA { k with HP0 := HP, HX := ad k.HX Oi H } HP' H' env' σ' O'' → H p = some u → nt u → H' p = some u := fun s' hu n =>
          s'.eX.k p _ n (by show ad k.HX Oi H p = _; rw [ad_in pin]; exact hu)
        unfold G.items at q2
        simp only [G.parts] at q2
        split at q2
        · rename_i gs' e3
          cases e3
          have hr : RTs cA HP ts vs := (h3.vals q2).1
          refine ⟨_, ps_for C.po C.c.calm (pi_list peE) pgG pssS (toE_fold he _), ?_⟩
          exact wpE_var C.c he gd.at_ ⟨p, rfl, ⟨vs, .inl (.inl h2)⟩, for_lst C ht (Sb (i :: P)) gd.sr (fun HP' H' env' σ' O' s' => .inl (.inl (keep s' h2 nt_lst))) hr w'⟩
        · rename_i gs' e3
          cases e3
          have hr : RTs cA HP ts vs := (h3.vals q2).1
          refine ⟨_, ps_for C.po C.c.calm (pi_tup peE) pgG pssS (toE_fold he _), ?_⟩
          exact wpE_var C.c he gd.at_ ⟨p, rfl, ⟨vs, .inl (.inl h2)⟩, for_tp C ht (Sb (i :: P)) gd.sr (fun HP' H' env' σ' O' s' => .inl (.inl (keep s' h2 nt_tup))) hr w'⟩
        · cases q2
    | none =>
     rw [qo] at qi
     simp only at qi
     cases qb : borAt env a with
     | some g =>
      rw [qb] at qi
      simp only at qi
      obtain ⟨i, ea, eg, kd, gs, hg⟩ := borAt_of qb
      split at qi
      · rename_i ts' q2
        cases qi
        subst ea hg
        obtain ⟨v, O1, a0, rg⟩ := s.rs.get eg
        obtain ⟨p, vs, rfl, h2, h3⟩ := rg
        have w' : WpOut X cA { k with HP0 := HP } P (loopT (tgSet P 0 tg) (execs Φ gl P sb) ts env) σ D := out_none s (by
          have : ∀ o : Out, o.unhide none = o := fun o => by cases o <;> rfl
          rw [this] at w
          exact w)
        unfold G.items at q2
        simp only [G.parts] at q2
        split at q2
        · rename_i gs' e3
          cases e3
          have hr : RTs cA HP ts vs := (h3.vals q2).1
          refine ⟨_, ps_for C.po C.c.calm (pi_list peE) pgG pssS (toE_fold he _), ?_⟩
          exact wpE_var C.c he a0 ⟨p, rfl, ⟨vs, C.c.kK ▸ h2.imp s.eB.rd id⟩, for_lst C ht (Sb P) s.here (fun HP' H' env' σ' O' s' => C.c.kK ▸ h2.imp s'.eB.rd id) hr w'⟩
        · rename_i gs' e3
          cases e3
          have hr : RTs cA HP ts vs := (h3.vals q2).1
          refine ⟨_, ps_for C.po C.c.calm (pi_tup peE) pgG pssS (toE_fold he _), ?_⟩
          exact wpE_var C.c he a0 ⟨p, rfl, ⟨vs, .inl (s.eB.rd h2)⟩, for_tp C ht (Sb P) s.here (fun HP' H' env' σ' O' s' => .inl (s'.eB.rd h2)) hr w'⟩
        · cases q2
      · cases qi
     | none =>
      rw [qb] at qi
      simp only at qi
      cases q2 : ev Φ gl env a with
      | exc x => rw [q2] at qi; cases qi
      | stk => rw [q2] at qi; cases qi
      | ok g =>
        rw [q2] at qi
        simp only [Res.bind] at qi
        split at qi
        · rename_i hf
          split at qi
          · rename_i ts' hts
            cases qi
            have Se := toE_ok C.c _ _ _ he
            -- behind the walked thing's making
            have mk : ∀ Q : VK, (∀ v HP2 H1, SR cA k HP2 H1 env σ O → RT cA HP2 g.toT v → Q v H1) → wpE X e σ H Q := fun Q hQ => by
              refine Se env σ HP H H Q s.pv s.hs s.eP ?_
              rw [q2]
              intro v HP1 H1 Og rg nd fr st
              obtain ⟨HP2, s2, rt⟩ := s.frzS rg nd fr st hf
              exact hQ v HP2 H1 s2 rt
            have fin : ∀ {HP2 H1 : Hp}, SR cA k HP2 H1 env σ O → WpOut X cA { k with HP0 := HP2 } P (loopT (tgSet P 0 tg) (execs Φ gl P sb) ts env) σ D := fun s2 => out_none s2 (by
              have : ∀ o : Out, o.unhide none = o := fun o => by cases o <;> rfl
              rw [this] at w
              exact w)
            have hs := toE_fold he X.env
            have tv : ∀ t : T, (G.val t).toT = t := fun t => by unfold G.toT; rfl
            have hit : (∃ z, g.toT = .str z ∧ ts = strItems z) ∨ (G.val g.toT).items = some ts := by
              generalize g.toT = t at hts
              cases t <;> first | exact .inl ⟨_, rfl, (Option.some.inj hts).symm⟩ | exact .inr hts
            rcases hit with ⟨z, ez, rfl⟩ | hts
            · refine ⟨_, ps_for C.po C.c.calm (pi_str peE) pgG pssS hs, ?_⟩
              refine mk _ fun v HP2 H1 s2 rt => ?_
              rw [ez] at rt
              exact ⟨z, rt, for_str C ht (Sb P) s2.here (fin s2)⟩
            · rcases items_toT hts with et | et <;> rw [tv] at et
              · refine ⟨_, ps_for C.po C.c.calm (pi_list peE) pgG pssS hs, ?_⟩
                refine mk _ fun v HP2 H1 s2 rt => ?_
                rw [et] at rt
                obtain ⟨p, vs, rfl, hp, hr⟩ := rt
                exact ⟨p, rfl, ⟨vs, C.c.kK ▸ hp.imp s2.eP.rd id⟩, for_lst C ht (Sb P) s2.here (fun HP' H' env' σ' O' s' => C.c.kK ▸ (hp.imp (fun z => s'.eP.rd (s'.ex0.rd z)) id)) hr (fin s2)⟩
              · refine ⟨_, ps_for C.po C.c.calm (pi_tup peE) pgG pssS hs, ?_⟩
                refine mk _ fun v HP2 H1 s2 rt => ?_
                rw [et] at rt
                obtain ⟨p, vs, rfl, hp, hr⟩ := rt
                exact ⟨p, rfl, ⟨vs, .inl (s2.eP.rd hp)⟩, for_tp C ht (Sb P) s2.here (fun HP' H' env' σ' O' s' => .inl (s'.eP.rd (s'.ex0.rd hp))) hr (fin s2)⟩
          · cases qi
        · cases qi
theorem ev_int {Φ : Fns} {gl : Str → Option T} {env : Env} {a : E} {β : Type} {f : Int → Res β} {r : β} (h : (ev Φ gl env a).bind (fun g => (asInt g).bind f) = .ok r) : ∃ i, ev Φ gl env a = .ok (.val (.int i)) ∧ f i = .ok r := by
  cases q : ev Φ gl env a with
  | exc x => rw [q] at h; cases h
  | stk => rw [q] at h; cases h
  | ok g =>
    rw [q] at h
    simp only [Res.bind] at h
    cases q2 : asInt g with
    | exc x => rw [q2] at h; cases h
    | stk => rw [q2] at h; cases h
    | ok i => rw [q2] at h; rw [asInt_of q2]; exact ⟨i, rfl, h⟩
theorem unhide_none (o : Out) : o.unhide none = o := by cases o <;> rfl
theorem builtin_of {x : Str} (h : builtinB tb sc x = true) : Gl X x ∧ X.mg x = none := by
  unfold builtinB at h
  simp only [Bool.and_eq_true] at h
  exact ⟨C.c.Gl h.1.1, C.c.bl x h.1.2⟩
theorem small_of {i : Int} (h : smallI i = true) : -(2 ^ 62) ≤ i ∧ i < 2 ^ 62 := by
  unfold smallI at h
  simp only [Bool.and_eq_true, decide_eq_true_eq] at h
  exact h
/-- an int that is reckoned -/
theorem mk_int {n : Nat} {e : Expr} {a : E} (he : toE tb sc n e = some a) {k : Fk} {env : Env} {σ : St} {HP H : Hp} {O : List Addr} (s : SR cA k HP H env σ O) {i : Int} (q : ev Φ gl env a = .ok (.val (.int i))) {Q : VK}
    (hQ : ∀ HP1 H1, SR cA k HP1 H1 env σ O → Q (.int i) H1) : wpE X e σ H Q := by
  refine toE_ok C.c _ _ _ he env σ HP H H Q s.pv s.hs s.eP ?_
  rw [q]
  intro v HP1 H1 Og rg nd fr st
  have e1 : v = .int i := rg.1
  subst e1
  exact hQ HP1 H1 (s.step st)
theorem snd_forR1 {n : Nat} {e : Expr} {a : E} {p pos fpos : Pos} (hb : builtinB tb sc "range" = true) (he : toE tb sc n e = some a) : SndSt X Φ gl cA P (.For tgE (.Call (.Name "range" p) [e] [] pos) body [] fpos) (.for_ tg (.rng1 a) sb) := by
  intro k env σ HP H O D s w
  obtain ⟨G, M⟩ := builtin_of C ht Sb hb
  unfold exec at w
  cases qi : evIt Φ gl env (.rng1 a) with
  | exc x => rw [qi] at w; exact w.elim
  | stk => rw [qi] at w; exact w.elim
  | ok pr =>
    obtain ⟨ts, h⟩ := pr
    rw [qi] at w
    simp only at w
    simp only [evIt] at qi
    obtain ⟨i, q1, q2⟩ := ev_int C ht Sb qi
    split at q2
    · rename_i hs
      cases q2
      rw [unhide_none C ht Sb] at w
      obtain ⟨l1, l2⟩ := small_of C ht Sb hs
      refine ⟨_, ps_for C.po C.c.calm (pi_range1 G M (pa_cons peE pa_nil (toE_star he [] _)) (toE_star he [] _)) pgG pssS (fun _ => rfl), ?_⟩
      refine mk_int C ht Sb he s q1 fun HP1 H1 s1 => ?_
      exact ⟨i, rfl, l1, l2, for_rng C ht (Sb P) s1.here (out_none s1 w)⟩
    · cases q2
theorem snd_forR2 {n : Nat} {e e2 : Expr} {a b : E} {p pos fpos : Pos} (hb : builtinB tb sc "range" = true) (he : toE tb sc n e = some a) (he2 : toE tb sc n e2 = some b) : SndSt X Φ gl cA P (.For tgE (.Call (.Name "range" p) [e, e2] [] pos) body [] fpos) (.for_ tg (.rng2 a b) sb) := by
  intro k env σ HP H O D s w
  obtain ⟨G, M⟩ := builtin_of C ht Sb hb
  unfold exec at w
  cases qi : evIt Φ gl env (.rng2 a b) with
  | exc x => rw [qi] at w; exact w.elim
  | stk => rw [qi] at w; exact w.elim
  | ok pr =>
    obtain ⟨ts, h⟩ := pr
    rw [qi] at w
    simp only at w
    simp only [evIt] at qi
    obtain ⟨i, q1, q2⟩ := ev_int C ht Sb qi
    obtain ⟨j, q3, q4⟩ := ev_int C ht Sb q2
    split at q4
    · rename_i hs
      cases q4
      rw [Bool.and_eq_true] at hs
      rw [unhide_none C ht Sb] at w
      obtain ⟨l1, l2⟩ := small_of C ht Sb hs.1
      obtain ⟨l3, l4⟩ := small_of C ht Sb hs.2
      have st1 : starEach [e, e2] X.env = [(false, eval e X.env), (false, eval e2 X.env)] := by rw [toE_star he, toE_star he2]; rfl
      refine ⟨_, ps_for C.po C.c.calm (pi_range2 G M (pa_cons peE (pa_cons peE pa_nil (toE_star he2 [] _)) (toE_star he [e2] _)) st1 (toE_star he2 [] _)) pgG pssS (fun _ => rfl), ?_⟩
      refine mk_int C ht Sb he s q1 fun HP1 H1 s1 => ?_
      refine mk_int C ht Sb he2 s1 q3 fun HP2 H2 s2 => ?_
      exact ⟨i, j, rfl, ⟨l1, l2, l3, l4⟩, for_rng C ht (Sb P) s2.here (out_none s2 w)⟩
    · cases q4
theorem snd_forRR {n : Nat} {e e2 : Expr} {a b : E} {p pos p' pos' fpos : Pos} (hbr : builtinB tb sc "reversed" = true) (hb : builtinB tb sc "range" = true) (he : toE tb sc n e = some a) (he2 : toE tb sc n e2 = some b) : SndSt X Φ gl cA P (.For tgE (.Call (.Name "reversed" p') [.Call (.Name "range" p) [e, e2] [] pos] [] pos') body [] fpos) (.for_ tg (.rrng a b) sb) := by
  intro k env σ HP H O D s w
  obtain ⟨G, M⟩ := builtin_of C ht Sb hb
  obtain ⟨G2, M2⟩ := builtin_of C ht Sb hbr
  unfold exec at w
  cases qi : evIt Φ gl env (.rrng a b) with
  | exc x => rw [qi] at w; exact w.elim
  | stk => rw [qi] at w; exact w.elim
  | ok pr =>
    obtain ⟨ts, h⟩ := pr
    rw [qi] at w
    simp only at w
    simp only [evIt] at qi
    obtain ⟨i, q1, q2⟩ := ev_int C ht Sb qi
    obtain ⟨j, q3, q4⟩ := ev_int C ht Sb q2
    split at q4
    · rename_i hs
      cases q4
      rw [Bool.and_eq_true] at hs
      rw [unhide_none C ht Sb] at w
      obtain ⟨l1, l2⟩ := small_of C ht Sb hs.1
      obtain ⟨l3, l4⟩ := small_of C ht Sb hs.2
      refine ⟨_, ps_for C.po C.c.calm (pi_revR G2 M2 (prg_2 G M peE peE (toE_star he [e2] _) (toE_star he2 [] _) (by rw [toE_star he2]; rfl)) rfl) pgG pssS (fun _ => rfl), ?_⟩
      refine mk_int C ht Sb he s q1 fun HP1 H1 s1 => ?_
      refine mk_int C ht Sb he2 s1 q3 fun HP2 H2 s2 => ?_
      exact ⟨i, j, rfl, rfl, l1, l2, l3, l4, for_rrng C ht (Sb P) s2.here (out_none s2 w)⟩
    · cases q4
theorem snd_forEn {n : Nat} {e : Expr} {a : E} {p pos fpos tpos : Pos} {es : List Expr} {x1 : Nat} (htg : tgE = .Tuple es x1 tpos) (hb : builtinB tb sc "enumerate" = true) (he : toE tb sc n e = some a) : SndSt X Φ gl cA P (.For tgE (.Call (.Name "enumerate" p) [e] [] pos) body [] fpos) (.for_ tg (.enm a) sb) := by
  intro k env σ HP H O D s w
  obtain ⟨G, M⟩ := builtin_of C ht Sb hb
  have PIe : PI X tgE (.Call (.Name "enumerate" p) [e] [] pos) (iEnum X.K (tCons (wpE X e) tNil)) := by subst htg; exact pi_enum G M (pa_cons peE pa_nil (toE_star he [] _)) (toE_star he [] _)
  unfold exec at w
  cases qi : evIt Φ gl env (.enm a) with
  | exc x => rw [qi] at w; exact w.elim
  | stk => rw [qi] at w; exact w.elim
  | ok pr =>
    obtain ⟨ts, h⟩ := pr
    rw [qi] at w
    simp only at w
    simp only [evIt] at qi
    refine ⟨_, ps_for C.po C.c.calm PIe pgG pssS (fun _ => rfl), ?_⟩
    split at qi
    · rename_i i gs qo
      split at qi
      · rename_i ts' q2
        cases qi
        obtain ⟨ea, eg, _⟩ := ownAt_of qo
        obtain ⟨v, Oi, O2, gd, hm, hnd⟩ := s.guard eg
        have w' := out_some s gd hm hnd w
        subst ea
        have rg := gd.rg
        obtain ⟨q, vs, O', rfl, h2, h3, h4⟩ := rg
        have pin : q ∈ Oi := by rw [h4]; exact List.mem_cons_self
        have hr : RTs cA HP ts' vs := (h3.vals q2).1
        exact wpE_var C.c he gd.at_ ⟨q, vs, rfl, .inl (.inl h2), for_enm C ht (Sb (i :: P)) gd.sr (fun HP' H' env' σ' O' s' => .inl (.inl (s'.eX.k q _ nt_lst (by show ad k.HX Oi H q = _; rw [ad_in pin]; exact h2)))) hr w'⟩
      · cases qi
    · cases qi
    · split at qi
      · rename_i g qb
        obtain ⟨i, ea, eg, kd, gs, hg⟩ := borAt_of qb
        split at qi
        · rename_i ts' q2
          cases qi
          subst ea hg
          obtain ⟨v, O1, a0, rg⟩ := s.rs.get eg
          obtain ⟨q, vs, rfl, h2, h3⟩ := rg
          rw [unhide_none C ht Sb] at w
          unfold lstItems at q2
          simp only [Bv.G.parts] at q2
          split at q2
          · rename_i gs' e3
            cases e3
            have hr : RTs cA HP ts' vs := (h3.vals q2).1
            exact wpE_var C.c he a0 ⟨q, vs, rfl, C.c.kK ▸ h2.imp s.eB.rd id, for_enm C ht (Sb P) s.here (fun HP' H' env' σ' O' s' => C.c.kK ▸ h2.imp s'.eB.rd id) hr (out_none s w)⟩
          · cases q2
        · cases qi
      · cases q2 : ev Φ gl env a with
        | exc x => rw [q2] at qi; cases qi
        | stk => rw [q2] at qi; cases qi
        | ok g =>
          rw [q2] at qi
          simp only [Res.bind] at qi
          split at qi
          · rename_i hf
            split at qi
            · rename_i gs ep
              split at qi
              · rename_i ts' q3
                cases qi
                rw [unhide_none C ht Sb] at w
                refine toE_ok C.c _ _ _ he env σ HP H H _ s.pv s.hs s.eP ?_
                rw [q2]
                intro v HP1 H1 Og rg nd fr st
                obtain ⟨HP2, s2, rt⟩ := s.frzS rg nd fr st hf
                rw [parts_toT ep, vals_toTs q3] at rt
                obtain ⟨q, vs, rfl, hp, hr⟩ := rt
                exact ⟨q, vs, rfl, C.c.kK ▸ hp.imp s2.eP.rd id, for_enm C ht (Sb P) s2.here (fun HP' H' env' σ' O' s' => C.c.kK ▸ (hp.imp (fun z => s'.eP.rd (s'.ex0.rd z)) id)) hr (out_none s2 w)⟩
              · cases qi
            · cases qi
          · cases qi
theorem snd_forRev {n : Nat} {e : Expr} {a : E} {p pos fpos : Pos} (hb : builtinB tb sc "reversed" = true) (he : toE tb sc n e = some a) : SndSt X Φ gl cA P (.For tgE (.Call (.Name "reversed" p) [e] [] pos) body [] fpos) (.for_ tg (.rev a) sb) := by
  intro k env σ HP H O D s w
  obtain ⟨G, M⟩ := builtin_of C ht Sb hb
  have PIe : PI X tgE (.Call (.Name "reversed" p) [e] [] pos) (RT.iRevA X.K (wpE X e)) := RT.pi_revA G M peE (toE_star he [] _)
  unfold exec at w
  cases qi : evIt Φ gl env (.rev a) with
  | exc x => rw [qi] at w; exact w.elim
  | stk => rw [qi] at w; exact w.elim
  | ok pr =>
    obtain ⟨ts, h⟩ := pr
    rw [qi] at w
    simp only at w
    simp only [evIt] at qi
    refine ⟨_, ps_for C.po C.c.calm PIe pgG pssS (fun _ => rfl), ?_⟩
    cases q2 : ev Φ gl env a with
    | exc x => rw [q2] at qi; cases qi
    | stk => rw [q2] at qi; cases qi
    | ok g =>
      rw [q2] at qi
      simp only [Res.bind] at qi
      split at qi
      · rename_i hf
        split at qi
        · rename_i ts' q3
          cases qi
          unfold lstItems at q3
          split at q3
          · rename_i gs ep
            rw [unhide_none C ht Sb] at w
            refine toE_ok C.c _ _ _ he env σ HP H H _ s.pv s.hs s.eP ?_
            rw [q2]
            intro v HP1 H1 Og rg nd fr st
            obtain ⟨HP2, s2, rt⟩ := s.frzS rg nd fr st hf
            rw [parts_toT ep, vals_toTs q3] at rt
            obtain ⟨q, vs, rfl, hp, hr⟩ := rt
            exact ⟨q, vs, rfl, .inl ⟨C.c.kK ▸ hp.imp s2.eP.rd id, for_rev C ht (Sb P) s2.here (fun HP' H' env' σ' O' s' => C.c.kK ▸ (hp.imp (fun z => s'.eP.rd (s'.ex0.rd z)) id)) hr (out_none s2 w)⟩⟩
          · cases q3
        · cases qi
      · cases qi
theorem snd_forZip {n : Nat} {e e2 : Expr} {a b : E} {p pos fpos tpos : Pos} {es : List Expr} {x1 : Nat} (htg : tgE = .Tuple es x1 tpos) (hb : builtinB tb sc "zip" = true) (he : toE tb sc n e = some a) (he2 : toE tb sc n e2 = some b) : SndSt X Φ gl cA P (.For tgE (.Call (.Name "zip" p) [e, e2] [] pos) body [] fpos) (.for_ tg (.zip a b) sb) := by
  intro k env σ HP H O D s w
  obtain ⟨G, M⟩ := builtin_of C ht Sb hb
  have PIe : PI X tgE (.Call (.Name "zip" p) [e, e2] [] pos) (iZip X.K (tCons (wpE X e) (tCons (wpE X e2) tNil))) := by subst htg; exact pi_zip G M (pa_cons peE (pa_cons peE pa_nil (toE_star he2 [] _)) (toE_star he [e2] _)) (toE_star he [e2] _) (by rw [toE_star he2]; rfl)
  unfold exec at w
  cases qi : evIt Φ gl env (.zip a b) with
  | exc x => rw [qi] at w; exact w.elim
  | stk => rw [qi] at w; exact w.elim
  | ok pr =>
    obtain ⟨ts, h⟩ := pr
    rw [qi] at w
    simp only at w
    simp only [evIt] at qi
    refine ⟨_, ps_for C.po C.c.calm PIe pgG pssS (fun _ => rfl), ?_⟩
    cases q2 : ev Φ gl env a with
    | exc x => rw [q2] at qi; cases qi
    | stk => rw [q2] at qi; cases qi
    | ok g =>
      cases q3 : ev Φ gl env b with
      | exc x => rw [q2, q3] at qi; cases qi
      | stk => rw [q2, q3] at qi; cases qi
      | ok g2 =>
        rw [q2, q3] at qi
        simp only [Res.bind] at qi
        split at qi
        · rename_i hf
          rw [Bool.and_eq_true] at hf
          split at qi
          · rename_i ts1 us1 i1 i2
            cases qi
            rw [unhide_none C ht Sb] at w
            unfold lstItems at i1 i2
            split at i1
            · rename_i gs1 ep1
              split at i2
              · rename_i gs2 ep2
                refine toE_ok C.c _ _ _ he env σ HP H H _ s.pv s.hs s.eP ?_
                rw [q2]
                intro v HP1 H1 Og rg nd fr st
                obtain ⟨HP2, s2, rt⟩ := s.frzS rg nd fr st hf.1
                rw [parts_toT ep1, vals_toTs i1] at rt
                refine toE_ok C.c _ _ _ he2 env σ HP2 H1 H1 _ s2.pv s2.hs s2.eP ?_
                rw [q3]
                intro v2 HP3 H3 Og2 rg2 nd2 fr2 st2
                obtain ⟨HP4, ex4, s4, rt2⟩ := s2.frzSx rg2 nd2 fr2 st2 hf.2
                rw [parts_toT ep2, vals_toTs i2] at rt2
                have rt := rt.mono ex4
                obtain ⟨q, vs, rfl, hp, hr⟩ := rt
                obtain ⟨q', vs', rfl, hp', hr'⟩ := rt2
                exact ⟨q, q', vs, vs', rfl, C.c.kK ▸ hp.imp s4.eP.rd id, C.c.kK ▸ hp'.imp s4.eP.rd id, for_zip C ht (Sb P) s4.here (fun HP' H' env' σ' O' s' => C.c.kK ▸ (hp.imp (fun z => s'.eP.rd (s'.ex0.rd z)) id)) (fun HP' H' env' σ' O' s' => C.c.kK ▸ (hp'.imp (fun z => s'.eP.rd (s'.ex0.rd z)) id)) hr hr' (out_none s4 w)⟩
              · cases i2
            · cases i1
          · cases qi
        · cases qi
end
end
end Bv
set_option maxRecDepth 100000
set_option maxHeartbeats 2000000
/-! Part 17a: places. -/
namespace Bv
open PySem L2
section
variable [TC] {X : Cx} {CX : CXT} {XE : XK} {tb : Tb} {sc : Scope} {Φ : Fns} {gl : Str → Option T} {cA : CA} {P : List Nat}
theorem RGs.app {HP HB H : Hp} {g : G} {v : V} {Og : List Addr} : ∀ {gs : List G} {vs : List V} {O : List Addr}, RGs cA HP HB H gs vs O → RG cA HP HB H g v Og → RGs cA HP HB H (gs ++ [g]) (vs ++ [v]) (O ++ Og)
  | [], _, _, h, r => by obtain ⟨rfl, rfl⟩ := h; exact ⟨v, [], Og, [], rfl, r, ⟨rfl, rfl⟩, by simp⟩
  | _ :: _, _, _, ⟨w, r, O1, O2, h1, h2, h3, h4⟩, rg => by
    subst h1 h4
    exact ⟨w, r ++ [v], O1, O2 ++ Og, rfl, h2, RGs.app h3 rg, by rw [List.append_assoc]⟩
theorem RGs.setv {HP HB H : Hp} {g : G} {v : V} {Og : List Addr} : ∀ {gs : List G} {vs : List V} {O : List Addr} {j : Nat}, RGs cA HP HB H gs vs O → (gs[j]?).any (fun x => x.val?.isSome) = true → RG cA HP HB H g v Og → ∃ O', RGs cA HP HB H (gs.set j g) (vs.set j v) O' ∧ O'.Perm (O ++ Og)
  | [], _, _, _, _, h, _ => by simp at h
  | g0 :: gs, _, _, 0, ⟨w, r, O1, O2, h1, h2, h3, h4⟩, hv, rg => by
    subst h1 h4
    cases g0 with
    | val t =>
      have : O1 = [] := h2.2
      subst this
      exact ⟨Og ++ O2, ⟨v, r, Og, O2, rfl, rg, h3, rfl⟩, List.perm_append_comm⟩
    | nod o k gs => simp [G.val?] at hv
  | g0 :: gs, _, _, j + 1, ⟨w, r, O1, O2, h1, h2, h3, h4⟩, hv, rg => by
    subst h1 h4
    obtain ⟨O', a, b⟩ := RGs.setv (j := j) h3 (by simpa using hv) rg
    exact ⟨O1 ++ O', ⟨w, r.set j v, O1, O', rfl, h2, a, rfl⟩, by rw [List.append_assoc]; exact List.Perm.append_left O1 b⟩
theorem Own.det {H : Hp} {k : Kd} {p : Addr} {vs ws : List V} (a : Own cA H k p vs) (b : Own cA H k p ws) : vs = ws := by
  have zipInj : ∀ {α : Type} {xs : List α} {vs ws : List V}, xs.length = vs.length → xs.length = ws.length → xs.zip vs = xs.zip ws → vs = ws := fun {α xs vs ws} h1 h2 e => by
    have := congrArg (List.map Prod.snd) e
    rwa [List.map_snd_zip (by omega), List.map_snd_zip (by omega)] at this
  cases k with
  | tup => have z := Option.some.inj (Eq.trans (Eq.symm a) b); cases z; rfl
  | lst => have z := Option.some.inj (Eq.trans (Eq.symm a) b); cases z; rfl
  | dct ks =>
    obtain ⟨o, h1, h2⟩ := a
    obtain ⟨o', k1, k2⟩ := b
    rw [h2] at k2
    cases k2
    obtain ⟨kk, e1, e2, e3⟩ := h1
    obtain ⟨ll, f1, f2, f3⟩ := k1
    have z : kk = ll := by
      rw [e1] at f1
      exact List.map_inj_right (fun _ _ h => Sum.inl.inj h) |>.mp f1
    subst z
    have z2 := e3.symm.trans f3
    injection z2 with z3
    exact zipInj e2 f2 z3
  | ins C ns =>
    obtain ⟨h1, dx, h2⟩ := a
    obtain ⟨k1, dy, k2⟩ := b
    rw [h2] at k2
    have z := Option.some.inj k2
    injection z with z1 z2 z3
    exact zipInj h1 k1 z3
theorem Own.upd' {H : Hp} {k : Kd} {q p : Addr} {o : HO} {vs : List V} (ne : q ≠ p) (h2 : Own cA H k q vs) : Own cA (L2.upd H p o) k q vs := by
  cases k with
  | tup => exact (upd_ne ne).trans h2
  | lst => exact (upd_ne ne).trans h2
  | dct ks => obtain ⟨o, h1, h2⟩ := h2; exact ⟨o, h1, (upd_ne ne).trans h2⟩
  | ins C ns => obtain ⟨h1, dx, h2⟩ := h2; exact ⟨h1, dx, (upd_ne ne).trans h2⟩
/-- the value at a way down -/
def VA (cA : CA) (H : Hp) : List Nat → G → V → V → Prop
  | [], _, v0, v => v = v0
  | j :: js, g, v0, v => ∃ kd gs q vs vj x, g = .nod true kd gs ∧ v0 = .ref q ∧ Own cA H kd q vs ∧ vs[j]? = some vj ∧ gs[j]? = some x ∧ VA cA H js x vj v
theorem VA.mono {H H' : Hp} (e : Ex H H') : ∀ {js : List Nat} {g : G} {v0 v : V}, VA cA H js g v0 v → VA cA H' js g v0 v
  | [], _, _, _, h => h
  | _ :: _, _, _, _, ⟨kd, gs, q, vs, vj, x, a, b, c, d, f, h⟩ => ⟨kd, gs, q, vs, vj, x, a, b, c.mono e, d, f, VA.mono e h⟩
theorem VA.det {H : Hp} : ∀ {js : List Nat} {g : G} {v0 v w : V}, VA cA H js g v0 v → VA cA H js g v0 w → v = w
  | [], _, _, _, _, h, k => by rw [h, k]
  | _ :: _, _, _, _, _, ⟨kd, gs, q, vs, vj, x, a, b, c, d, f, h⟩, ⟨kd', gs', q', vs', vj', x', a', b', c', d', f', h'⟩ => by
    rw [a] at a'; cases a'
    rw [b] at b'; cases b'
    have := c.det c'
    subst this
    rw [d] at d'; cases d'
    rw [f] at f'; cases f'
    exact VA.det h h'
theorem VA.snoc {H : Hp} : ∀ {js : List Nat} {g : G} {v0 : V} {q : Addr} {kd : Kd} {gs : List G} {vs : List V} {j : Nat} {v : V} {x : G}, VA cA H js g v0 (.ref q) → g.at js = some (.nod true kd gs) → Own cA H kd q vs → vs[j]? = some v → gs[j]? = some x → VA cA H (js ++ [j]) g v0 v
  | [], g, v0, q, kd, gs, vs, j, v, x, h, e, o, e1, e2 => by
    have h : .ref q = v0 := h
    have e : some g = some (.nod true kd gs) := e
    cases e
    exact ⟨kd, gs, q, vs, v, x, rfl, h.symm, o, e1, e2, rfl⟩
  | i :: js, g, v0, q, kd, gs, vs, j, v, x, ⟨kd', gs', q', vs', vj, y, a, b, c, d, f, h⟩, e, o, e1, e2 => by
    subst a
    have e : y.at js = some (.nod true kd gs) := by
      unfold G.at at e
      simp only at e
      rw [f] at e
      exact e
    exact ⟨kd', gs', q', vs', vj, y, rfl, b, c, d, f, VA.snoc h e o e1 e2⟩
/-- a list's part, and what is put in its place -/
theorem RGs.split {HP HB H : Hp} : ∀ {gs : List G} {vs : List V} {O : List Addr} {j : Nat} {x : G}, RGs cA HP HB H gs vs O → gs[j]? = some x → ∃ w Ow Or, vs[j]? = some w ∧ RG cA HP HB H x w Ow ∧ O.Perm (Ow ++ Or) ∧
    ∀ (p : Addr) (o' : HO) (x' : G) (Ow' : List Addr), p ∉ Or → RG cA HP HB (L2.upd H p o') x' w Ow' → ∃ O1, RGs cA HP HB (L2.upd H p o') (gs.set j x') vs O1 ∧ O1.Perm (Ow' ++ Or)
  | [], _, _, _, _, _, e => by simp at e
  | g :: gs, _, _, 0, x, ⟨v, r, O1, O2, h1, h2, h3, h4⟩, e => by
    simp at e; subst e; subst h1 h4
    exact ⟨v, O1, O2, rfl, h2, .refl _, fun p o' x' Ow' n h => ⟨Ow' ++ O2, ⟨v, r, Ow', O2, rfl, h, h3.upd n, rfl⟩, .refl _⟩⟩
  | g :: gs, _, _, j + 1, x, ⟨v, r, O1, O2, h1, h2, h3, h4⟩, e => by
    subst h1 h4
    obtain ⟨w, Ow, Or, a, b, c, K⟩ := RGs.split (j := j) (x := x) h3 (by simpa using e)
    have swap : ∀ (A B C : List Addr), (A ++ (B ++ C)).Perm (B ++ (A ++ C)) := fun A B C => by
      rw [← List.append_assoc, ← List.append_assoc]; exact List.Perm.append_right C List.perm_append_comm
    refine ⟨w, Ow, O1 ++ Or, by simpa using a, b, (List.Perm.append_left O1 c).trans (swap _ _ _), fun p o' x' Ow' n h => ?_⟩
    obtain ⟨O3, r3, pm⟩ := K p o' x' Ow' (fun z => n (List.mem_append_right _ z)) h
    exact ⟨O1 ++ O3, ⟨v, r, O1, O3, rfl, h2.upd (fun z => n (List.mem_append_left _ z)), r3, rfl⟩, (List.Perm.append_left O1 pm).trans (swap _ _ _)⟩
/-- the node at a way down, and what is put in its place -/
theorem RG.node {HP HB H : Hp} : ∀ {js : List Nat} {g : G} {v : V} {O : List Addr} {kd : Kd} {gs : List G}, RG cA HP HB H g v O → g.at js = some (.nod true kd gs) → ∃ p vs O' C, VA cA H js g v (.ref p) ∧ Own cA H kd p vs ∧ RGs cA HP HB H gs vs O' ∧ O.Perm (p :: (O' ++ C)) ∧
    ∀ (o' : HO) (kd' : Kd) (gs' : List G) (vs' : List V) (O'' : List Addr), p ∉ C → Own cA (L2.upd H p o') kd' p vs' → RGs cA HP HB (L2.upd H p o') gs' vs' O'' → ∃ O1, RG cA HP HB (L2.upd H p o') (g.put js (.nod true kd' gs')) v O1 ∧ O1.Perm (p :: (O'' ++ C))
  | [], g, v, O, kd, gs, h, e => by
    have e : some g = some (.nod true kd gs) := e
    cases e
    obtain ⟨p, vs, O', rfl, h2, h3, h4⟩ := h
    refine ⟨p, vs, O', [], rfl, h2, h3, by rw [h4, List.append_nil], fun o' kd' gs' vs' O'' _ ow r => ⟨p :: O'', ⟨p, vs', O'', rfl, ow, r, rfl⟩, by rw [List.append_nil]⟩⟩
  | j :: js, g, v, O, kd, gs, h, e => by
    unfold G.at at e
    split at e
    · rename_i k0 gs0
      split at e
      · rename_i x ex
        obtain ⟨q, vs0, O0, rfl, h2, h3, h4⟩ := h
        obtain ⟨w, Ow, Or, a, b, c, K⟩ := h3.split ex
        obtain ⟨p, vs, O', C, va, ow, r, pm, K2⟩ := RG.node b e
        have arr : ∀ (A : List Addr), (q :: ((p :: (A ++ C)) ++ Or)).Perm (p :: (A ++ (q :: (C ++ Or)))) := fun A => by
          have e1 : (p :: (A ++ C)) ++ Or = p :: (A ++ (C ++ Or)) := by simp
          rw [e1]
          refine (List.Perm.swap _ _ _).trans (List.Perm.cons p ?_)
          exact List.perm_middle.symm
        refine ⟨p, vs, O', q :: (C ++ Or), ⟨k0, gs0, q, vs0, w, x, rfl, rfl, h2, a, ex, va⟩, ow, r, ?_, fun o' kd' gs' vs' O'' n ow' r' => ?_⟩
        · rw [h4]
          exact (List.Perm.cons q (c.trans (List.Perm.append_right Or pm))).trans (arr O')
        · have n1 : p ∉ C := fun z => n (List.mem_cons_of_mem _ (List.mem_append_left _ z))
          have n2 : p ∉ Or := fun z => n (List.mem_cons_of_mem _ (List.mem_append_right _ z))
          have n3 : q ≠ p := fun z => n (by rw [z]; exact List.mem_cons_self)
          obtain ⟨O1, r1, pm1⟩ := K2 o' kd' gs' vs' O'' n1 ow' r'
          obtain ⟨O3, r3, pm3⟩ := K p o' _ O1 n2 r1
          refine ⟨q :: O3, ?_, (List.Perm.cons q (pm3.trans (List.Perm.append_right Or pm1))).trans (arr O'')⟩
          unfold G.put
          simp only [ex]
          exact ⟨q, vs0, O3, rfl, h2.upd' n3, r3, rfl⟩
      · cases e
    · cases e
/-- the owned node at a place is changed -/
theorem SR.chgAtN {k : Fk} {HP H : Hp} {env : Env} {σ : St} {O Og : List Addr} {i : Nat} {js : List Nat} {g0 : G} {kd : Kd} {gs : List G} (s : SR cA k HP H env σ O) (e : env[i]? = some (some g0)) (ea : g0.at js = some (.nod true kd gs)) (hO : (Og ++ O).Nodup) (mine : ∀ p ∈ Og, k.mine HP p) :
    ∃ v0 p vs, σ[i]? = some (some v0) ∧ VA cA H js g0 v0 (.ref p) ∧ Own cA H kd p vs ∧ gs.length = vs.length ∧ ∀ (kd' : Kd) (o' : HO) (gs' : List G) (vs' : List V) (ow' : Own cA (L2.upd H p o') kd' p vs') (K : ∀ (O' : List Addr), RGs cA HP k.HB H gs vs O' → ∃ O'', RGs cA HP k.HB H gs' vs' O'' ∧ (∀ q ∈ O'', q ∈ O' ∨ q ∈ Og) ∧ (O'.Nodup → (∀ q ∈ O', q ∉ Og) → O''.Nodup)),
      ∃ O1, SR cA k HP (L2.upd H p o') (env.set i (some (g0.put js (.nod true kd' gs')))) σ O1 := by
  obtain ⟨v, Oi, O2, a, b, c, d⟩ := s.rs.hide e
  obtain ⟨p, vs, O', C, va, h2, h3, pmN, KN⟩ := b.node ea
  have hmem : ∀ q ∈ Oi ++ O2, q ∈ O := fun q hq => d.mem_iff.mpr hq
  have hnd : (Oi ++ O2).Nodup := d.nodup_iff.mp s.nd
  have nOi : (p :: (O' ++ C)).Nodup := pmN.nodup_iff.mp (List.nodup_append.mp hnd).1
  have dO := (List.nodup_append.mp hO).2.2
  refine ⟨v, p, vs, a, va, h2, h3.len, fun kd' o' gs' vs' ow' K => ?_⟩
  obtain ⟨O'', r'', sub, nd''⟩ := K O' h3
  have inOi : ∀ q, q ∈ p :: (O' ++ C) → q ∈ Oi := fun q hq => pmN.mem_iff.mpr hq
  have pOi : p ∈ Oi := inOi p List.mem_cons_self
  have pO : p ∈ O := hmem p (List.mem_append_left _ pOi)
  have nOC : (O' ++ C).Nodup := (List.nodup_cons.mp nOi).2
  have pn : p ∉ O' := fun z => (List.nodup_cons.mp nOi).1 (List.mem_append_left _ z)
  have pC : p ∉ C := fun z => (List.nodup_cons.mp nOi).1 (List.mem_append_right _ z)
  have nO' : O'.Nodup := (List.nodup_append.mp nOC).1
  have O'O : ∀ q ∈ O', q ∈ O := fun q hq => hmem q (List.mem_append_left _ (inOi q (List.mem_cons_of_mem _ (List.mem_append_left _ hq))))
  have CO : ∀ q ∈ C, q ∈ O := fun q hq => hmem q (List.mem_append_left _ (inOi q (List.mem_cons_of_mem _ (List.mem_append_right _ hq))))
  have pOg : p ∉ Og := fun z => dO p z p pO rfl
  have pn2 : p ∉ O'' := fun z => (sub p z).elim pn pOg
  have pO2 : p ∉ O2 := fun z => (List.nodup_append.mp hnd).2.2 p pOi p z rfl
  have nd2 : O''.Nodup := nd'' nO' fun q hq z => dO q z q (O'O q hq) rfl
  have mp := s.own0 p pO
  obtain ⟨O3, rg', pm3⟩ := KN o' kd' gs' vs' O'' pC ow' (r''.upd pn2)
  have exU : ∀ {G' : Hp}, Ex G' H → G' p = none → Ex G' (L2.upd H p o') := fun e0 n => e0.updR n
  have tbU : Tbs (L2.upd H p o') := by
    obtain ⟨u, hu, n1, n2⟩ := h2.plain
    exact tbs_upd hu n1 n2 s.tb
  have hil : i < env.length := (List.getElem?_eq_some_iff.mp e).1
  obtain ⟨O1, r1, pm⟩ := (RS.upd (o := o') pO2 c).fill (by rw [List.getElem?_set_self hil]) a rg'
  rw [List.set_set] at r1
  have mem3 : ∀ q ∈ O3, q = p ∨ q ∈ O'' ∨ q ∈ C := fun q hq => by
    rcases List.mem_cons.mp (pm3.mem_iff.mp hq) with rfl | z
    · exact .inl rfl
    · exact .inr (List.mem_append.mp z)
  have mem1 : ∀ q ∈ O1, q ∈ O ∨ q ∈ Og := fun q hq => by
    rcases List.mem_append.mp (pm.mem_iff.mp hq) with z | z
    · rcases mem3 q z with rfl | z | z
      · exact .inl pO
      · exact (sub q z).imp (O'O q) id
      · exact .inl (CO q z)
    · exact .inl (hmem q (List.mem_append_right _ z))
  have nd3 : O3.Nodup := by
    refine pm3.nodup_iff.mpr (List.nodup_cons.mpr ⟨fun z => (List.mem_append.mp z).elim pn2 pC, List.nodup_append.mpr ⟨nd2, (List.nodup_append.mp nOC).2.1, fun x hx y hy exy => ?_⟩⟩)
    subst exy
    rcases sub x hx with z | z
    · exact (List.nodup_append.mp nOC).2.2 x z x hy rfl
    · exact dO x z x (CO x hy) rfl
  refine ⟨O1, r1, tbU, pm.nodup_iff.mpr ?_, fun q hq => (mem1 q hq).elim (s.own0 q) (mine q), exU s.eP mp.2.1, exU s.eB ?_, exU s.eX mp.2.2, s.ex0, s.new0⟩
  · refine List.nodup_append.mpr ⟨nd3, (List.nodup_append.mp hnd).2.1, fun x hx y hy exy => ?_⟩
    subst exy
    rcases mem3 x hx with rfl | z | z
    · exact pO2 hy
    · rcases sub x z with z | z
      · exact (List.nodup_append.mp hnd).2.2 x (inOi x (List.mem_cons_of_mem _ (List.mem_append_left _ z))) x hy rfl
      · exact dO x z x (hmem x (List.mem_append_right _ hy)) rfl
    · exact (List.nodup_append.mp hnd).2.2 x (inOi x (List.mem_cons_of_mem _ (List.mem_append_right _ z))) x hy rfl
  · show mn k.H0 k.L p = none
    unfold mn
    rcases mp.1 with z | z
    · split <;> first | rfl | exact z
    · rw [if_pos z]
/-- the owned list at a place is changed -/
theorem SR.chgAt {k : Fk} {HP H : Hp} {env : Env} {σ : St} {O Og : List Addr} {i : Nat} {js : List Nat} {g0 : G} {gs : List G} (s : SR cA k HP H env σ O) (e : env[i]? = some (some g0)) (ea : g0.at js = some (.nod true .lst gs)) (hO : (Og ++ O).Nodup) (mine : ∀ p ∈ Og, k.mine HP p) :
    ∃ v0 p vs, σ[i]? = some (some v0) ∧ VA cA H js g0 v0 (.ref p) ∧ H p = some (.lst vs) ∧ gs.length = vs.length ∧ ∀ (gs' : List G) (vs' : List V) (K : ∀ (O' : List Addr), RGs cA HP k.HB H gs vs O' → ∃ O'', RGs cA HP k.HB H gs' vs' O'' ∧ (∀ q ∈ O'', q ∈ O' ∨ q ∈ Og) ∧ (O'.Nodup → (∀ q ∈ O', q ∉ Og) → O''.Nodup)),
      ∃ O1, SR cA k HP (L2.upd H p (.lst vs')) (env.set i (some (g0.put js (.nod true .lst gs')))) σ O1 := by
  obtain ⟨v0, p, vs, a, b, c, d, K⟩ := s.chgAtN e ea hO mine
  exact ⟨v0, p, vs, a, b, c, d, fun gs' vs' KK => K .lst _ gs' vs' upd_same KK⟩
theorem at_snoc : ∀ {js : List Nat} {g : G} {kd : Kd} {gs : List G} {j : Nat} {x : G}, g.at js = some (.nod true kd gs) → gs[j]? = some x → g.at (js ++ [j]) = some x
  | [], g, kd, gs, j, x, e, h => by
    have e : some g = some (.nod true kd gs) := e
    cases e
    show (match gs[j]? with | some x => x.at [] | none => none) = _
    rw [h]
    rfl
  | i :: js, g, kd, gs, j, x, e, h => by
    unfold G.at at e
    split at e
    · rename_i k0 gs0
      split at e
      · rename_i y ey
        show (match gs0[i]? with | some x => x.at (js ++ [j]) | none => none) = _
        rw [ey]
        exact at_snoc e h
      · cases e
    · cases e
theorem RG.ref {HP HB H : Hp} {o : Bool} {kd : Kd} {gs : List G} {v : V} {O : List Addr} (h : RG cA HP HB H (.nod o kd gs) v O) : ∃ q, v = .ref q := by
  cases o with
  | true => obtain ⟨p, vs, O', h1, _⟩ := h; exact ⟨p, h1⟩
  | false => obtain ⟨p, vs, h1, _⟩ := h; exact ⟨p, h1⟩
theorem place_ok (C : Cst X CX XE tb sc Φ gl cA) {n : Nat} : ∀ {pl : Pl} {ex : Expr}, toPl tb sc n ex = some pl → ∀ {k : Fk} {env : Env} {σ : St} {HP H : Hp} {O : List Addr} {i : Nat} {js : List Nat}, SR cA k HP H env σ O → evPl Φ gl env pl = .ok (i, js) →
    ∀ {g0 : G} {kd : Kd} {gs : List G}, env[i]? = some (some g0) → g0.at js = some (.nod true kd gs) → ∃ v0 q, σ[i]? = some (some v0) ∧ VA cA H js g0 v0 (.ref q) ∧ ∀ Q : VK, (∀ HP1 H1, SR cA k HP1 H1 env σ O → Step HP H HP1 H1 → Q (.ref q) H1) → wpE X ex σ H Q := by
  intro pl
  induction pl with
  | var i0 =>
    intro ex hx k env σ HP H O i js s hp g0 kd gs e0 ea
    cases hp
    have ea : some g0 = some (.nod true kd gs) := ea
    cases ea
    obtain ⟨v0, O1, a, rg⟩ := s.rs.get e0
    obtain ⟨q, rfl⟩ := rg.ref
    refine ⟨_, q, a, rfl, fun Q hQ => ?_⟩
    unfold toPl at hx
    split at hx
    · split at hx
      · rename_i ev
        cases hx
        exact wpE_var C.c ev a (hQ HP H s (Step.refl s.eP))
      · cases hx
    · split at hx <;> cases hx
    · cases hx
  | ix p kk ih =>
    intro ex hx k env σ HP H O i js s hp g0 kd gs e0 ea
    unfold toPl at hx
    split at hx
    · split at hx <;> cases hx
    · rename_i a ke pos
      split at hx
      · rename_i p' kk' ha hk
        cases hx
        unfold evPl at hp
        cases q1 : evPl Φ gl env p with
        | exc x => rw [q1] at hp; cases hp
        | stk => rw [q1] at hp; cases hp
        | ok ij =>
          obtain ⟨i', js'⟩ := ij
          rw [q1] at hp
          simp only [Res.bind] at hp
          split at hp
          · rename_i g0' e0'
            have go : ∀ {kd' : Kd} {gs' : List G}, kd' = .lst ∨ kd' = .tup → g0'.at js' = some (.nod true kd' gs') → plIx (i', js') gs' (ev Φ gl env kk) = .ok (i, js) → ∃ v0 q, σ[i]? = some (some v0) ∧ VA cA H js g0 v0 (.ref q) ∧ ∀ Q : VK, (∀ HP1 H1, SR cA k HP1 H1 env σ O → Step HP H HP1 H1 → Q (.ref q) H1) → wpE X (.Subscript a ke pos) σ H Q := by
              intro kd' gs' hkd ea' hp
              unfold plIx at hp
              cases q2 : ev Φ gl env kk with
              | exc x => rw [q2] at hp; cases hp
              | stk => rw [q2] at hp; cases hp
              | ok gk =>
                rw [q2] at hp
                simp only [Res.bind] at hp
                cases q3 : asInt gk with
                | exc x => rw [q3] at hp; cases hp
                | stk => rw [q3] at hp; cases hp
                | ok m =>
                  rw [q3] at hp
                  simp only at hp
                  split at hp
                  · rename_i j hj
                    cases hp
                    rw [e0] at e0'; cases e0'
                    obtain ⟨v0, q', a1, va, W⟩ := ih ha s q1 e0 ea'
                    obtain ⟨w0, O1, a2, rg⟩ := s.rs.get e0
                    rw [a1] at a2; cases a2
                    obtain ⟨p0, vs, O', C', va', ow, rs, _, _⟩ := rg.node ea'
                    cases va.det va'
                    have hjl : j < gs'.length := (ixN_seq hj).2.1
                    have ej : gs'[j]? = some gs'[j] := List.getElem?_eq_getElem hjl
                    have en := at_snoc ea' ej
                    rw [ea] at en
                    have en := Option.some.inj en
                    obtain ⟨w, Ow, ew, rw', _⟩ := rs.get ej
                    rw [← en] at rw' ej
                    obtain ⟨q, rfl⟩ := rw'.ref
                    refine ⟨v0, q, a1, va.snoc ea' ow ew ej, fun Q hQ => ?_⟩
                    refine ⟨_, pe_ix ixW peE peE (toE_plain hk), ?_⟩
                    show wpE X a σ H fun x H1 => wpE X ke σ H1 fun y H2 => wpIx X x y H2 Q
                    refine W _ fun HP1 H1 s1 st1 => ?_
                    refine toE_ok C.c _ _ _ hk env σ HP1 H1 H1 _ s1.pv s1.hs s1.eP ?_
                    rw [q2, asInt_of q3]
                    intro y HP2 H2 O2 rgk _ _ st2
                    have ey : y = .int m := rgk.1
                    subst ey
                    have hat : atI vs m = some (.ref q) := by
                      unfold atI
                      rw [← rs.len, hj]
                      exact ew
                    rcases hkd with rfl | rfl
                    · have ow2 : H2 q' = some (.lst vs) := (st1.trans st2).ex.k q' _ nt_lst ow
                      exact ⟨_, ix_list, q', vs, m, .ref q, rfl, rfl, .inl (.inl ow2), hat, hQ HP2 H2 (s1.step st2) (st1.trans st2)⟩
                    · have ow2 : H2 q' = some (.tup vs) := (st1.trans st2).ex.k q' _ nt_tup ow
                      exact ⟨_, ix_tup, q', vs, m, .ref q, rfl, rfl, .inl (.inl ow2), hat, hQ HP2 H2 (s1.step st2) (st1.trans st2)⟩
                  · cases hp
            split at hp
            · rename_i gs' ea'; exact go (.inl rfl) ea' hp
            · rename_i gs' ea'; exact go (.inr rfl) ea' hp
            · cases hp
          · cases hp
      · cases hx
    · cases hx
/-- what a changed list is to reach -/
theorem chg_w {k : Fk} {HP H : Hp} {env : Env} {σ σ0 : St} {O Og : List Addr} {i : Nat} {js : List Nat} {D : Ends} {f : List G → Option (List G)} (s : SR cA k HP H env σ O) (hO : (Og ++ O).Nodup) (mine : ∀ p ∈ Og, k.mine HP p) (hσ : ∀ j ∈ P, σ[j]? = σ0[j]?) (w : WpOut X cA k P (chgO i js env f) σ0 D)
    {v0 : V} {q : Addr} {g0 : G} (e0 : env[i]? = some (some g0)) (a0 : σ[i]? = some (some v0)) (va : VA cA H js g0 v0 (.ref q)) :
    ∃ gs vs gs', g0.at js = some (.nod true .lst gs) ∧ f gs = some gs' ∧ H q = some (.lst vs) ∧ gs.length = vs.length ∧ ∀ (vs' : List V) (K : ∀ (O' : List Addr), RGs cA HP k.HB H gs vs O' → ∃ O'', RGs cA HP k.HB H gs' vs' O'' ∧ (∀ q ∈ O'', q ∈ O' ∨ q ∈ Og) ∧ (O'.Nodup → (∀ q ∈ O', q ∉ Og) → O''.Nodup)), D.nx σ (upd H q (.lst vs')) := by
  unfold chgO at w
  rw [e0] at w
  simp only at w
  split at w
  · rename_i gs ea
    split at w
    · rename_i gs' ef
      obtain ⟨w0, p, vs, a1, va1, h1, hl, K⟩ := s.chgAt e0 ea hO mine
      rw [a0] at a1; cases a1
      cases va.det va1
      refine ⟨gs, vs, gs', ea, ef, h1, hl, fun vs' KK => ?_⟩
      obtain ⟨O1, s1⟩ := K gs' vs' KK
      exact w σ HP _ O1 s1 hσ
    · exact w.elim
  · exact w.elim
/-- a pinned name keeps what it holds -/
theorem evS_pin {P : List Nat} {i : Nat} (hi : i ∈ P) : ∀ (e : E) {mv : Bool} {env env1 : Env} {g : G}, evS Φ gl P mv env e = .ok (g, env1) → env1[i]? = env[i]? := by
  intro e
  induction e using E.rec (motive_2 := fun es => ∀ {mv : Bool} {env env1 : Env} {gs : List G}, evSs Φ gl P mv env es = .ok (gs, env1) → env1[i]? = env[i]?) (motive_3 := fun _ => True) with
  | var j =>
    intro mv env env1 g h
    unfold evS at h
    split at h
    · cases h; rfl
    · split at h
      · rename_i hf
        simp only [Bool.and_eq_true, Bool.not_eq_true'] at hf
        have ne : j ≠ i := fun z => by
          have := hf.2
          rw [z] at this
          simp [hi] at this
        split at h
        · cases h; exact List.getElem?_set_ne ne
        · cases h; exact List.getElem?_set_ne ne
      · cases h
    · cases h
  | tup es ih =>
    intro mv env env1 g h
    unfold evS at h
    cases q : evSs Φ gl P mv env es with
    | exc x => rw [q] at h; cases h
    | stk => rw [q] at h; cases h
    | ok p =>
      rw [q] at h
      simp only [Res.bind] at h
      split at h
      · split at h
        · cases h; exact ih (env1 := p.2) q
        · cases h; exact ih (env1 := p.2) q
      · cases h
  | lst es ih =>
    intro mv env env1 g h
    unfold evS at h
    cases q : evSs Φ gl P mv env es with
    | exc x => rw [q] at h; cases h
    | stk => rw [q] at h; cases h
    | ok p =>
      rw [q] at h
      simp only [Res.bind] at h
      split at h
      · cases h; exact ih (env1 := p.2) q
      · cases h
  | nil => rename_i h; unfold evSs at h; cases h; rfl
  | cons e es ih1 ih2 =>
    rename_i mv env env1 gs h
    unfold evSs at h
    cases q : evS Φ gl P mv env e with
    | exc x => rw [q] at h; cases h
    | stk => rw [q] at h; cases h
    | ok p =>
      cases q2 : evSs Φ gl P mv p.2 es with
      | exc x => rw [q] at h; simp only [Res.bind] at h; rw [q2] at h; cases h
      | stk => rw [q] at h; simp only [Res.bind] at h; rw [q2] at h; cases h
      | ok p2 =>
        rw [q] at h
        simp only [Res.bind] at h
        rw [q2] at h
        cases h
        rw [ih2 (env1 := p2.2) q2, ih1 (env1 := p.2) q]
  | none => trivial
  | some _ _ => trivial
  | _ =>
    intro mv env env1 g h
    rw [evS_plain rfl] at h
    first
      | (cases q : ev Φ gl env _ with
         | exc x => rw [q] at h; cases h
         | stk => rw [q] at h; cases h
         | ok g0 =>
           rw [q] at h
           simp only [Res.bind] at h
           split at h
           · cases h; rfl
           · cases h)
theorem RGs.setv' {HP HB H : Hp} {g : G} {v : V} {Og : List Addr} {gs gs' : List G} {vs : List V} {n : Int} {O' : List Addr} (hf : setF n g gs = some gs') (rg : RG cA HP HB H g v Og) (r : RGs cA HP HB H gs vs O') : ∃ j O'', ixN gs.length n = some j ∧ RGs cA HP HB H gs' (vs.set j v) O'' ∧ O''.Perm (O' ++ Og) := by
  unfold setF at hf
  split at hf
  · rename_i j hj
    split at hf
    · rename_i hc
      cases hf
      obtain ⟨O'', a, b⟩ := r.setv hc rg
      exact ⟨j, O'', hj, a, b⟩
    · cases hf
  · cases hf
theorem snd_app (C : Cst X CX XE tb sc Φ gl cA) {n : Nat} {r : Expr} {apos cpos pos : Pos} {e : Expr} {a : E} {pl : Pl} {mv : Bool} (hx : toPl tb sc n r = some pl) (hl : (apos.endLine == cpos.line) = true) (he : toE tb sc n e = some a) :
    SndSt X Φ gl cA P (.Expr (.Call (.Attribute r "append" apos) [e] [] cpos) pos) (.app pl mv a) := by
  intro k env σ HP H O D s w
  have st1 := toE_star he [] X.env
  have few : ((backTo cpos (starEach [e] X.env)).all (fun x => !x.1) && (backToKw cpos (keywordEach [] X.env)).all (fun x => x.1.isSome) && decide ([e].length + ([] : List Keyword).length + (if ([] : List Keyword).isEmpty then 0 else 1) < 30)) = true := by rw [st1]; rfl
  have hbase : attributeBase r "append" X.env (eval r X.env) = eval r X.env := by
    unfold toPl at hx
    split at hx
    · rfl
    · rfl
    · cases hx
  refine ⟨_, ps_expr (pe_bm PySem.F.plainAttrs_list PySem.F.slot_list_append PySem.F.type_list_append mt_append peE (pa_cons peE pa_nil st1) hbase few hl st1 rfl) rfl, ?_⟩
  unfold exec at w
  cases q1 : evPl Φ gl env pl with
  | exc x => rw [q1] at w; exact w.elim
  | stk => rw [q1] at w; exact w.elim
  | ok ij =>
    obtain ⟨i, js⟩ := ij
    rw [q1] at w
    simp only at w
    cases q : evS Φ gl (i :: P) mv env a with
    | exc x => rw [q] at w; exact w.elim
    | stk => rw [q] at w; exact w.elim
    | ok pr =>
      obtain ⟨g, env1⟩ := pr
      rw [q] at w
      simp only at w
      have pin := evS_pin (P := i :: P) List.mem_cons_self a q
      -- what stands at the place
      have w' := w
      unfold chgO at w'
      rw [pin] at w'
      split at w'
      · rename_i g0 e0
        split at w'
        · rename_i gs0 ea
          obtain ⟨v0, p, a0, va, W⟩ := place_ok C hx s q1 e0 ea
          have l0 : ∃ xs, H p = some (.lst xs) := by
            obtain ⟨u0, p', vs, b0, vb, h1, _⟩ := s.chgAt (Og := []) e0 ea s.nd (fun _ z => nomatch z)
            rw [a0] at b0; cases b0
            cases va.det vb
            exact ⟨vs, h1⟩
          obtain ⟨xs, l0⟩ := l0
          refine W _ fun HP0 H0 s0 st0 => ⟨.inl ⟨rfl, xs, .inl (.inl (st0.ex.k p _ nt_lst l0))⟩, ?_⟩
          show wpE X e σ H0 fun v H1 => rAppend (.ref p) [v] H1 fun _ H2 => D.nx σ H2
          refine toE_okS C.c n e a he (P := i :: P) (mv := mv) k env σ HP0 H0 O _ s0 ?_
          rw [q]
          intro v HP1 H1 Og O1 rg s1 nd mine sub stO
          obtain ⟨HP1, Og, s1, rg, nd, mine⟩ := s1.fz mv rg (evS_free _ q) nd mine
          obtain ⟨gs, vs, gs', ea2, ef, h1, hl2, K⟩ := chg_w (σ0 := σ) s1 nd mine (fun _ _ => rfl) w (by rw [pin]; exact e0) a0 (va.mono (st0.ex.trans stO.ex))
          unfold appF at ef
          split at ef
          · rename_i hz
            cases ef
            refine ⟨p, vs, v, rfl, rfl, h1, by rw [← hl2]; exact hz, ?_⟩
            exact K (vs ++ [v]) fun O' r' => ⟨O' ++ Og, r'.app rg, fun q hq => List.mem_append.mp hq, fun n1 n2 => List.nodup_append.mpr ⟨n1, (List.nodup_append.mp nd).1, fun x hx y hy e => n2 x hx (by rw [e]; exact hy)⟩⟩
          · cases ef
        · exact w'.elim
      · exact w'.elim
theorem RGs.appL {HP HB H : Hp} {hs : List G} {ws : List V} {Og : List Addr} : ∀ {gs : List G} {vs : List V} {O : List Addr}, RGs cA HP HB H gs vs O → RGs cA HP HB H hs ws Og → RGs cA HP HB H (gs ++ hs) (vs ++ ws) (O ++ Og)
  | [], _, _, h, r => by obtain ⟨rfl, rfl⟩ := h; exact r
  | _ :: _, _, _, ⟨w, r, O1, O2, h1, h2, h3, h4⟩, rg => by
    subst h1 h4
    exact ⟨w, r ++ ws, O1, O2 ++ Og, rfl, h2, RGs.appL h3 rg, by rw [List.append_assoc]⟩
theorem snd_ext (C : Cst X CX XE tb sc Φ gl cA) {n : Nat} {r : Expr} {apos cpos pos : Pos} {e : Expr} {a : E} {pl : Pl} (hx : toPl tb sc n r = some pl) (hl : (apos.endLine == cpos.line) = true) (he : toE tb sc n e = some a) :
    SndSt X Φ gl cA P (.Expr (.Call (.Attribute r "extend" apos) [e] [] cpos) pos) (.ext pl a) := by
  intro k env σ HP H O D s w
  have st1 := toE_star he [] X.env
  have few : ((backTo cpos (starEach [e] X.env)).all (fun x => !x.1) && (backToKw cpos (keywordEach [] X.env)).all (fun x => x.1.isSome) && decide ([e].length + ([] : List Keyword).length + (if ([] : List Keyword).isEmpty then 0 else 1) < 30)) = true := by rw [st1]; rfl
  have hbase : attributeBase r "extend" X.env (eval r X.env) = eval r X.env := by
    unfold toPl at hx
    split at hx
    · rfl
    · rfl
    · cases hx
  refine ⟨_, ps_expr (pe_bm PySem.F.plainAttrs_list PySem.F.slot_list_extend PySem.F.type_list_extend mt_extend peE (pa_cons peE pa_nil st1) hbase few hl st1 rfl) rfl, ?_⟩
  unfold exec at w
  cases q1 : evPl Φ gl env pl with
  | exc x => rw [q1] at w; exact w.elim
  | stk => rw [q1] at w; exact w.elim
  | ok ij =>
    obtain ⟨i, js⟩ := ij
    rw [q1] at w
    simp only at w
    cases q : evS Φ gl (i :: P) true env a with
    | exc x => rw [q] at w; exact w.elim
    | stk => rw [q] at w; exact w.elim
    | ok pr =>
      obtain ⟨g, env1⟩ := pr
      rw [q] at w
      simp only at w
      have pin := evS_pin (P := i :: P) List.mem_cons_self a q
      have w' := w
      unfold chgO at w'
      rw [pin] at w'
      split at w'
      · rename_i g0 e0
        split at w'
        · rename_i gs0 ea
          obtain ⟨v0, p, a0, va, W⟩ := place_ok C hx s q1 e0 ea
          have l0 : ∃ xs, H p = some (.lst xs) := by
            obtain ⟨u0, p', vs, b0, vb, h1, _⟩ := s.chgAt (Og := []) e0 ea s.nd (fun _ z => nomatch z)
            rw [a0] at b0; cases b0
            cases va.det vb
            exact ⟨vs, h1⟩
          obtain ⟨xs, l0⟩ := l0
          refine W _ fun HP0 H0 s0 st0 => ⟨.inl ⟨rfl, xs, .inl (.inl (st0.ex.k p _ nt_lst l0))⟩, ?_⟩
          show wpE X e σ H0 fun v H1 => rExtend (.ref p) [v] H1 fun _ H2 => D.nx σ H2
          refine toE_okS C.c n e a he (P := i :: P) (mv := true) k env σ HP0 H0 O _ s0 ?_
          rw [q]
          intro v HP1 H1 Og O1 rg s1 nd mine sub stO
          cases g with
          | val t =>
            split at w'
            · rename_i gs1 ef; cases ef
            · exact w'.elim
          | nod o kd hs =>
            have hok : o = true ∧ kd = .lst := by
              split at w'
              · rename_i gs1 ef
                unfold extF at ef
                split at ef
                · rename_i heq; cases heq; exact ⟨rfl, rfl⟩
                · cases ef
              · exact w'.elim
            obtain ⟨rfl, rfl⟩ := hok
            obtain ⟨b, ws, Og2, rfl, hb, rgs, rfl⟩ := rg
            have nd2 : (Og2 ++ O1).Nodup := (List.nodup_cons.mp nd).2
            obtain ⟨gs, vs, gs', ea2, ef, h1, hl2, K⟩ := chg_w (σ0 := σ) s1 nd2 (fun x hx => mine x (List.mem_cons_of_mem _ hx)) (fun _ _ => rfl) w (by rw [pin]; exact e0) a0 (va.mono (st0.ex.trans stO.ex))
            unfold extF at ef
            simp only at ef
            split at ef
            · rename_i hz
              cases ef
              refine ⟨p, b, vs, ws, rfl, rfl, h1, hb, by rw [← hl2, ← rgs.len]; exact hz, ?_⟩
              exact K (vs ++ ws) fun O' r' => ⟨O' ++ Og2, r'.appL rgs, fun q hq => List.mem_append.mp hq, fun n1 n2 => List.nodup_append.mpr ⟨n1, (List.nodup_append.mp nd2).1, fun x hx y hy e => n2 x hx (by rw [e]; exact hy)⟩⟩
            · cases ef
        · exact w'.elim
      · exact w'.elim
theorem plIx_fst {q : Nat × List Nat} {gs : List G} {r : Res G} {i : Nat} {js : List Nat} (h : plIx q gs r = .ok (i, js)) : q.1 = i := by
  unfold plIx at h
  cases r with
  | exc x => cases h
  | stk => cases h
  | ok gk =>
    simp only [Res.bind] at h
    cases q3 : asInt gk with
    | exc x => rw [q3] at h; cases h
    | stk => rw [q3] at h; cases h
    | ok m =>
      rw [q3] at h
      simp only at h
      split at h
      · cases h; rfl
      · cases h
theorem plVar_of {env : Env} : ∀ {pl : Pl} {i : Nat} {js : List Nat}, evPl Φ gl env pl = .ok (i, js) → plVar pl = i
  | .var i, _, _, h => by cases h; rfl
  | .ix p kk, i, js, h => by
    unfold evPl at h
    cases q1 : evPl Φ gl env p with
    | exc x => rw [q1] at h; cases h
    | stk => rw [q1] at h; cases h
    | ok ij =>
      rw [q1] at h
      simp only [Res.bind] at h
      split at h
      · split at h
        · rw [← plIx_fst h]; show plVar p = ij.1; exact plVar_of q1
        · rw [← plIx_fst h]; show plVar p = ij.1; exact plVar_of q1
        · cases h
      · cases h
theorem snd_seti (C : Cst X CX XE tb sc Φ gl cA) {n : Nat} {r : Expr} {p pos : Pos} {e ke : Expr} {a kk : E} {pl : Pl} {mv : Bool} (hx : toPl tb sc n r = some pl) (hk : toE tb sc n ke = some kk) (he : toE tb sc n e = some a)
    (hsw : swapsWithSole [.Subscript r ke p] e pos.line X.env = pure false) : SndSt X Φ gl cA P (.Assign [.Subscript r ke p] e pos) (.seti pl kk mv a) := by
  intro k env σ HP H O D s w
  have asg : ∀ v, assign (.Subscript r ke p) X.env v = (do
      let ov ← holding [v] (eval r X.env)
      let iv ← holding [v, ov] (eval ke X.env)
      standAt p
      holding [v, ov, iv] (setItem ov iv v)
      release [v, ov, iv] []) := by
    intro v
    cases n with
    | zero => cases hk
    | succ n => cases ke <;> first | rfl | (simp [toE] at hk; done)
  refine ⟨_, ps_asg peE (pg_sub peE peE set_list asg) hsw rfl rfl, ?_⟩
  unfold exec at w
  show wpE X e σ H fun v H1 => gSub (wpE X r) (wpE X ke) rSetL v σ H1 D.nx
  refine toE_okS C.c n e a he (P := plVar pl :: P) (mv := mv) k env σ HP H O _ s ?_
  cases q : evS Φ gl (plVar pl :: P) mv env a with
  | exc x => rw [q] at w; exact w.elim
  | stk => rw [q] at w; exact w.elim
  | ok pr =>
    obtain ⟨g, env1⟩ := pr
    rw [q] at w
    intro v HP1 H1 Og O1 rg s1 nd mine sub stO
    obtain ⟨HP1, Og, s1, rg, nd, mine⟩ := s1.fz mv rg (evS_free _ q) nd mine
    simp only at w
    cases q1 : evPl Φ gl env1 pl with
    | exc x => rw [q1] at w; exact w.elim
    | stk => rw [q1] at w; exact w.elim
    | ok ij =>
      obtain ⟨i, js⟩ := ij
      rw [q1] at w
      simp only at w
      cases qk : (ev Φ gl env1 kk).bind asInt with
      | exc x => rw [qk] at w; exact w.elim
      | stk => rw [qk] at w; exact w.elim
      | ok m =>
        rw [qk] at w
        simp only at w
        have qk' : ev Φ gl env1 kk = .ok (.val (.int m)) := by
          cases q5 : ev Φ gl env1 kk with
          | exc x => rw [q5] at qk; cases qk
          | stk => rw [q5] at qk; cases qk
          | ok g5 => rw [q5] at qk; rw [asInt_of qk]
        have w' := w
        unfold chgO at w'
        split at w'
        · rename_i g0 e0
          split at w'
          · rename_i gs0 ea
            obtain ⟨v0, p0, a0, va, W⟩ := place_ok C hx s1 q1 e0 ea
            refine W _ fun HP2 H2 s2 st2 => ?_
            show wpE X ke σ H2 fun y H3 => rSetL (.ref p0) y v H3 fun H4 => D.nx σ H4
            refine toE_ok C.c _ _ _ hk env1 σ HP2 H2 H2 _ s2.pv s2.hs s2.eP ?_
            rw [qk']
            intro y HP3 H3 O2 rgk _ _ st3
            have ey : y = .int m := rgk.1
            subst ey
            have s3 := s2.step st3
            have st := st2.trans st3
            have mine3 : ∀ q ∈ Og, k.mine HP3 q := fun q hq => by
              obtain ⟨b1, b2, b3⟩ := mine q hq
              exact ⟨b1, keep_none st rg (fun q hq => (mine q hq).2.1) q hq, b3⟩
            obtain ⟨gs, vs, gs', ea2, ef, h1, hl2, K⟩ := chg_w (σ0 := σ) s3 nd mine3 (fun _ _ => rfl) w e0 a0 (va.mono st.ex)
            have ef0 := ef
            unfold setF at ef0
            split at ef0
            · rename_i j hj
              refine ⟨p0, vs, m, j, rfl, rfl, h1, by rw [← hl2]; exact hj, ?_⟩
              refine K (vs.set j v) fun O' r' => ?_
              obtain ⟨j', O'', hj', r'', pm⟩ := RGs.setv' ef (rg.mono st.exP (Ex.refl _) st.ex) r'
              rw [hj] at hj'
              cases hj'
              exact ⟨O'', r'', fun q hq => List.mem_append.mp (pm.mem_iff.mp hq), fun n1 n2 => pm.nodup_iff.mpr (List.nodup_append.mpr ⟨n1, (List.nodup_append.mp nd).1, fun x hx y hy e => n2 x hx (by rw [e]; exact hy)⟩)⟩
            · cases ef0
          · exact w'.elim
        · exact w'.elim
section
open PySem.Spec PyProof.Rows
variable [TC] {o i value : Expr} {tpos pos : Pos} {td ty tv : TE}
theorem ps_laug {op : Operator} {rd : V → V → Hp → VK → Prop} (ho : PE X o td) (hi : PE X i ty) (hv : PE X value tv) (hop : InOp X op rd)
    (ha : ∀ ov iv new, augStore i ov iv new = (do holding [new, ov, iv] (setItem ov iv new); release [new, ov, iv] []; pure .next)) :
    PS X (.AugAssign (.Subscript o i tpos) op value pos) (fun D σ H => td σ H fun x H1 => ty σ H1 fun y H2 => ∃ p xs k v, x = .ref p ∧ y = .int k ∧ 0 ≤ k ∧ H2 p = some (.lst xs) ∧ atI xs k = some v ∧
      tv σ H2 fun y2 H3 => rd v y2 H3 fun z H4 => rSetL (.ref p) (.int k) z H4 fun H5 => D.nx σ H5) := by
  refine ⟨fun pins s σ H D I h => ?_⟩
  refine wpAny_AugAssign_SubscriptAny (thn (ho.run pins s σ H _ I h) fun u s1 ⟨x, H1, I1, rx, q1⟩ => thn (hi.run pins s1 σ H1 _ I1 q1) fun iv s2 ⟨y, H2, I2, ry, p, xs, k, v, ex, ey, k0, hp, hat, q2⟩ => ?_) ha
  subst ex ey
  cases rx
  obtain ⟨t, rfl⟩ := ry
  obtain ⟨its, r, pl, hz⟩ := I2.list (.inl (.inl hp))
  obtain ⟨j, h1, h2, h3, h4, h5⟩ := atI_get hat
  obtain ⟨w, ew, rw'⟩ := r.get h2
  have hl := r.length
  have hn := line63
  have hj : k.toNat = j := by
    rw [seqIndex_of k0 h5] at h1
    exact Option.some.inj h1
  refine wpAny_getItem_list pl.isList k0 (by omega) (x := w) (by rw [hj]; simpa using ew) ?_
  refine thn (hv.run pins s2 σ H2 _ I2 q2) fun w2 s4 ⟨y2, H3, I4, ry2, q3⟩ => thn (hop pins s4 σ H3 v y2 w w2 _ I4 rw' ry2 q3) fun w3 s5 ⟨z, H4, I5, rz, q4⟩ => ?_
  exact thn (set_list pins s5 σ H4 (.ref p) (.int k) z _ _ _ _ I5 rfl ⟨t, rfl⟩ rz q4) fun _ s6 ⟨H5, I6, q5⟩ => ⟨σ, H5, I6, q5⟩
end
theorem ev_toInt {env : Env} {kk : E} {m : Int} (qk : (ev Φ gl env kk).bind asInt = .ok m) : ev Φ gl env kk = .ok (.val (.int m)) := by
  cases q5 : ev Φ gl env kk with
  | exc x => rw [q5] at qk; cases qk
  | stk => rw [q5] at qk; cases qk
  | ok g5 => rw [q5] at qk; rw [asInt_of qk]
theorem snd_augi (C : Cst X CX XE tb sc Φ gl cA) {n : Nat} {r : Expr} {p pos : Pos} {e ke : Expr} {a kk : E} {pl : Pl} {op : Operator} {sub : Bool} (hop : (op = .Add ∧ sub = false) ∨ (op = .Sub ∧ sub = true)) (hx : toPl tb sc n r = some pl) (hk : toE tb sc n ke = some kk) (he : toE tb sc n e = some a) :
    SndSt X Φ gl cA P (.AugAssign (.Subscript r ke p) op e pos) (.augi pl kk sub a) := by
  intro k env σ HP H O D s w
  have asg : ∀ ov iv new, augStore ke ov iv new = (do holding [new, ov, iv] (setItem ov iv new); release [new, ov, iv] []; pure .next) := by
    intro ov iv new
    cases n with
    | zero => cases hk
    | succ n => cases ke <;> first | rfl | (simp [toE] at hk; done)
  unfold exec at w
  cases q1 : evPl Φ gl env pl with
  | exc x => rw [q1] at w; exact w.elim
  | stk => rw [q1] at w; exact w.elim
  | ok ij =>
    obtain ⟨i, js⟩ := ij
    rw [q1] at w
    simp only at w
    cases qk : (ev Φ gl env kk).bind asInt with
    | exc x => rw [qk] at w; exact w.elim
    | stk => rw [qk] at w; exact w.elim
    | ok m =>
      rw [qk] at w
      simp only at w
      have qk' := ev_toInt qk
      cases qi : itemI env i js m with
      | none => rw [qi] at w; exact w.elim
      | some x0 =>
        rw [qi] at w
        simp only at w
        cases qe : (ev Φ gl env a).bind asInt with
        | exc x => rw [qe] at w; exact w.elim
        | stk => rw [qe] at w; exact w.elim
        | ok b =>
          rw [qe] at w
          simp only at w
          have qe' := ev_toInt qe
          unfold itemI at qi
          split at qi
          · rename_i g0 e0
            split at qi
            · rename_i gs0 ea
              split at qi
              · rename_i m0
                split at qi
                · rename_i z ez
                  cases qi
                  obtain ⟨v0, p0, a0, va, W⟩ := place_ok C hx s q1 e0 ea
                  have run : ∀ {rd : V → V → Hp → VK → Prop}, InOp X op rd → (∀ (H' : Hp) (Q : VK), Q (.int (if sub then x0 - b else x0 + b)) H' → rd (.int x0) (.int b) H' Q) → wpS X (.AugAssign (.Subscript r ke p) op e pos) D σ H := fun {rd} hin hrd => by
                    refine ⟨_, ps_laug peE peE peE hin asg, ?_⟩
                    refine W _ fun HP2 H2 s2 st2 => ?_
                    refine toE_ok C.c _ _ _ hk env σ HP2 H2 H2 _ s2.pv s2.hs s2.eP ?_
                    rw [qk']
                    intro y HP3 H3 O2 rgk _ _ st3
                    have ey : y = .int m := rgk.1
                    subst ey
                    have s3 := s2.step st3
                    obtain ⟨w0, pp, vs, a1, va1, h1, hl1, _⟩ := s3.chgAt (Og := []) e0 ea s3.nd (fun _ z => nomatch z)
                    rw [a0] at a1; cases a1
                    cases (va.mono (st2.trans st3).ex).det va1
                    obtain ⟨u0, O9, b9, rg9⟩ := s3.rs.get e0
                    obtain ⟨pN, vsN, O', C', vaN, owN, rsN, _⟩ := rg9.node ea
                    rw [a0] at b9; cases b9
                    cases va1.det vaN
                    have : vsN = vs := Own.det (k := .lst) owN h1
                    subst this
                    obtain ⟨v, Ov, ev, rv, _⟩ := rsN.at ez
                    have ei : v = .int x0 := rv.1
                    subst ei
                    refine ⟨p0, vsN, m, .int x0, rfl, rfl, m0, h1, ev, ?_⟩
                    refine toE_ok C.c _ _ _ he env σ HP3 H3 H3 _ s3.pv s3.hs s3.eP ?_
                    rw [qe']
                    intro y2 HP4 H4 O4 rgb _ _ st4
                    have ey : y2 = .int b := rgb.1
                    subst ey
                    have s4 := s3.step st4
                    refine hrd H4 _ ?_
                    have st := (st2.trans st3).trans st4
                    obtain ⟨gs, vs4, gs', ea2, ef, h4, hl4, K⟩ := chg_w (Og := []) (σ0 := σ) s4 s4.nd (fun _ z => nomatch z) (fun _ _ => rfl) w e0 a0 (va.mono st.ex)
                    have ef0 := ef
                    unfold setF at ef0
                    split at ef0
                    · rename_i j hj
                      refine ⟨p0, vs4, m, j, rfl, rfl, h4, by rw [← hl4]; exact hj, ?_⟩
                      refine K (vs4.set j (.int (if sub then x0 - b else x0 + b))) fun O' r' => ?_
                      obtain ⟨j', O'', hj', r'', pm⟩ := RGs.setv' (v := .int (if sub then x0 - b else x0 + b)) (Og := []) ef ⟨rfl, rfl⟩ r'
                      rw [hj] at hj'
                      cases hj'
                      rw [List.append_nil] at pm
                      exact ⟨O'', r'', fun q hq => .inl (pm.mem_iff.mp hq), fun n1 _ => pm.nodup_iff.mpr n1⟩
                    · cases ef0
                  rcases hop with ⟨rfl, rfl⟩ | ⟨rfl, rfl⟩
                  · exact run in_add fun H' Q q => ⟨x0, b, rfl, rfl, q⟩
                  · exact run in_sub fun H' Q q => ⟨x0, b, rfl, rfl, q⟩
                · cases qi
              · cases qi
            · cases qi
          · cases qi
end
end Bv
set_option maxRecDepth 100000
set_option maxHeartbeats 2000000
/-! Part 17b: fields stored. -/
namespace Bv
open PySem L2
section
variable [TC] {X : Cx} {CX : CXT} {XE : XK} {tb : Tb} {sc : Scope} {Φ : Fns} {gl : Str → Option T} {cA : CA} {P : List Nat}
theorem fldPut_ok {HP HB H : Hp} {f : Str} {g : G} {v : V} {Og : List Addr} : ∀ {ns : List Str} {gs : List G} {vs : List V} {O : List Addr} {ns' : List Str} {gs' : List G}, ns.length = vs.length → RGs cA HP HB H gs vs O → fldPut f g ns gs = some (ns', gs') → RG cA HP HB H g v Og →
    ∃ vs' O', ns'.length = vs'.length ∧ ns'.zip vs' = putF f v (ns.zip vs) ∧ RGs cA HP HB H gs' vs' O' ∧ O'.Perm (O ++ Og)
  | [], [], vs, O, ns', gs', hl, r, h, rg => by
    cases h
    obtain ⟨rfl, rfl⟩ := r
    exact ⟨[v], Og, rfl, rfl, ⟨v, [], Og, [], rfl, rg, ⟨rfl, rfl⟩, by simp⟩, .refl _⟩
  | [], _ :: _, vs, O, ns', gs', hl, r, h, rg => by cases h
  | _ :: _, [], vs, O, ns', gs', hl, r, h, rg => by cases h
  | n :: ns, x :: gs, vs, O, ns', gs', hl, ⟨w, rr, O1, O2, h1, h2, h3, h4⟩, h, rg => by
    subst h1 h4
    unfold fldPut at h
    split at h
    · rename_i en
      split at h
      · rename_i hx
        cases h
        cases x with
        | val t =>
          have : O1 = [] := h2.2
          subst this
          refine ⟨v :: rr, Og ++ O2, by simpa using hl, ?_, ⟨v, rr, Og, O2, rfl, rg, h3, rfl⟩, List.perm_append_comm⟩
          simp only [List.zip_cons_cons, putF, en, if_true]
        | nod o k gs => simp [G.val?] at hx
      · cases h
    · rename_i en
      cases q : fldPut f g ns gs with
      | none => rw [q] at h; cases h
      | some p =>
        obtain ⟨ns1, gs1⟩ := p
        rw [q] at h
        cases h
        obtain ⟨vs', O', a, b, c, d⟩ := fldPut_ok (by simpa using hl) h3 q rg
        refine ⟨w :: vs', O1 ++ O', by simp [a], ?_, ⟨w, vs', O1, O', rfl, h2, c, rfl⟩, by rw [List.append_assoc]; exact List.Perm.append_left O1 d⟩
        simp only [List.zip_cons_cons, putF, en, if_false, b]
theorem snd_setf (C : Cst X CX XE tb sc Φ gl cA) {n : Nat} {x f : Str} {px apos pos : Pos} {e : Expr} {a : E} {i : Nat} (hx : toE tb sc n (.Name x px) = some (.var i)) (he : toE tb sc n e = some a) :
    SndSt X Φ gl cA P (.Assign [.Attribute (.Name x px) f apos] e pos) (.setf i f a) := by
  intro k env σ HP H O D s w
  refine ⟨_, ps_fld peE peE (swaps_nn (fun _ _ z => by cases z) _ _), ?_⟩
  unfold exec at w
  show wpE X e σ H fun y H1 => wpE X (.Name x px) σ H1 fun xv H2 => ∃ a C dx fs, xv = .ref a ∧ H2 a = some (.ins C dx fs) ∧ Cls X.K C ∧ NoAttr X.K C f ∧ fs.length < 1000 ∧ D.nx σ (L2.upd H2 a (.ins C dx (putF f y fs)))
  refine toE_okS C.c n e a he (P := i :: P) (mv := false) k env σ HP H O _ s ?_
  cases q : evS Φ gl (i :: P) false env a with
  | exc x => rw [q] at w; exact w.elim
  | stk => rw [q] at w; exact w.elim
  | ok pr =>
    obtain ⟨g, env1⟩ := pr
    rw [q] at w
    intro v HP1 H1 Og O1 rg s1 nd mine sub stO
    simp only at w
    unfold chgA at w
    split at w
    · rename_i g0 e0
      split at w
      · rename_i kd gs ea
        split at w
        · rename_i pp0 hf
          obtain ⟨kd', gs'⟩ := pp0
          obtain ⟨v0, p, vs, a0, va, ow, hl, K⟩ := s1.chgAtN e0 ea nd mine
          have va : V.ref p = v0 := va
          subst va
          have pin := evS_pin (P := i :: P) List.mem_cons_self a q
          refine wpE_var C.c hx a0 ?_
          unfold fldF at hf
          split at hf
          · rename_i C0 ns
            split at hf
            · rename_i hc
              simp only [Bool.and_eq_true, decide_eq_true_eq] at hc
              cases q3 : fldPut f g ns gs with
              | none => rw [q3] at hf; cases hf
              | some pp =>
                obtain ⟨ns1, gs1⟩ := pp
                rw [q3] at hf
                cases hf
                obtain ⟨hlv, dx, hp⟩ := ow
                obtain ⟨c1, c2⟩ := C.c.fl C0 f hc.1
                refine ⟨p, _, dx, _, rfl, hp, c1, c2, by rw [List.length_zip]; omega, ?_⟩
                obtain ⟨_, _, _, _, rs9, _⟩ := s1.rs.hide e0
                obtain ⟨u0, O9, b9, rg9⟩ := s1.rs.get e0
                obtain ⟨pN, vsN, ON, CN, vaN, owN, rsN, _⟩ := rg9.node ea
                obtain ⟨vs', O', z1, z2, z3, z4⟩ := fldPut_ok (O := ON) (vs := vs) hlv (by
                  rw [a0] at b9; cases b9
                  have vaN : V.ref pN = V.ref p := vaN
                  cases vaN
                  have := Own.det (k := .ins C0 ns) owN ⟨hlv, dx, hp⟩
                  subst this
                  exact rsN) q3 rg
                obtain ⟨O1, s2⟩ := K (.ins C0 ns1) (.ins (cA.ad C0) dx (putF f v (ns.zip vs))) gs1 vs' ⟨z1, dx, by rw [upd_same, z2]⟩ fun O2 r2 => by
                  obtain ⟨vs2, O3, y1, y2, y3, y4⟩ := fldPut_ok hlv r2 q3 rg
                  have hvs : vs2 = vs' := by
                    have e := congrArg (List.map Prod.snd) (y2.trans z2.symm)
                    rwa [List.map_snd_zip (by omega), List.map_snd_zip (by omega)] at e
                  subst hvs
                  exact ⟨O3, y3, fun q hq => List.mem_append.mp (y4.mem_iff.mp hq), fun n1 n2 => y4.nodup_iff.mpr (List.nodup_append.mpr ⟨n1, (List.nodup_append.mp nd).1, fun x hx y hy e => n2 x hx (by rw [e]; exact hy)⟩)⟩
                exact w σ HP1 _ O1 s2 fun _ _ => rfl
            · cases hf
          · cases hf
        · exact w.elim
      · exact w.elim
    · exact w.elim
/-! a dict of ints -/
theorem zip_put {k : Key} {v : V} : ∀ {kk : List Key} {vs : List V}, (kk.zip vs).map (fun kv => if kv.1 = k then (kv.1, v) else kv) = kk.zip (List.zipWith (fun a b => if a = k then v else b) kk vs)
  | [], _ => rfl
  | _ :: _, [] => rfl
  | a :: kk, b :: vs => by
    rw [List.zip_cons_cons, List.map_cons, List.zipWith_cons_cons, List.zip_cons_cons, zip_put]
    by_cases e : a = k
    · simp [e]
    · simp [e]
theorem rts_put {HP : Hp} {n : Int} {t : T} {v : V} (rt : RT cA HP t v) : ∀ {kk : List Key} {ts : List T} {vs : List V}, RTs cA HP ts vs →
    RTs cA HP (List.zipWith (fun k x => if k = (.inl (.inl n) : DK) then t else x) (kk.map Sum.inl) ts) (List.zipWith (fun a b => if a = (.inl n : Key) then v else b) kk vs)
  | [], _, _, h => by simp; rfl
  | _ :: _, [], _, h => by
    have : _ = [] := h
    subst this
    simp; rfl
  | a :: kk, x :: ts, vs, h => by
    obtain ⟨w, r, h1, h2, h3⟩ := h
    subst h1
    rw [List.map_cons, List.zipWith_cons_cons, List.zipWith_cons_cons]
    refine ⟨_, _, rfl, ?_, rts_put rt h3⟩
    by_cases e : a = (.inl n : Key)
    · rw [if_pos e, if_pos (by rw [e])]; exact rt
    · rw [if_neg e, if_neg fun z => e (Sum.inl.inj z)]; exact h2
theorem dk_any : ∀ {kk : List Key} {vs : List V} (k : Key), kk.length = vs.length → ((kk.zip vs).any fun kv => decide (kv.1 = k)) = (kk.map (Sum.inl : Key → DK)).any fun x => decide (x = .inl k)
  | [], vs, k, _ => by simp
  | a :: kk, [], k, h => by cases h
  | a :: kk, v :: vs, k, h => by
    have ih := dk_any (kk := kk) (vs := vs) k (by simpa using h)
    rw [List.zip_cons_cons, List.any_cons, List.map_cons, List.any_cons, ih]
    congr 1
    by_cases e : a = k
    · simp [e]
    · rw [decide_eq_false e, decide_eq_false fun z => e (Sum.inl.inj z)]
theorem snd_setk (C : Cst X CX XE tb sc Φ gl cA) {n : Nat} {x : Str} {px ps pos : Pos} {ke e : Expr} {kk a : E} {i : Nat} (hx : toE tb sc n (.Name x px) = some (.var i)) (hk : toE tb sc n ke = some kk) (he : toE tb sc n e = some a) :
    SndSt X Φ gl cA P (.Assign [.Subscript (.Name x px) ke ps] e pos) (.setk i kk a) := by
  intro k env σ HP H O D s w
  refine ⟨_, ps_dput (by have := C.c.un; omega) peE peE peE (swaps_nn (fun _ _ z => by cases z) _ _), ?_⟩
  unfold exec at w
  show wpE X e σ H fun v H1 => wpE X (.Name x px) σ H1 fun xv H2 => wpE X ke σ H2 fun y H3 => ∃ a H4, xv = .ref a ∧ DPut H3 a y v H4 ∧ D.nx σ H4
  split at w
  · rename_i t m q1 q2
    refine toE_ok C.c _ _ _ he env σ HP H H _ s.pv s.hs s.eP ?_
    rw [q1]
    intro v HP1 H1 Og rg _ _ st1
    have s1 := s.step st1
    unfold chgA at w
    split at w
    · rename_i g0 e0
      split at w
      · rename_i kd gs ea
        have ea : some g0 = some (.nod true kd gs) := ea
        cases ea
        obtain ⟨v0, _, a0, _⟩ := s1.rs.get e0
        refine wpE_var C.c hx a0 ?_
        refine toE_ok C.c _ _ _ hk env σ HP1 H1 H1 _ s1.pv s1.hs s1.eP ?_
        rw [q2]
        intro y HP2 H2 Ok rk _ _ st2
        obtain rfl : y = .int m := rk.1
        have s2 := s1.step st2
        have rt : RT cA HP2 t v := rg.1.mono st2.exP
        obtain ⟨v1, p, vs, b0, va, ow, hl, K⟩ := s2.chgAtN (Og := []) (js := []) e0 rfl s2.nd (fun _ z => nomatch z)
        rw [a0] at b0
        cases b0
        have va : V.ref p = v0 := va
        subst va
        split at w
        · rename_i pp hf
          unfold putD at hf
          split at hf
          · rename_i ks gs1
            split at hf
            · rename_i ts hts
              split at hf
              · rename_i hsz
                obtain ⟨o, ⟨kq, rfl, hlk, rfl⟩, hp⟩ := ow
                have dp := DPut.k (k := (.inl m : Key)) (v := v) hp (by rw [List.length_zip, hlk, Nat.min_self, ← hl]; exact hsz)
                refine ⟨p, _, rfl, dp, ?_⟩
                unfold putK
                rw [dk_any _ hlk]
                split at hf
                · rename_i hany
                  cases hf
                  rw [if_pos hany, zip_put]
                  obtain ⟨O1, s3⟩ := K (.dct (kq.map Sum.inl)) (.dK (kq.zip (List.zipWith (fun a b => if a = (.inl m : Key) then v else b) kq vs))) _ (List.zipWith (fun a b => if a = (.inl m : Key) then v else b) kq vs)
                    ⟨_, ⟨kq, rfl, by rw [List.length_zipWith, hlk, Nat.min_self], rfl⟩, upd_same⟩ fun O' r' => ⟨[], (rts_put rt (r'.vals hts).1).toG, (fun _ z => nomatch z), fun _ _ => List.nodup_nil⟩
                  exact w σ HP2 _ O1 s3 fun _ _ => rfl
                · rename_i hany
                  cases hf
                  rw [if_neg hany]
                  have ez : kq.zip vs ++ [((.inl m : Key), v)] = (kq ++ [(.inl m : Key)]).zip (vs ++ [v]) := by rw [List.zip_append hlk]; rfl
                  rw [ez]
                  have one : RTs cA HP2 [t] [v] := ⟨v, [], rfl, rt, rfl⟩
                  obtain ⟨O1, s3⟩ := K (.dct (kq.map Sum.inl ++ [.inl (.inl m)])) (.dK ((kq ++ [(.inl m : Key)]).zip (vs ++ [v]))) _ (vs ++ [v])
                    ⟨_, ⟨kq ++ [(.inl m : Key)], by rw [List.map_append]; rfl, by rw [List.length_append, List.length_append, hlk]; rfl, rfl⟩, upd_same⟩ fun O' r' => ⟨[], ((r'.vals hts).1.append one).toG, (fun _ z => nomatch z), fun _ _ => List.nodup_nil⟩
                  exact w σ HP2 _ O1 s3 fun _ _ => rfl
              · cases hf
            · cases hf
          · cases hf
        · exact w.elim
      · exact w.elim
    · exact w.elim
  · exact w.elim
theorem toPl_name {n : Nat} {x : Str} {px : Pos} {i : Nat} (h : toE tb sc n (.Name x px) = some (.var i)) : toPl tb sc n (.Name x px) = some (.var i) := by
  unfold toPl
  rw [h]
theorem RGs.takeS {HP HB H : Hp} : ∀ {gs : List G} {vs : List V} {O : List Addr} (n : Nat), RGs cA HP HB H gs vs O → ∃ O'', RGs cA HP HB H (gs.take n) (vs.take n) O'' ∧ (∀ q ∈ O'', q ∈ O) ∧ (O.Nodup → O''.Nodup)
  | [], _, _, n, h => by obtain ⟨rfl, rfl⟩ := h; exact ⟨[], by simp only [List.take_nil]; exact ⟨rfl, rfl⟩, (fun _ z => z), id⟩
  | _ :: _, _, _, 0, h => ⟨[], ⟨rfl, rfl⟩, (fun _ z => nomatch z), fun _ => List.nodup_nil⟩
  | _ :: _, _, _, n + 1, ⟨w, r, O1, O2, h1, h2, h3, h4⟩ => by
    subst h1 h4
    obtain ⟨O3, a, b, c⟩ := RGs.takeS n h3
    refine ⟨O1 ++ O3, ⟨w, _, O1, O3, rfl, h2, a, rfl⟩, fun q hq => (List.mem_append.mp hq).elim (fun z => List.mem_append_left _ z) fun z => List.mem_append_right _ (b q z), fun nd => ?_⟩
    have n1 := List.nodup_append.mp nd
    exact List.nodup_append.mpr ⟨n1.1, c n1.2.1, fun x hx y hy e => n1.2.2 x hx y (b y hy) e⟩
theorem RGs.snoc {HP HB H : Hp} {g : G} {v : V} {Og : List Addr} {gs : List G} {vs : List V} {O : List Addr} (h : RGs cA HP HB H gs vs O) (r : RG cA HP HB H g v Og) : RGs cA HP HB H (gs ++ [g]) (vs ++ [v]) (O ++ Og) := h.app r
theorem RGs.rev {HP HB H : Hp} : ∀ {gs : List G} {vs : List V} {O : List Addr}, RGs cA HP HB H gs vs O → ∃ O'', RGs cA HP HB H gs.reverse vs.reverse O'' ∧ O''.Perm O
  | [], _, _, h => by obtain ⟨rfl, rfl⟩ := h; exact ⟨[], ⟨rfl, rfl⟩, .refl _⟩
  | _ :: _, _, _, ⟨w, r, O1, O2, h1, h2, h3, h4⟩ => by
    subst h1 h4
    obtain ⟨O3, a, b⟩ := RGs.rev h3
    refine ⟨O3 ++ O1, by rw [List.reverse_cons, List.reverse_cons]; exact a.snoc h2, ?_⟩
    exact (List.Perm.append_right O1 b).trans List.perm_append_comm
theorem lm_ok {HP HB H : Hp} {m : LM} {gs gs' : List G} (hf : lmF m gs = some gs') : (m = .pop ∧ gs ≠ [] ∧ gs' = gs.take (gs.length - 1)) ∨ (m = .clear ∧ gs' = []) ∨ (m = .rev ∧ gs' = gs.reverse) := by
  cases m with
  | pop =>
    unfold lmF at hf
    simp only at hf
    split at hf
    · cases hf
    · rename_i h
      cases hf
      exact .inl ⟨rfl, fun z => by rw [z] at h; exact h rfl, List.dropLast_eq_take⟩
  | clear => cases hf; exact .inr (.inl ⟨rfl, rfl⟩)
  | rev => cases hf; exact .inr (.inr ⟨rfl, rfl⟩)
theorem snd_lm (C : Cst X CX XE tb sc Φ gl cA) {n : Nat} {r : Expr} {apos cpos pos : Pos} {pl : Pl} {m : LM} (hx : toPl tb sc n r = some pl) (hl : (apos.endLine == cpos.line) = true) :
    SndSt X Φ gl cA P (.Expr (.Call (.Attribute r (lmName m) apos) [] [] cpos) pos) (.lm pl m) := by
  intro k env σ HP H O D s w
  have hbase : attributeBase r (lmName m) X.env (eval r X.env) = eval r X.env := by
    unfold toPl at hx
    split at hx
    · rfl
    · rfl
    · cases hx
  unfold exec at w
  cases q1 : evPl Φ gl env pl with
  | exc x => rw [q1] at w; exact w.elim
  | stk => rw [q1] at w; exact w.elim
  | ok ij =>
    obtain ⟨i, js⟩ := ij
    rw [q1] at w
    simp only at w
    have w' := w
    unfold chgO at w'
    split at w'
    · rename_i g0 e0
      split at w'
      · rename_i gs0 ea
        obtain ⟨v0, p, a0, va, W⟩ := place_ok C hx s q1 e0 ea
        have core : ∀ Q : VK, (∀ H0 vs gs gs', H0 p = some (.lst vs) → gs.length = vs.length → lmF m gs = some gs' → (∀ vs' : List V, (m = .pop → vs' = vs.take (vs.length - 1)) → (m = .clear → vs' = []) → (m = .rev → vs' = vs.reverse) → D.nx σ (L2.upd H0 p (.lst vs'))) → Q (.ref p) H0) → wpE X r σ H Q := fun Q hQ => by
          refine W _ fun HP0 H0 s0 st0 => ?_
          obtain ⟨gs, vs, gs', ea2, ef, h1, hl2, K⟩ := chg_w (Og := []) (σ0 := σ) s0 s0.nd (fun _ z => nomatch z) (fun _ _ => rfl) w e0 a0 (va.mono st0.ex)
          refine hQ H0 vs gs gs' h1 hl2 ef fun vs' c1 c2 c3 => K vs' fun O' r' => ?_
          rcases lm_ok (HP := HP) (HB := HP) (H := HP) ef with ⟨hm, _, rfl⟩ | ⟨hm, rfl⟩ | ⟨hm, rfl⟩
          · rw [c1 hm]
            obtain ⟨O'', x1, x2, x3⟩ := r'.takeS (vs.length - 1)
            rw [hl2]
            exact ⟨O'', x1, fun q hq => .inl (x2 q hq), fun n1 _ => x3 n1⟩
          · rw [c2 hm]
            exact ⟨[], ⟨rfl, rfl⟩, (fun _ z => nomatch z), fun _ _ => List.nodup_nil⟩
          · rw [c3 hm]
            obtain ⟨O'', x1, x2⟩ := r'.rev
            exact ⟨O'', x1, fun q hq => .inl (x2.mem_iff.mp hq), fun n1 _ => x2.nodup_iff.mpr n1⟩
        cases m with
        | pop =>
          refine ⟨_, ps_expr (pe_bm0 PySem.F.plainAttrs_list PySem.F.slot_list_pop PySem.F.type_list_pop mt_pop peE hbase hl) rfl, ?_⟩
          refine core _ fun H0 vs gs gs' h1 hl2 ef K => ⟨.inl ⟨rfl, vs, .inl (.inl h1)⟩, ?_⟩
          rcases lm_ok (HP := HP) (HB := HP) (H := HP) ef with ⟨_, ne, _⟩ | ⟨z, _⟩ | ⟨z, _⟩
          · have hpos : 0 < vs.length := by
              rw [← hl2]
              exact List.length_pos_iff.mpr ne
            exact ⟨p, vs, vs[vs.length - 1], rfl, rfl, h1, List.getElem?_eq_getElem (by omega), by rw [List.dropLast_eq_take]; exact K _ (fun _ => rfl) (fun z => by cases z) (fun z => by cases z)⟩
          · cases z
          · cases z
        | clear =>
          refine ⟨_, ps_expr (pe_bm0 PySem.F.plainAttrs_list PySem.F.slot_list_clear PySem.F.type_list_clear mt_clear peE hbase hl) rfl, ?_⟩
          refine core _ fun H0 vs gs gs' h1 hl2 ef K => ⟨.inl ⟨rfl, vs, .inl (.inl h1)⟩, ?_⟩
          exact ⟨p, vs, rfl, rfl, h1, K _ (fun z => by cases z) (fun _ => rfl) (fun z => by cases z)⟩
        | rev =>
          refine ⟨_, ps_expr (pe_bm0 PySem.F.plainAttrs_list PySem.F.slot_list_reverse PySem.F.type_list_reverse mt_reverse peE hbase hl) rfl, ?_⟩
          refine core _ fun H0 vs gs gs' h1 hl2 ef K => ⟨.inl ⟨rfl, vs, .inl (.inl h1)⟩, ?_⟩
          exact ⟨p, vs, rfl, rfl, h1, K _ (fun z => by cases z) (fun z => by cases z) (fun _ => rfl)⟩
      · exact w'.elim
    · exact w'.elim
end
end Bv
set_option maxRecDepth 100000
set_option maxHeartbeats 2000000
/-! Part 17c: calls that are lent an owned list. -/
namespace Bv
open PySem L2
section
variable {cA : CA} {HP HB H : Hp}
theorem Own.mnR {L : List Addr} {k : Kd} {p : Addr} {vs : List V} (n : p ∉ L) (h : Own cA H k p vs) : Own cA (mn H L) k p vs := by
  have e : mn H L p = H p := by unfold mn; rw [if_neg n]
  cases k with
  | tup => exact e.trans h
  | lst => exact e.trans h
  | dct ks => obtain ⟨o, h1, h2⟩ := h; exact ⟨o, h1, e.trans h2⟩
  | ins C ns => obtain ⟨h1, dx, h2⟩ := h; exact ⟨h1, dx, e.trans h2⟩
mutual
theorem RG.mnR {L : List Addr} : ∀ {g : G} {v : V} {O : List Addr}, (∀ p ∈ O, p ∉ L) → RG cA HP HB H g v O → RG cA HP HB (mn H L) g v O
  | .val _, _, _, _, h => h
  | .nod true k gs, _, _, n, ⟨q, vs, O', h1, h2, h3, h4⟩ => by
    subst h4
    exact ⟨q, vs, O', h1, h2.mnR (n q List.mem_cons_self), RGs.mnR (fun p z => n p (List.mem_cons_of_mem _ z)) h3, rfl⟩
  | .nod false _ _, _, _, n, ⟨q, vs, h1, h2, h3⟩ => ⟨q, vs, h1, h2, RGs.mnR n h3⟩
theorem RGs.mnR {L : List Addr} : ∀ {gs : List G} {vs : List V} {O : List Addr}, (∀ p ∈ O, p ∉ L) → RGs cA HP HB H gs vs O → RGs cA HP HB (mn H L) gs vs O
  | [], _, _, _, h => h
  | _ :: _, _, _, n, ⟨v, r, O1, O2, h1, h2, h3, h4⟩ => by
    subst h4
    exact ⟨v, r, O1, O2, h1, RG.mnR (fun p z => n p (List.mem_append_left _ z)) h2, RGs.mnR (fun p z => n p (List.mem_append_right _ z)) h3, rfl⟩
end
theorem RS.mnR {L : List Addr} : ∀ {env : Env} {σ : St} {O : List Addr}, (∀ p ∈ O, p ∉ L) → RS cA HP HB H env σ O → RS cA HP HB (mn H L) env σ O
  | [], _, _, _, h => h
  | none :: _, _, _, n, ⟨o, r, h1, h2⟩ => ⟨o, r, h1, RS.mnR n h2⟩
  | some _ :: _, _, _, n, ⟨v, r, O1, O2, h1, h2, h3, h4⟩ => by
    subst h4
    exact ⟨v, r, O1, O2, h1, h2.mnR (fun p z => n p (List.mem_append_left _ z)), RS.mnR (fun p z => n p (List.mem_append_right _ z)) h3, rfl⟩
end
section
variable [TC] {X : Cx} {CX : CXT} {XE : XK} {tb : Tb} {sc : Scope} {Φ : Fns} {gl : Str → Option T} {cA : CA} {P : List Nat}
/-- back from a call that was lent what a slot holds -/
theorem SR.lent {k : Fk} {HP H : Hp} {env : Env} {σ : St} {O : List Addr} (s : SR cA k HP H env σ O) {i : Nat} {g g' : G} {v : V} {Oi O2 : List Addr} (ei : i < env.length) (a1 : σ[i]? = some (some v)) (r1 : RG cA HP k.HB H g v Oi) (r2 : RS cA HP k.HB H (env.set i none) σ O2) (pm : O.Perm (Oi ++ O2))
    {HP2 H2 : Hp} {O' : List Addr} (r3 : RG cA HP2 k.HB H2 g' v O') (nd : O'.Nodup) (fr : ∀ p ∈ O', (H p = none ∨ p ∈ Oi) ∧ HP2 p = none) (st : StepL HP H Oi HP2 H2) : ∃ O3, SR cA k HP2 H2 (env.set i (some g')) σ O3 := by
  have nd0 := pm.nodup_iff.mp s.nd
  have dis : ∀ p ∈ O2, p ∉ Oi := fun p hp z => (List.nodup_append.mp nd0).2.2 p z p hp rfl
  have mi : ∀ p ∈ Oi, k.mine HP p := fun p hp => s.own0 p (pm.mem_iff.mpr (List.mem_append_left _ hp))
  have m2 : ∀ p ∈ O2, k.mine HP p := fun p hp => s.own0 p (pm.mem_iff.mpr (List.mem_append_right _ hp))
  have r2' := (r2.mnR dis).mono st.exP (Ex.refl _) st.ex
  obtain ⟨O3, r4, pm3⟩ := r2'.fill (i := i) (by rw [List.getElem?_set_self ei]) a1 r3
  rw [List.set_set] at r4
  have hb : ∀ p ∈ Oi, k.HB p = none := fun p hp => by
    unfold Fk.HB mn
    rcases (mi p hp).1 with z | z
    · split <;> first | rfl | exact z
    · rw [if_pos z]
  refine ⟨O3, r4, st.tb s.tb, pm3.nodup_iff.mpr (List.nodup_append.mpr ⟨nd, (List.nodup_append.mp nd0).2.1, fun a ha b hb e => ?_⟩), fun p hp => ?_, st.sees, (s.eB.mnR hb).trans st.ex, (s.eX.mnR fun p hp => (mi p hp).2.2).trans st.ex, s.ex0.trans st.exP, fun p hp => ?_⟩
  · subst e
    rcases (fr a ha).1 with z | z
    · obtain ⟨o, q⟩ := r2.ownIn a hb
      rw [z] at q; cases q
    · exact dis a hb z
  · rcases List.mem_append.mp (pm3.mem_iff.mp hp) with z | z
    · obtain ⟨x, y⟩ := fr p z
      rcases x with x | x
      · obtain ⟨c1, c2⟩ := s.free x
        exact ⟨c1, y, c2⟩
      · exact ⟨(mi p x).1, y, (mi p x).2.2⟩
    · refine ⟨(m2 p z).1, ?_, (m2 p z).2.2⟩
      cases q : HP2 p with
      | none => rfl
      | some u =>
        rcases st.new p (by rw [q]; simp) with c | c | c
        · exact absurd (m2 p z).2.1 c
        · obtain ⟨o, y⟩ := r2.ownIn p z
          rw [c] at y; cases y
        · exact absurd c (dis p z)
  · rcases st.new p hp with c | c | c
    · exact s.new0 p c
    · exact .inr (s.free c)
    · exact .inr ⟨(mi p c).1, (mi p c).2.2⟩
theorem lndR_ok {i : Nat} {f : Str} {env env1 : Env} {o : Option (Option G)} {r : Res G} {n : Int} (h : lndR Φ i f env o r = .ok (n, env1)) : ∃ kd gs t2 g', o = some (some (.nod true kd gs)) ∧ r = .ok (.val t2) ∧ G.frees gs = true ∧ Φ.call f [.nod true kd gs, .val t2] = .ok (.val (.int n)) [g'] ∧ g'.free = true ∧ env1 = env.set i (some g') := by
  unfold lndR at h
  split at h
  · split at h
    · rename_i hf
      split at h
      · rename_i hc
        split at h
        · rename_i hg
          cases h
          exact ⟨_, _, _, _, rfl, rfl, hf, hc, hg, rfl⟩
        · cases h
      · cases h
    · cases h
  · cases h
theorem lend_call (C : Cst X CX XE tb sc Φ gl cA) {n : Nat} {ow : List Nat} {ce : Expr} {i : Nat} {f : Str} {a : E} (h : lendC tb sc ow n ce = some (i, f, a)) {k : Fk} {HP H : Hp} {env env1 : Env} {σ : St} {O : List Addr} {m : Int} (s : SR cA k HP H env σ O)
    (hr : lndR Φ i f env env[i]? (ev Φ gl env a) = .ok (m, env1)) {Q : VK} (w : ∀ HP1 H1 O1, SR cA k HP1 H1 env1 σ O1 → Q (.int m) H1) : wpE X ce σ H Q := by
  obtain ⟨kd, gs, t2, g', e0, qe, f1, qc, f2, rfl⟩ := lndR_ok hr
  unfold lendC at h
  split at h
  · rename_i f0 p y py e pos
    split at h
    · rename_i i0 a0 e1 e2
      split at h
      · rename_i hc
        cases h
        simp only [Bool.and_eq_true] at hc
        obtain ⟨s1, _, s3⟩ := sane_of hc.1.2
        obtain ⟨fa, fd, ps, kk, hpl', hm, hk, hb, F, hrm⟩ := C.c.fn f 2 (beq_iff_eq.mp hc.2)
        refine ⟨_, pe_call F hrm (C.c.Gl hc.1.1.2) hm hk hb (.nil) (C.c.ps _) (pa_cons peE (pa_cons peE pa_nil (toE_star e2 _ _)) rfl) s1 rfl (by rw [toE_star e2]; rfl), ?_⟩
        obtain ⟨v0, O0, z1, z2⟩ := s.rs.get e0
        refine wpE_var C.c e1 z1 ?_
        refine toE_ok C.c n e a e2 env σ HP H H _ s.pv s.hs s.eP ?_
        rw [qe]
        intro v2 HP1 H1 O1 rg2 nd2 fr2 st
        obtain ⟨rt2, _⟩ := rg2
        have s1 := s.step st
        obtain ⟨v, Oi, O2, a1, r1, r2, pm⟩ := s1.rs.hide e0
        have hv : v0 = v := by rw [z1] at a1; exact Option.some.inj (Option.some.inj a1)
        subst hv
        have ff : (G.nod true kd gs).free = true := by unfold G.free; rw [f1]; rfl
        have ei : i < env.length := by
          rcases Nat.lt_or_ge i env.length with z | z
          · exact z
          · rw [List.getElem?_eq_none z] at e0; cases e0
        show spOf cA Φ f 2 ([v0, v2] ++ []) H1 Q XE
        refine ⟨rfl, s1.tb, HP1, [.nod true kd gs, .val t2], Oi, s1.eP, ⟨v0, [v2], Oi, [], rfl, r1.freeB ff, ⟨v2, [], [], [], rfl, ⟨rt2, rfl⟩, ⟨rfl, rfl⟩, rfl⟩, by simp⟩, (List.nodup_append.mp (pm.nodup_iff.mp s1.nd)).1, fun p hp => (s1.own0 p (pm.mem_iff.mpr (List.mem_append_left _ hp))).2.1, ?_⟩
        rw [qc]
        refine ⟨rfl, fun v HP2 H2 Or O' r5 r6 nd' fr' st2 => ?_⟩
        have hv : v = .int m := r5.1
        subst hv
        have r6 : RGs cA HP2 (mn H1 Oi) H2 [g'] [v0] O' := r6
        obtain ⟨v', r, Oa, Ob, y1, y2, y3, y4⟩ := r6
        obtain ⟨y5, y6⟩ := y3
        cases y1
        subst y6
        rw [List.append_nil] at y4
        subst y4
        obtain ⟨O3, s3⟩ := s1.lent ei a1 r1 r2 pm (y2.freeB f2) (List.nodup_append.mp nd').2.1 (fun p hp => fr' p (List.mem_append_right _ hp)) st2
        exact w HP2 H2 O3 s3
      · cases h
    · cases h
  · cases h
theorem lend_exp (C : Cst X CX XE tb sc Φ gl cA) {n : Nat} {ow : List Nat} {ce : Expr} {c : Option Int} {i : Nat} {f : Str} {a : E} (h : lendE tb sc ow n ce = some (c, i, f, a)) {k : Fk} {HP H : Hp} {env env1 : Env} {σ : St} {O : List Addr} {m : Int} (s : SR cA k HP H env σ O)
    (hr : lndR Φ i f env env[i]? (ev Φ gl env a) = .ok (m, env1)) {Q : VK} (w : ∀ HP1 H1 O1, SR cA k HP1 H1 env1 σ O1 → Q (.int (lndV c m)) H1) : wpE X ce σ H Q := by
  unfold lendE at h
  split at h
  · rename_i c0 j pc ce pos
    change (lendC tb sc ow n ce).map (fun x => (some c0, x)) = _ at h
    cases q : lendC tb sc ow n ce with
    | none => rw [q] at h; cases h
    | some x =>
      rw [q] at h
      cases h
      refine ⟨_, pe_op opW pe_int peE, ?_⟩
      show wpE X ce σ H fun y H1 => wpOp X (binaryOp .Add) (.int c0) y H1 Q
      exact lend_call C q s hr fun HP1 H1 O1 s1 => opI0' op_add (w HP1 H1 O1 s1)
  · cases q : lendC tb sc ow n ce with
    | none => rw [q] at h; cases h
    | some x =>
      rw [q] at h
      cases h
      exact lend_call C q s hr w
theorem lend_star {n : Nat} {ow : List Nat} {ce : Expr} {r : Option Int × Nat × Str × E} (h : lendE tb sc ow n ce = some r) (es : List Expr) (env : PySem.Env) : starEach (ce :: es) env = (false, eval ce env) :: starEach es env := by
  cases ce <;> first | rfl | (simp [lendE, lendC] at h; done)
theorem set_get_ne {α : Type} {l : List α} {i j : Nat} {x : α} (h : j ≠ i) : (l.set i x)[j]? = l[j]? := by rw [List.getElem?_set_ne (Ne.symm h)]
theorem snd_lndA (C : Cst X CX XE tb sc Φ gl cA) {n : Nat} {ow : List Nat} {x : Str} {px lp pos : Pos} {ce : Expr} {c : Option Int} {i j : Nat} {f : Str} {a : E} (h1 : locB sc x = true) (h2 : slotOf tb.N x = some j) (he : lendE tb sc ow n ce = some (c, i, f, a)) :
    SndSt X Φ gl cA P (.Assign [.Name x px] (.List [ce] lp) pos) (.lnd (.asg j) c i f a) := by
  intro k env σ HP H O D s w
  refine ⟨_, ps_set (i := j) C.c.nd (by rw [C.c.nm]; exact slot_get h2) (by rw [C.c.scp]; exact loc_of h1) (pe_lst (pa_cons peE pa_nil (lend_star he _ _))) rfl (.inl (C.fn x)), ?_⟩
  unfold exec at w
  cases q : lndR Φ i f env env[i]? (ev Φ gl env a) with
  | exc x => rw [q] at w; exact w.elim
  | stk => rw [q] at w; exact w.elim
  | ok pr =>
    obtain ⟨m, env1⟩ := pr
    rw [q] at w
    show wpE X ce σ H fun v H1 => [v].length ≤ sizeLine ∧ ∀ p, H1 p = none → D.nx (σ.set j (some (.ref p))) (L2.upd H1 p (.lst [v]))
    refine lend_exp C he s q fun HP1 H1 O1 s1 => ⟨by show 1 ≤ sizeLine; decide +kernel, fun p hn => ?_⟩
    unfold lndX lndO at w
    simp only at w
    split at w
    · rename_i hj
      have s2 := s1.step (Step.own (o := .lst [.int (lndV c m)]) s1.eP hn)
      have hnP := s1.eP.none hn
      have pO : p ∉ O1 := fun z => by
        obtain ⟨o, e⟩ := s1.rs.ownIn p z
        rw [hn] at e; cases e
      obtain ⟨c1, c2⟩ := s1.free hn
      obtain ⟨O', s3, _⟩ := s2.put (Og := [p]) (i := j) (g := .nod true .lst [.val (.int (lndV c m))]) (v := .ref p) ⟨p, [.int _], [], rfl, upd_same, ⟨_, [], [], [], rfl, ⟨rfl, rfl⟩, ⟨rfl, rfl⟩, rfl⟩, rfl⟩
        (List.nodup_cons.mpr ⟨pO, s1.nd⟩) (fun q hq => by rw [List.mem_singleton.mp hq]; exact ⟨c1, hnP, c2⟩) hj.2.1
      exact w _ _ _ O' s3 (pins_set hj.1)
    · exact w.elim
theorem snd_lndP (C : Cst X CX XE tb sc Φ gl cA) {n : Nat} {ow : List Nat} {y : Str} {py apos cpos pos : Pos} {ce : Expr} {c : Option Int} {i j : Nat} {f : Str} {a : E} (hx : toE tb sc n (.Name y py) = some (.var j)) (hl : (apos.endLine == cpos.line) = true) (he : lendE tb sc ow n ce = some (c, i, f, a)) :
    SndSt X Φ gl cA P (.Expr (.Call (.Attribute (.Name y py) "append" apos) [ce] [] cpos) pos) (.lnd (.app j) c i f a) := by
  intro k env σ HP H O D s w
  have st1 := lend_star he [] X.env
  have few : ((backTo cpos (starEach [ce] X.env)).all (fun x => !x.1) && (backToKw cpos (keywordEach [] X.env)).all (fun x => x.1.isSome) && decide ([ce].length + ([] : List Keyword).length + (if ([] : List Keyword).isEmpty then 0 else 1) < 30)) = true := by rw [st1]; rfl
  refine ⟨_, ps_expr (pe_bm PySem.F.plainAttrs_list PySem.F.slot_list_append PySem.F.type_list_append mt_append peE (pa_cons peE pa_nil st1) rfl few hl st1 rfl) rfl, ?_⟩
  unfold exec at w
  cases q : lndR Φ i f env env[i]? (ev Φ gl env a) with
  | exc x => rw [q] at w; exact w.elim
  | stk => rw [q] at w; exact w.elim
  | ok pr =>
    obtain ⟨m, env1⟩ := pr
    rw [q] at w
    unfold lndX lndO at w
    simp only at w
    split at w
    · rename_i hj
      obtain ⟨kd, gs, t2, g', e0', qe, f1, qc, f2, he1⟩ := lndR_ok q
      have w' := w
      unfold chgO at w'
      have ej : env1[j]? = env[j]? := by rw [he1]; exact set_get_ne hj
      rw [ej] at w'
      split at w'
      · rename_i g0 e0
        split at w'
        · rename_i gs0 ea
          obtain ⟨v0, p, vs0, a0, va, h0, hl0, _⟩ := s.chgAt (Og := []) e0 ea s.nd (fun _ z => nomatch z)
          have va : V.ref p = v0 := va
          subst va
          refine wpE_var C.c hx a0 ⟨.inl ⟨rfl, vs0, .inl (.inl h0)⟩, ?_⟩
          show wpE X ce σ H fun v H1 => rAppend (.ref p) [v] H1 fun _ H2 => D.nx σ H2
          refine lend_exp C he s q fun HP1 H1 O1 s1 => ?_
          obtain ⟨gs, vs, gs', ea2, ef, h1, hl2, K⟩ := chg_w (Og := []) (σ0 := σ) s1 s1.nd (fun _ z => nomatch z) (fun _ _ => rfl) w (by rw [ej]; exact e0) a0 rfl
          unfold appF at ef
          split at ef
          · rename_i hz
            cases ef
            refine ⟨p, vs, _, rfl, rfl, h1, by rw [← hl2]; exact hz, ?_⟩
            exact K (vs ++ [_]) fun O' r' => ⟨O' ++ [], r'.app (g := .val (.int _)) ⟨rfl, rfl⟩, fun q hq => List.mem_append.mp hq, fun n1 n2 => by rw [List.append_nil]; exact n1⟩
          · cases ef
        · exact w'.elim
      · exact w'.elim
    · exact w.elim
theorem lendS_ok (C : Cst X CX XE tb sc Φ gl cA) {n : Nat} {ow : List Nat} {st : Stmt} {sx : S} (h : lendS tb sc ow n st = some sx) (P : List Nat) : SndSt X Φ gl cA P st sx := by
  unfold lendS at h
  split at h
  · split at h
    · rename_i e1 e2
      cases h
      split at e1
      · rename_i hl
        exact snd_lndA C hl e1 e2
      · cases e1
    · cases h
  · split at h
    · rename_i hm
      rw [Bool.and_eq_true] at hm
      split at h
      · rename_i e1 e2
        cases h
        have := beq_iff_eq.mp hm.1
        subst this
        exact snd_lndP C e1 hm.2 e2
      · cases h
    · cases h
  · cases h
    intro k env σ HP H O D s w
    unfold exec at w
    exact w.elim
  · cases h
end
end Bv
set_option maxRecDepth 100000
set_option maxHeartbeats 2000000
/-! Part 17x: exceptions with a field: isinstance of them, how they are made. -/
namespace PySem.W
open PySem PySem.Spec PySem.Calls PyProof.Rows
section
variable {prog : Program} {w : World} {A : Around} {E : Value → Shared → Prop} {s : Shared} {K : Frag} {x D : Addr} {ox : Obj} {od : Option Obj}
theorem findObj_dataO {C : Addr} {name : Str} {a g : Value} (hc : (clsIn K C).isSome = true) (ha : findIn K (.ref C) name = some (some a)) (hg : specialIn K a "__get__" = some (some g)) (ht : takesIn K a = some true) : findObj K C od name = some (.bind g a) := by
  obtain ⟨cd, hc⟩ := Option.isSome_iff_exists.mp hc
  unfold findObj
  rw [hc, Option.bind_some, ha, Option.bind_some]
  simp [hg, ht]
theorem kin_classO {Q : Option Value → Shared → Prop} (hga : findIn K (.ref D) "__getattribute__" = some (some (.builtin "BaseException.__getattribute__"))) (hgt : findIn K (.ref D) "__getattr__" = some none) (hsub : subIn K (.ref D) (.type "BaseException") = some true)
    (hdct : hasDictIn K D = true) (ha : findIn K (.ref D) "__class__" = some (some (.builtin "object.__class__")))
    (hn : specialIn K (.builtin "object.__class__") "__get__" = some (some (.builtin "getset_descriptor.__get__"))) (htk : takesIn K (.builtin "object.__class__") = some true) (hm : mroIn K D (.type "object") = some true)
    (X : K.In s.heap) (I : InstAt s.heap x ox D od) (h : Q (some (.ref D)) { s with toks := s.toks + 1 }) : wpAny (model prog w) A (getAttr? (.ref x) "__class__") Q E s := by
  have hf : findObj K D od "__class__" = some (.bind (.builtin "getset_descriptor.__get__") (.builtin "object.__class__")) := findObj_dataO (by obtain ⟨cd, hc, _⟩ := any_some hdct; rw [hc]; rfl) ha hn htk
  obtain ⟨hp, g, d, t, os⟩ := s
  have L0 := I.type (M := model prog w)
  have L1 := looks_findIn (M := model prog w) X hga
  have L2 := looks_findIn (M := model prog w) X hgt
  have L3 := looks_find (M := model prog w) X I hf
  have sub : Looks (model prog w) hp (isInstance (.ref x) (.type "BaseException")) true := L0.andThen (looks_subIn X hsub)
  have hx0 : (false && onTheHeap (Value.builtin "BaseException.__getattribute__")) = false := rfl
  have hx2 : (Value.builtin "BaseException.__getattribute__" == Value.builtin "object.__getattribute__") = false := by decide +kernel
  have hx1 : (onTheHeap (Value.ref D) && Value.builtin "BaseException.__getattribute__" == Value.builtin "object.__getattribute__") = false := by rw [hx2]; rfl
  unfold getAttr? getAttrBy? getAttrBy
  refine wpAny_bind (wpAny_mkText (wpAny_bind (wpAny_attempt (wpAny_holding (wpAny_bind (L0.at (wpAny_bind (L1.at ?_))))))))
  show wpAny _ _ (if (onTheHeap (Value.ref D) && Value.builtin "BaseException.__getattribute__" == Value.builtin "object.__getattribute__") = true then _ else _) _ _ _
  rw [hx1, if_neg Bool.false_ne_true]
  unfold getAttrByItsOwn hookBefore
  refine wpAny_bind ?_
  rw [if_pos (show onTheHeap (Value.ref D) = true from rfl)]
  refine L2.at ?_
  refine wpAny_bind (wpAny_attempt (wpAny_holding ?_))
  unfold callGetattribute
  rw [hx0, if_neg Bool.false_ne_true]
  unfold boundAndCalled
  rw [PySem.F.excAttr_ValueError.ga.bind (.ref x)]
  refine wpAny_bind (wpAny_pure ?_)
  show wpAny _ _ (call (.builtin "BaseException.__getattribute__") [.ref x, .str "__class__" t]) _ _ _
  refine wpAny_call (codeAny_call_builtin PySem.F.excAttr_ValueError.ga.plain PySem.F.entry_bexc_ga ?_)
  refine @check_slot (model prog w) _ _ ⟨hp, g, d, t + 1, os⟩ "BaseException.__getattribute__" "BaseException" "__getattribute__" (.ref x) [.str "__class__" t] [] _ (by decide +kernel) (by decide +kernel) sub (PySem.F.args_bexc_ga (.ref x) (.str "__class__" t)) ?_
  unfold Builtin.«object.__getattribute__»
  refine wpAny_bind (wpAny_of_eq (a := ((Value.ref x : Value), [Value.str "__class__" t])) (by first | rfl | (simp only [slotArgs]; rfl)) ?_)
  refine wpAny_bind (wpAny_pure (wpAny_bind (L0.at (wpAny_bind (L3.at ?_)))))
  show wpAny _ _ (holding [Value.builtin "object.__class__"] (call (.builtin "getset_descriptor.__get__") [.builtin "object.__class__", .ref x, .ref D]) >>= ret) _ _ _
  refine wpAny_bind (wpAny_holding (wpAny_call (class_get (s := ⟨hp, g, d, t + 1, os⟩) (ox := ox) (od := od) X I hm ?_)))
  refine wpAny_pure ?_
  show wpAny _ _ (handedOut (.ref D)) _ _ _
  rw [handedOut_of (v := .ref D) rfl]
  first
    | exact wpAny_pure (wpAny_pure h)
    | exact wpAny_pure h
    | exact wpAny_pure (wpAny_bind (wpAny_pure (wpAny_pure h)))
theorem kitx_excO (hga : findIn K (.ref D) "__getattribute__" = some (some (.builtin "BaseException.__getattribute__"))) (hgt : findIn K (.ref D) "__getattr__" = some none) (hsub : subIn K (.ref D) (.type "BaseException") = some true) (hdct : hasDictIn K D = true) (ha : findIn K (.ref D) "__class__" = some (some (.builtin "object.__class__")))
    (hn : specialIn K (.builtin "object.__class__") "__get__" = some (some (.builtin "getset_descriptor.__get__"))) (htk : takesIn K (.builtin "object.__class__") = some true) (hm : mroIn K D (.type "object") = some true) :
    KitX K (.ref x) (.ref D) (fun h => InstAt h x ox D od) where
  ty := fun _ _ _ I => I.type
  it := fun _ _ X _ => by
    obtain ⟨cdD, hcD, _⟩ := any_some hdct
    unfold clsIn at hcD
    split at hcD
    · rename_i c' d' cd' sl' ho
      intro A' Q' E' s' k q
      unfold isType loadHead
      exact wpAny_bind (wpAny_loadPart (k _ _ (X _ _ ho)) (wpAny_pure q))
    · cases hcD
  ne := fun h tp dd its n sl X htp => by
    obtain ⟨cdD, hcD, _⟩ := any_some hdct
    refine Bool.eq_false_iff.mpr fun q => ?_
    have e : D = tp := Value.ref.inj (beq_iff_eq.mp q)
    subst e
    unfold clsIn at hcD
    split at hcD
    · rename_i c' d' cd' sl' ho
      have z := (X _ _ ho).symm.trans htp
      cases z
    · cases hcD
  ca := fun X I k => kin_classO hga hgt hsub hdct ha hn htk hm X I k
end
end PySem.W
namespace Bv
open PySem PyProof.Rows L2
/-- the dict of a caught exception stands -/
def DStd (H : Hp) (d : Option Addr) : Prop := ∀ dd, d = some dd → ∃ fs, H dd = some (.xd fs)
theorem inst_at {P : Program} {w : World} {H : Hp} {h : Heap} {a D : Addr} {oe : Obj} {d : Option Addr} (hz : Zc (.ref D) d oe) (hf : ∃ vs, oe.data = .fields vs) (ho : h.get? a = some oe) (hok : HOk P w H h) (hd : DStd H d) : ∃ od, PySem.W.InstAt h a oe D od := by
  obtain ⟨vs, hv⟩ := hf
  obtain ⟨oc, od, oda, osl⟩ := oe
  obtain ⟨h1, h2⟩ := hz
  dsimp only at h1 h2 hv
  subst h1 h2 hv
  cases od with
  | none => exact ⟨none, ho, rfl, rfl, trivial⟩
  | some dd =>
    obtain ⟨fs, hx⟩ := hd dd rfl
    have hx' : ObjOk P w H h dd (.xd fs) := hok dd _ hx
    obtain ⟨mA, hns, hr⟩ := hx'
    obtain ⟨o, es, ep, e1, _⟩ := hns
    exact ⟨some o, ho, rfl, rfl, e1⟩
/-- isinstance(e, c), e the exception that the suite holds -/
def rIsO (K : PySem.W.Frag) (D a : Addr) (d : Option Addr) : List V → Hp → VK → Prop := fun xs H Q => ∃ (c : V) (cv : Value) (b : Bool), xs = [.ref a, c] ∧ (∀ u, RelV c u → u = cv) ∧ PySem.W.kitOne K (.ref D) cv = some b ∧ DStd H d ∧ Q (.bl b) H
theorem call_isO {X : Cx} {a D : Addr} {oe : Obj} {d : Option Addr} {pn : List (Addr × Obj)} (C : ExcC X.K D) (hz : Zc (.ref D) d oe) (hf : ∃ vs, oe.data = .fields vs) : CallR (X.suite a ((a, oe) :: pn)) (.builtin "isinstance") (rIsO X.K D a d) := by
  intro pins s σ H xs us Q I r h
  obtain ⟨c, cv, b, rfl, hcv, e, hd, q⟩ := h
  obtain ⟨u1, u2, rfl, r1, r2⟩ := vals2 r
  cases r1
  have ec := hcv _ r2
  subst ec
  obtain ⟨hget, _⟩ := I.pin (a, oe) (List.mem_append.mpr (.inl List.mem_cons_self))
  obtain ⟨od, J⟩ := inst_at hz hf hget I.hok hd
  exact PySem.W.kia_one (PySem.W.kitx_excO C.hg C.hk C.hs C.hd C.ha C.hn C.ht C.hm) I.kIn J e (fun z => nomatch z) fun tk => ⟨.bl b, H, I.kept (t' := tk) fun _ _ z => z, rfl, q⟩
/-- isinstance(e, (c1, c2, ..)) -/
def rIsOT (K : PySem.W.Frag) (D a : Addr) (d : Option Addr) : List V → Hp → VK → Prop := fun xs H Q => ∃ (tp : Addr) (cs : List V) (ws : List Value) (b : Bool), xs = [.ref a, .ref tp] ∧ H tp = some (.tup cs) ∧ Paired ClsV cs ws ∧ PySem.W.kitAny K (.ref D) ws = some b ∧ DStd H d ∧ Q (.bl b) H
theorem call_isOT {X : Cx} {a D : Addr} {oe : Obj} {d : Option Addr} {pn : List (Addr × Obj)} (C : ExcC X.K D) (hz : Zc (.ref D) d oe) (hf : ∃ vs, oe.data = .fields vs) : CallR (X.suite a ((a, oe) :: pn)) (.builtin "isinstance") (rIsOT X.K D a d) := by
  rintro pins s σ H xs us Q I r ⟨tp, cs, ws, b, rfl, hT, k, e, hd, q⟩
  obtain ⟨u1, u2, rfl, r1, r2⟩ := vals2 r
  cases r1
  cases r2
  obtain ⟨here, _⟩ := I.pin (a, oe) (List.mem_append_left _ List.mem_cons_self)
  obtain ⟨od, mine⟩ := inst_at hz hf here I.hok hd
  obtain ⟨_, its, rv, o, h1, h2, n, h3⟩ := (show ObjOk X.prog X.w H s.heap tp (.tup cs) from I.hok tp _ hT)
  cases ClsV.all k rv
  obtain ⟨oc, od', dt, sl⟩ := o
  dsimp only at h2 h3
  subst h2 h3
  exact PySem.W.kia_tup (PySem.W.kitx_excO C.hg C.hk C.hs C.hd C.ha C.hn C.ht C.hm) I.kIn mine h1 e (fun z => nomatch z) fun tk => ⟨.bl b, H, I.kept (t' := tk) fun _ _ z => z, rfl, q⟩
/-! ### C(x), C's __init__ being B.__init__(self, text); self.f = x -/
theorem pe_binit {X : Cx} {B : Addr} {b : Str} {e : Expr} {es : List Expr} {ta : TA} {p1 p2 pos : Pos} (hg : Gl X b) (hm : X.mg b = some (.ref B)) (rd : ClX.CRead X.K B (.type "type")) (vV : PySem.W.findCls X.K (.ref B) (.type "type") "__init__" = some (.val (.builtin "ValueError.__init__"))) (hdb : (b == ("__debug__" : Str)) = false) (ha : PA X (e :: es) ta)
    (hbase : attributeBase (.Name b p1) "__init__" X.env (eval (.Name b p1) X.env) = eval (.Name b p1) X.env)
    (hfew : methodCallForm ((e :: es).length + ([] : List Keyword).length) (backTo pos (starEach (e :: es) X.env)) (backToKw pos (keywordEach [] X.env)) = true)
    (hline : (p2.endLine == pos.line) = true)
    (he : starEach (e :: es) X.env = (false, eval e X.env) :: starEach es X.env) (hpl : (backTo pos (starEach es X.env)).any (·.1) = false) :
    PE X (.Call (.Attribute (.Name b p1) "__init__" p2) (e :: es) [] pos) (tVeI X.K ta) := by
  refine ⟨fun pins s σ H Q I h => ?_⟩
  rw [arm_eval_Call, hbase]
  refine wpAny_bind (ld_glob I hg hm ?_ hdb)
  refine wpAny_bind (wpAny_standAt ?_)
  have hpos : methodCallPos true (.Name b p1) X.env p2 pos = pure pos := by unfold methodCallPos; simp [hline]
  unfold methodCall
  rw [hfew]
  refine wpAny_bind (wpAny_holding ?_)
  refine PySem.W.method_cls I.kIn rd.ga (PySem.W.cls_value I.kIn rd.rd vV (by decide +kernel) ?_)
  refine wpAny_bind (wpAny_of_eq hpos ?_)
  show wpAny _ _ (callWith pos (Value.builtin "ValueError.__init__") [] (backTo pos (starEach (e :: es) X.env)) []) _ _ _
  refine PyProof.Rows.callWith_method1 (thn (ha.run pos pins _ σ H _ (I.tok _) h) fun us s1 ⟨vs, H1, I1, r1, a, C, ws, ev, hl, T, ea, q⟩ => ?_) he hpl
  subst ev
  cases r1 with
  | @cons _ u0 _ ur ra rw' =>
    obtain rfl : u0 = Value.ref a := ra
    have hlen : ur.length ≤ sizeLine := by
      rw [← Paired.length rw', sizeLine_eq]
      omega
    exact oinit_ok T I1 ea hlen fun s' J => ⟨.non, H1, J, rfl, q⟩
theorem okN {P : Program} {w : World} {K : PySem.W.Frag} {mg : Str → Option Value} {base : Heap} {x qual : Str} {st : Stmt} {f : Addr} {fd : FuncData} {N ps : List Str} {k : Nat} {sp : Sp} (F : L2.Fun K x qual st f fd) (S : FnScope N ps (defScope st)) (len : ∀ vs H Q E, sp vs H Q E → vs.length = ps.length)
    (hbody : ∀ (cdv : Value) (A : Around) (outer : List PySem.Env) (s : Shared) (H : Hp) (vs : List V) (Q : VK) (E : XK), Room k (A.deeper (PyProof.Rows.envOfC qual (defScope st) s.heap.objs.size f cdv)) → sp vs H Q E →
      ∃ t, PSs (cxOf (L2N.CX P w) P w K mg base N qual (defScope st) f cdv A outer s H E) (defBody st) t ∧ t { nx := fun _ H' => Q .non H', rt := Q } (L2.start N vs) H) : FnOk P w K mg base (L2N.CX P w) (k + 1) f fd ps sp := by
  obtain ⟨oc, od, kV, doc, pm, an, cdv, ct, osl, rfl, lk, hcd⟩ := F.ex
  exact fn_of lk hcd S len fun A outer s H vs Q E hr hsp => hbody cdv A outer s H vs Q E hr hsp
theorem okH {P : Program} {w : World} {K : PySem.W.Frag} {mg : Str → Option Value} {base : Heap} {x qual : Str} {st : Stmt} {f : Addr} {fd : FuncData} {N ps : List Str} {k : Nat} {sp : Sp} {CX : CXT} (F : L2.Fun K x qual st f fd) (S : FnScope N ps (defScope st)) (len : ∀ vs H Q E, sp vs H Q E → vs.length = ps.length)
    (hbody : ∀ (cdv : Value) (A : Around) (outer : List PySem.Env) (s : Shared) (H : Hp) (vs : List V) (Q : VK) (E : XK) (p : Addr × Obj), L2H.RoomH k (A.deeper (PyProof.Rows.envOfC qual (defScope st) s.heap.objs.size f cdv)) → sp vs H Q E →
      ∃ t, PSs (L2H.cxH CX P w K mg base N qual (defScope st) f cdv A outer s H E p) (defBody st) t ∧ t { nx := fun _ H' => Q .non H', rt := Q } (L2.start N vs) H) : L2H.FnH P w K mg base CX (k + 1) f fd ps sp := by
  obtain ⟨oc, od, kV, doc, pm, an, cdv, ct, osl, rfl, lk, hcd⟩ := F.ex
  exact L2H.fn_ofH lk hcd S len fun A outer s H vs Q E p _ hr hsp => hbody cdv A outer s H vs Q E p hr hsp
theorem xi_ok {P : Program} {w : World} {K : PySem.W.Frag} {mg : Str → Option Value} {base : Heap} {C fI : Addr} {f : Str} {fdt : FuncData} (I : XiOk K mg C fI f fdt) :
    ∃ ps, FnOk P w K mg base (L2N.CX P w) 1 fI fdt ps (spXi C f) ∧ Binds K fdt ps [] := by
  obtain ⟨B, b, qual, nm, self, x, m, st, j, p1, p2, p3, p4, p5, p6, p7, p8, p9, p10, F, hS, hb, hm, hg, s1, s2, s3, rd, vV, bi, v1, v2, hline⟩ := I.ex
  refine ⟨[self, x], okN (k := 0) F hS (fun vs H Q E h => by obtain ⟨a, y, rfl, _⟩ := h; rfl) fun cdv A outer s H vs Q E hr h => ?_, .all bi⟩
  obtain ⟨a, y, rfl, ea, q⟩ := h
  rw [hb]
  obtain ⟨t1, _, t3⟩ := sane_of s1
  obtain ⟨t4, t5, _⟩ := sane_of s2
  obtain ⟨t6, t7, _⟩ := sane_of s3
  let X := cxOf (L2N.CX P w) P w K mg base [self, x] qual (defScope st) fI cdv A outer s H E
  have pe1 : ∀ p, PE X (.Name self p) (tVar 0) := fun p => pe_var (X := X) (i := 0) rfl (vis_of v1) t4 t5
  have pe2 : ∀ p, PE X (.Name x p) (tVar 1) := fun p => pe_var (X := X) (i := 1) rfl (vis_of v2) t6 t7
  have gl : Gl X b := by
    show X.env.kindOf b = some .globalImplicit
    exact gl_of hg
  refine ⟨_, pss_cons (ps_expr (pe_binit gl hm rd vV t1 (pa_cons (pe1 p3) (pa_cons pe_str pa_nil)) rfl rfl hline rfl rfl) rfl) (pss_one (ps_ost (pe1 p7) (pe2 p9) rfl)), ?_⟩
  refine ⟨.ref a, rfl, ⟨a, C, [.str m], rfl, by simp, I.oc, ea, ?_⟩⟩
  refine ⟨y, rfl, .ref a, rfl, a, C, rfl, I.oc, I.no, .inl ⟨ea, fun dx h1 h2 => q dx h1 h2⟩⟩
theorem mkN_end {X : Cx} {pins : List (Addr × Obj)} {σ : L2.St} {H1 H2 : Hp} {Q : XK} {hp hp2 h2 : Heap} {g1 g2 : Array GenState} {d1 d2 : Drawn} {t1 t2 : Nat} {os1 os2 : OsState} {a C d : Addr} {fs : List (Str × V)} (T : Raises X (.ref C)) (I1 : Inv X pins σ H1 ⟨hp, g1, d1, t1, os1⟩)
    (ha : hp.objs.size ≤ a) (k : ∀ b o, hp.get? b = some o → hp2.get? b = some o) (un : Un (frs X.stack) [] (upd H1 a (exo a C none)) H2 hp2 h2) (hok : HOk X.prog X.w H2 h2) (ho : os2 = os1) (hb : AllBare g2)
    (ea : H2 a = some (exo a C (some d))) (ed : H2 d = some (exd d fs)) (hd1 : H1 d = none) (q : Q (.ref C) (some d) (upd (del H2 a) d (.xd fs))) : L2N.MkP X pins σ Q (.ref a) ⟨h2, g2, d2, t2, os2⟩ := by
  obtain ⟨t0, G, J, kG, ge, hoe, na⟩ := mk_end0 (d2 := d2) (t2 := t2) I1 ha k un hok ho hb ea ed hd1
  exact ⟨a, _, _, ⟨G, g2, d2, t2, os2⟩, _, .ref C, some d, rfl, J, kG, ge, hoe, ⟨rfl, rfl, fun vs e => by cases e; rfl⟩, rfl, rfl, na, rfl, hb, T, q⟩
theorem pmkN_oex {X : Cx} {CX : CXT} {x : Str} {C fI : Addr} {k : Nat} {fd : FuncData} {ps : List Str} {sp : Sp} {e : Expr} {es : List Expr} {ta : TA} {p pos : Pos} (T : OexC X.K C) (iC : PySem.W.findIn X.K (.ref C) "__init__" = some (some (.ref fI))) (tI : PySem.W.typeIn X.K (.ref fI) = some (.type "function"))
    (F1 : FnOk X.prog X.w X.K X.mg X.base CX k fI fd ps sp) (hr : Room (k + 1) X.A) (hb : Binds X.K fd ps []) (hx : Passes CX X (fun _ _ _ => False)) (hg : Gl X x) (hm : X.mg x = some (.ref C)) (ha : PA X (e :: es) ta)
    (hdb : (x == ("__debug__" : Str)) = false) (he : starEach (e :: es) X.env = (false, eval e X.env) :: starEach es X.env) (hpl : (backTo pos (starEach es X.env)).any (·.1) = false) :
    L2N.PMk X (.Call (.Name x p) (e :: es) [] pos) (tMkO C sp [] ta) := by
  intro pins s σ H Q I h
  obtain ⟨nm, q, N, bs, bm, sn, sub, ab, col, dd, k0, k1, k2, k3, k5, hC, hbm⟩ := T.cls
  refine wpAny_Call_Name_kw (ld_glob I hg hm ?_ hdb)
  refine PySem.W.callWith_K (h₀ := X.base) I.ok.mod.kin T.kC (thn (ha.run pos pins s σ H _ I h) fun us s1 ⟨vs, H1, I1, r1, hz, q1⟩ => ⟨I1.kIn, ?_⟩) he hpl
  show wpAny _ _ (call (.ref C) us) _ _ _
  obtain ⟨hp, g, dr, tk, os⟩ := s1
  have hsz : hp.objs.size ≤ hp.objs.size + 1 := Nat.le_succ _
  have hn : H1 (hp.objs.size + 1) = none := I1.hok.fresh hsz
  have hq := q1 (hp.objs.size + 1) hn
  rw [List.append_nil] at hq
  have kk : ∀ b o, hp.get? b = some o → ((hp.push (PySem.W.kdv_tup us)).push (PySem.HandSPX.excO C hp.objs.size)).get? b = some o := fun b o e => Heap.get?_push_of_some _ (Heap.get?_push_of_some _ e)
  have hget : ((hp.push (PySem.W.kdv_tup us)).push (PySem.HandSPX.excO C hp.objs.size)).get? (hp.objs.size + 1) = some (PySem.HandSPX.excO C hp.objs.size) := by heap_get
  have I2 : Inv X pins σ (upd H1 (hp.objs.size + 1) (exo (hp.objs.size + 1) C none)) ⟨(hp.push (PySem.W.kdv_tup us)).push (PySem.HandSPX.excO C hp.objs.size), g, dr, tk, os⟩ :=
    I1.laid (t' := tk) (a := hp.objs.size + 1) (o := exo (hp.objs.size + 1) C none) (h' := (hp.push (PySem.W.kdv_tup us)).push (PySem.HandSPX.excO C hp.objs.size)) kk hsz (exo_ok hget)
  have r2 : Vals (V.ref (hp.objs.size + 1) :: vs) (Value.ref (hp.objs.size + 1) :: us) := .cons rfl r1
  have hl : (Value.ref (hp.objs.size + 1) :: us ++ []).length = ps.length := by
    have e := r2.length
    rw [F1.len _ _ _ _ hq] at e
    rw [List.append_nil]
    exact e.symm
  have hus : us.length ≤ sizeLine := by
    rw [← Paired.length r1, sizeLine_eq]
    omega
  have b2 := hb _ (Value.ref (hp.objs.size + 1) :: us) I2.kIn hl
  rw [List.append_nil] at b2
  refine wpAny_call (PySem.HandSPX.call_own PySem.F.excBase_ValueError (fun Y => PySem.HandSPX.refsVE_contains Y bm hbm) (I1.kIn _ _ hC) (PySem.W.looks_findIn I1.kIn iC) (fun self => PySem.W.bind_fn I1.kIn self tI) hus
    (codeAny_mono (F1.run _ X.stack _ _ ⟨Value.ref (hp.objs.size + 1) :: us, []⟩ (Value.ref (hp.objs.size + 1) :: us) _ _ (fun _ _ _ => False) (hr.make C us []) (I2.env0.make C us []) b2 r2 hq) fun r s' hq' => ?_))
  cases r with
  | error er => exact hx pins σ _ _ er s' I2 hq'
  | ok fl =>
    cases fl with
    | ret u =>
      obtain ⟨v, H2, os2, bare2, un2, hok2, rv, ev, d, fs, ea, ed, hd1, q2⟩ := hq'
      subst ev
      obtain ⟨h2, g2, d2, t2, os'⟩ := s'
      exact ⟨rv, mkN_end (raises_own T.exC T.tyC) I1 hsz kk un2 hok2 os2 bare2 ea ed hd1 q2⟩
    | next => exact False.elim hq'
    | brk => exact False.elim hq'
    | cont => exact False.elim hq'
/-! ### a def that asks for a number, called in an except suite -/
theorem isd_ok [TC] {P : Program} {w : World} {K : PySem.W.Frag} {mg : Str → Option Value} {base : Heap} {CX : CXT} {g : Str} {fa : Addr} {fdt : FuncData} (I : IsdOk K mg g fa fdt) :
    ∃ ps, L2H.FnH P w K mg base CX 1 fa fdt ps spIs ∧ Binds K fdt ps [] := by
  obtain ⟨nm, a, b, st, p1, p2, p3, p4, p5, p6, p7, p8, p9, p10, p11, p12, p13, p14, F, hS, hb, g1, g2, g3, m1, m2, m3, s1, s2, v1, v2, bi⟩ := I.ex
  refine ⟨[a, b], okH (k := 0) F hS (fun vs H Q E h => by obtain ⟨i, j, rfl, _⟩ := h; rfl) fun cdv A outer s H vs Q E p hr h => ?_, .all bi⟩
  obtain ⟨i, j, rfl, q⟩ := h
  rw [hb]
  obtain ⟨t1, t2, _⟩ := sane_of s1
  obtain ⟨t3, t4, _⟩ := sane_of s2
  let X := L2H.cxH CX P w K mg base [a, b] g (defScope st) fa cdv A outer s H E p
  let cA : CA := ⟨K, fun _ => 0⟩
  have pa1 : ∀ q, PE X (.Name a q) (tVar 0) := fun q => pe_var (X := X) (i := 0) rfl (vis_of v1) t1 t2
  have pb1 : ∀ q, PE X (.Name b q) (tVar 1) := fun q => pe_var (X := X) (i := 1) rfl (vis_of v2) t3 t4
  have G : ∀ {x : Str}, glB (defScope st) x = true → Gl X x := fun {x} h => by
    show X.env.kindOf x = some .globalImplicit
    exact gl_of h
  have hu : X.A.units + 65 < cLine := by have := hr.un; show (A.deeper _).units + 65 < cLine; omega
  have pi : PE X (.Call (.Name "isinstance" p1) [.Name a p2, .Name "int" p3] [] p4) _ := pe_callB (id := "isinstance") cW (G g1) m1 (by decide +kernel) (pa_cons (pa1 p2) (pa_cons (pe_bltn (G g2) m2 (by decide +kernel) (show RelV (.ty "int") (.type "int") from rfl) (by decide) (by decide)) pa_nil rfl) rfl) (by decide) (by decide) rfl rfl
  have pb : PE X (.Call (.Name "isinstance" p5) [.Name a p6, .Name "bool" p7] [] p8) _ := pe_callB (id := "isinstance") cW (G g1) m1 (by decide +kernel) (pa_cons (pa1 p6) (pa_cons (pe_bltn (G g3) m3 (by decide +kernel) (show RelV (.ty "bool") (.type "bool") from rfl) (by decide) (by decide)) pa_nil rfl) rfl) (by decide) (by decide) rfl rfl
  have pc : PE X (.Compare (.Name a p10) [.Eq] [.Name b p11] p12) _ := pe_cmpR opW (pa1 p10) (pb1 p11) rfl
  refine ⟨_, pss_one (ps_ret (pe_and pi (pe_and (pe_not pb) (pe_one pc)))), ?_⟩
  have e1 : isiT (.int i) (.ty "int") = .ok true := by
    have k : kitB "int" "int" = some true := by decide +kernel
    unfold isiT
    simp only [tyOf, k]
  have e2 : isiT (.int i) (.ty "bool") = .ok false := by
    have k : kitB "int" "bool" = some false := by decide +kernel
    unfold isiT
    simp only [tyOf, k]
  have e3 : cmpT .eq (.int i) (.int j) = .ok (decide (i = j)) := by
    show eqT (.int i) (.int j) = _
    unfold eqT
    rw [show lenNe (.int i) (.int j) = false from rfl]
    simp only [Bool.false_eq_true, if_false]
    unfold eqD
    have sh : ∀ i : Int, SeqAt.shaped (.int i) = true := fun i => rfl
    simp only [T.pd, sh, Bool.and_self, if_true, PyData.eqv]
    by_cases e : i = j
    · subst e; simp
    · have : (i == j) = false := beq_eq_false_iff_ne.mpr e
      rw [this]; simp [e]
  refine ⟨.int i, rfl, ?_⟩
  refine isi_ok (X := X) (cA := cA) (H := H) rfl (show RT cA H (.int i) (.int i) from rfl) e1 ⟨true, rfl, ?_⟩
  rw [if_pos rfl]
  refine ⟨.int i, rfl, ?_⟩
  refine isi_ok (X := X) (cA := cA) (H := H) rfl (show RT cA H (.int i) (.int i) from rfl) e2 ⟨false, rfl, ?_⟩
  refine ⟨true, rfl, ?_⟩
  rw [if_pos rfl]
  refine ⟨.int i, rfl, .int j, rfl, ?_⟩
  exact cmp_ok (X := X) (cA := cA) (H := H) (op := .Eq) (o := .eq) rfl hu rfl (show RT cA H (.int i) (.int i) from rfl) (show RT cA H (.int j) (.int j) from rfl) e3 q
end Bv
set_option maxRecDepth 100000
set_option maxHeartbeats 2000000
/-! Part 17w: what may raise: calls, instances made of such, lists of calls. -/
namespace Bv
open PySem L2
abbrev WC := Value → Option Addr → Hp → Prop
def WpRW [TC] (cA : CA) (Wc : WC) (r : Res G) (HP Hs H : Hp) (Q : VK) : Prop := match r with
  | .ok g => ∀ v HP1 H1 O, RG cA HP1 Hs H1 g v O → O.Nodup → (∀ p ∈ O, H p = none ∧ HP1 p = none) → Step HP H HP1 H1 → Q v H1
  | .exc x => ∀ cls d HP1 H1, XVal cA HP1 H1 x cls d → Step HP H HP1 H1 → Wc cls d H1
  | .stk => False
def WpRWs [TC] (cA : CA) (Wc : WC) (r : Res (List G)) (HP Hs H : Hp) (Q : List V → Hp → Prop) : Prop := match r with
  | .ok gs => ∀ vs HP1 H1 O, RGs cA HP1 Hs H1 gs vs O → O.Nodup → (∀ p ∈ O, H p = none ∧ HP1 p = none) → Step HP H HP1 H1 → Q vs H1
  | .exc x => ∀ cls d HP1 H1, XVal cA HP1 H1 x cls d → Step HP H HP1 H1 → Wc cls d H1
  | .stk => False
section
variable [TC] {X Y : Cx} {CX : CXT} {XE : XK} {tb : Tb} {sc : Scope} {Φ : Fns} {gl : Str → Option T} {cA : CA} {P : List Nat}
theorem WpRW.from {Wc : WC} {r : Res G} {HP Hs H HP1 H1 : Hp} {Q : VK} (s : Step HP H HP1 H1) (h : WpRW cA Wc r HP Hs H Q) : WpRW cA Wc r HP1 Hs H1 Q := by
  cases r with
  | ok g => exact fun v HP2 H2 O a b c d => h v HP2 H2 O a b (fun p hp => ⟨s.ex.none (c p hp).1, (c p hp).2⟩) (s.trans d)
  | exc x => exact fun cls d HP2 H2 xv st => h cls d HP2 H2 xv (s.trans st)
  | stk => exact h.elim
theorem WpRW.hard {Wc : WC} {r : Res G} {HP Hs H : Hp} {Q : VK} (h : WpRW cA Wc (hardR r) HP Hs H Q) : WpR cA r HP Hs H Q := by
  cases r with
  | ok g => exact h
  | exc x => exact h.elim
  | stk => exact h.elim
theorem WpR.toW {Wc : WC} {r : Res G} {HP Hs H : Hp} {Q : VK} (h : WpR cA r HP Hs H Q) : WpRW cA Wc r HP Hs H Q := by
  cases r with
  | ok g => exact h
  | exc x => exact h.elim
  | stk => exact h.elim
theorem hardR_ok {α : Type} {r : Res α} {a : α} (h : hardR r = .ok a) : r = .ok a := by
  cases r with
  | ok b => exact h
  | exc x => cases h
  | stk => cases h
theorem hardR_exc {α : Type} {r : Res α} {x : Exn} (h : hardR r = .exc x) : False := by
  cases r with
  | ok b => cases h
  | exc x => cases h
  | stk => cases h
theorem Ctx.wish (C : Ctx X CX XE tb sc Φ gl cA) (xe : Value → Shared → Prop) : Ctx (X.wish xe) CX XE tb sc Φ gl cA := ⟨C.scp, C.nm, C.nd, C.calm, C.un, C.fn, C.ps, C.kK, C.bl, C.gv, C.cv, C.mt, C.mi, C.fl, C.su, C.xv, C.xc, C.xs, C.xi, C.hd, C.xi2, C.xk⟩
/-- what an expression that may raise is to keep; E: the wish of what it raises, by the slots -/
def SndW (Y : Cx) (cA : CA) (We : St → WC) (ex : Expr) (r : Env → Res G) : Prop := ∀ env σ HP Hs H Q, PV cA HP Hs env σ → Eh Hs H → Ex HP H → WpRW cA (We σ) (r env) HP Hs H Q → wpE Y ex σ H Q
def SndWs (Y : Cx) (cA : CA) (We : St → WC) (exs : List Expr) (r : Env → Res (List G)) : Prop := ∀ env σ HP Hs H Q, PV cA HP Hs env σ → Eh Hs H → Ex HP H → WpRWs cA (We σ) (r env) HP Hs H Q → wpA Y exs σ H Q
theorem callX_ok (C : Ctx Y CX XE tb sc Φ gl cA) (hcx : CX = L2N.CX Y.prog Y.w) {We : St → WC} (hx : ∀ σ, PassesAt (L2N.CX Y.prog Y.w) Y σ (We σ)) {n : Nat} {ex : Expr} {f : Str} {es : List E} (h : callX tb sc n ex = some (f, es)) :
    SndW Y cA We ex (fun env => evXc Φ gl env f es) := by
  unfold callX at h
  split at h
  · rename_i f' p a as pos
    cases q : toEs (toE tb sc n) (a :: as) with
    | none => rw [q] at h; cases h
    | some es' =>
      rw [q] at h
      simp only at h
      split at h
      · rename_i hc
        simp only [Bool.and_eq_true] at hc
        cases h
        obtain ⟨s1, _, s3⟩ := sane_of hc.1.2
        obtain ⟨fa, fd, ps, kk, hp', hm, hk, hb, F, hr⟩ := C.fn f _ (beq_iff_eq.mp hc.2)
        rw [hcx] at F
        have qa : ∃ x, toE tb sc n a = some x := by
          unfold toEs at q
          cases q1 : toE tb sc n a with
          | none => rw [q1] at q; cases q
          | some x => exact ⟨x, rfl⟩
        obtain ⟨xa, qa⟩ := qa
        have qas : ∃ xs, toEs (toE tb sc n) as = some xs := by
          unfold toEs at q
          cases q1 : toEs (toE tb sc n) as with
          | none => rw [qa, q1] at q; cases q
          | some x => exact ⟨x, rfl⟩
        obtain ⟨xs, qas⟩ := qas
        have S := toEs_ok (X := Y) (toE_ok C n) q
        intro env σ HP Hs H Q pv hs hp w
        refine ⟨_, pe_callS (E := We) F hr (C.Gl hc.1.1) hm hk hb hx paA s1 (toE_star qa _ _) (toEs_any qas), ?_⟩
        show wpA Y (a :: as) σ H fun vs H1 => spOf cA Φ f es.length vs H1 Q (We σ)
        simp only [evXc] at w
        cases q2 : evs Φ gl env es with
        | exc x => rw [q2] at w; exact w.elim
        | stk => rw [q2] at w; exact w.elim
        | ok gs =>
          rw [q2] at w
          simp only [hardR, Res.bind] at w
          refine S env σ HP Hs H _ pv hs hp ?_
          rw [q2]
          intro vs HP1 H1 O1 rg nd fr st
          have hs1 := hs.step st
          have st' := st.freeze (O := O1) fun p hp => (fr p hp).1
          have hlen : vs.length = es.length := by rw [← rg.len]; exact evs_len q2
          refine ⟨hlen, hs1.tb, ad HP1 O1 H1, G.args gs, [], st'.sees, by rw [mn_nil]; exact rg.args st.sees hs1.e, List.nodup_nil, (fun _ z => nomatch z), ?_⟩
          have w := w.from st'
          cases qc : Φ.call f (G.args gs) with
          | exc x gs' =>
            rw [qc] at w
            exact fun cls d HP2 H2 xv st2 => w cls d HP2 H2 xv st2.nil
          | stk => rw [qc] at w; exact w.elim
          | ok r gs' =>
            rw [qc] at w
            simp only [callXR] at w
            split at w
            · rename_i hf
              exact ⟨hf, fun v HP2 H2 O O' r1 r2 nd' fr' st2 => w v HP2 H2 O (r1.freeB hf) (List.nodup_append.mp nd').1 (fun p hp => ⟨((fr' p (List.mem_append_left _ hp)).1).elim id fun z => absurd z (by simp), (fr' p (List.mem_append_left _ hp)).2⟩) st2.nil⟩
            · exact w.elim
      · cases h
  · cases h
theorem callX_shape {n : Nat} {ex : Expr} {f : Str} {es : List E} (h : callX tb sc n ex = some (f, es)) : ∃ p a as pos, ex = .Call (.Name f p) (a :: as) [] pos := by
  unfold callX at h
  split at h
  · rename_i f' p a as pos
    split at h
    · split at h
      · cases h; exact ⟨_, _, _, _, rfl⟩
      · cases h
    · cases h
  · cases h
theorem toXA_star {n : Nat} {e : Expr} {a : XA} (h : toXA tb sc n e = some a) (es : List Expr) (env : PySem.Env) : starEach (e :: es) env = (false, eval e env) :: starEach es env := by
  unfold toXA at h
  split at h
  · rename_i f es' q
    obtain ⟨p, a, as, pos, rfl⟩ := callX_shape q
    rfl
  · cases q : toE tb sc n e with
    | none => rw [q] at h; cases h
    | some x => exact toE_star q _ _
theorem xa_ok (C : Ctx Y CX XE tb sc Φ gl cA) (hcx : CX = L2N.CX Y.prog Y.w) {We : St → WC} (hx : ∀ σ, PassesAt (L2N.CX Y.prog Y.w) Y σ (We σ)) {n : Nat} {ex : Expr} {a : XA} (h : toXA tb sc n ex = some a) : SndW Y cA We ex (fun env => evXa Φ gl env a) := by
  unfold toXA at h
  split at h
  · rename_i f es q
    cases h
    exact callX_ok C hcx hx q
  · cases q : toE tb sc n ex with
    | none => rw [q] at h; cases h
    | some x =>
      rw [q] at h
      cases h
      intro env σ HP Hs H Q pv hs hp w
      exact toE_ok C n ex x q env σ HP Hs H Q pv hs hp w.hard
theorem xas_ok (C : Ctx Y CX XE tb sc Φ gl cA) (hcx : CX = L2N.CX Y.prog Y.w) {We : St → WC} (hx : ∀ σ, PassesAt (L2N.CX Y.prog Y.w) Y σ (We σ)) {n : Nat} : ∀ {exs : List Expr} {as : List XA}, toXAs tb sc n exs = some as → SndWs Y cA We exs (fun env => evXas Φ gl env as)
  | [], as, h => by
    cases h
    intro env σ HP Hs H Q pv hs hp w
    refine ⟨_, pa_nil, ?_⟩
    exact w [] HP H [] ⟨rfl, rfl⟩ List.nodup_nil (fun _ z => nomatch z) (Step.refl hp)
  | e :: exs, as, h => by
    unfold toXAs at h
    cases q : toXA tb sc n e with
    | none => rw [q] at h; cases h
    | some a =>
      cases q2 : toXAs tb sc n exs with
      | none => rw [q, q2] at h; cases h
      | some as' =>
        rw [q, q2] at h
        cases h
        intro env σ HP Hs H Q pv hs hp w
        refine ⟨_, pa_cons peE paA (toXA_star q exs _), ?_⟩
        simp only [evXas] at w
        refine xa_ok C hcx hx q env σ HP Hs H _ pv hs hp ?_
        simp only
        cases q3 : evXa Φ gl env a with
        | exc x => rw [q3] at w; exact w
        | stk => rw [q3] at w; exact w.elim
        | ok g =>
          rw [q3] at w
          simp only [Res.bind] at w
          intro v HP1 H1 O1 rg nd fr st
          refine xas_ok C hcx hx q2 env σ HP1 Hs H1 _ (pv.mono st.exP) (hs.step st) st.sees ?_
          simp only
          cases q4 : evXas Φ gl env as' with
          | exc x =>
            rw [q4] at w
            exact fun cls d HP2 H2 xv st2 => w cls d HP2 H2 xv (st.trans st2)
          | stk => rw [q4] at w; exact w.elim
          | ok gs =>
            rw [q4] at w
            intro vs HP2 H2 O2 rg2 nd2 fr2 st2
            refine w (v :: vs) HP2 H2 (O1 ++ O2) ⟨v, vs, O1, O2, rfl, rg.mono st2.exP (Ex.refl _) st2.ex, rg2, rfl⟩ ?_ ?_ (st.trans st2)
            · refine List.nodup_append.mpr ⟨nd, nd2, fun a ha b hb e => ?_⟩
              subst e
              obtain ⟨o, z⟩ := rg.ownIn a ha
              rw [(fr2 a hb).1] at z; cases z
            · intro p hp
              rcases List.mem_append.mp hp with hp | hp
              · exact ⟨(fr p hp).1, keep_none st2 rg (fun p hp => (fr p hp).2) p hp⟩
              · exact ⟨st.ex.none (fr2 p hp).1, (fr2 p hp).2⟩
theorem toXAs_any {n : Nat} {pos : Pos} {env : PySem.Env} : ∀ {es : List Expr} {as : List XA}, toXAs tb sc n es = some as → (backTo pos (starEach es env)).any (·.1) = false
  | [], _, _ => rfl
  | e :: es, as, h => by
    unfold toXAs at h
    cases q : toXA tb sc n e with
    | none => rw [q] at h; cases h
    | some a =>
      cases q2 : toXAs tb sc n es with
      | none => rw [q, q2] at h; cases h
      | some as' =>
        rw [toXA_star q]
        show (false || (backTo pos (starEach es env)).any (·.1)) = false
        rw [toXAs_any q2]
        rfl
theorem mkX_ok (C : Ctx Y CX XE tb sc Φ gl cA) (hcx : CX = L2N.CX Y.prog Y.w) {We : St → WC} (hx : ∀ σ, PassesAt (L2N.CX Y.prog Y.w) Y σ (We σ)) {n0 : Nat} {c : Str} {p pos : Pos} {a : Expr} {as : List Expr} {es : List XA} (hc : clsB tb sc c = true) (hes : toXAs tb sc n0 (a :: as) = some es) :
    SndW Y cA We (.Call (.Name c p) (a :: as) [] pos) (fun env => evX Φ gl env (.mk c es)) := by
  intro env σ HP Hs H Q pv hs hp h
  unfold clsB at hc
  simp only [Bool.and_eq_true] at hc
  obtain ⟨s1, _, s3⟩ := sane_of hc.2
  simp only [evX] at h
  have st0 : starEach (a :: as) Y.env = (false, eval a Y.env) :: starEach as Y.env := by
    unfold toXAs at hes
    cases q : toXA tb sc n0 a with
    | none => rw [q] at hes; cases hes
    | some x => exact toXA_star q _ _
  have pl0 : (backTo pos (starEach as Y.env)).any (·.1) = false := by
    unfold toXAs at hes
    cases q : toXA tb sc n0 a with
    | none => rw [q] at hes; cases hes
    | some x =>
      cases q2 : toXAs tb sc n0 as with
      | none => rw [q, q2] at hes; cases hes
      | some xs => exact toXAs_any q2
  cases hi : Φ.init c with
  | none => rw [hi] at h; exact h.elim
  | some fn =>
    obtain ⟨f, n⟩ := fn
    rw [hi] at h
    rw [if_pos (by rfl)] at h
    obtain ⟨fa, fd, ps, k, hps, hm, hb, F, hr⟩ := C.mi c f n hi
    refine ⟨_, pe_make hm F hr (C.Gl hc.1.1) (C.cv c hc.1.2) hb .nil (C.ps _) paA s1 st0 pl0, ?_⟩
    show wpA Y (a :: as) σ H fun vs H1 => ∀ x dx, H1 x = none → H1 dx = none → dx ≠ x → spOf cA Φ f n (.ref x :: (vs ++ [])) (upd (upd H1 dx (.own x)) x (.ins (cA.ad c) dx [])) (fun v H2 => v = .non ∧ Q (.ref x) H2) XE
    refine xas_ok C hcx hx hes env σ HP Hs H _ pv hs hp ?_
    simp only
    cases q : evXas Φ gl env es with
    | exc x => rw [q] at h; exact h
    | stk => rw [q] at h; exact h.elim
    | ok gs =>
      rw [q] at h
      simp only [Res.bind] at h
      replace h := h.hard
      unfold mkG at h
      rw [hi] at h
      simp only at h
      split at h
      · rename_i hn
        intro vs HP1 H1 O rg nd fr st x dx hx hdx ne
        rw [List.append_nil]
        have hs1 := hs.step st
        have st' := st.freeze (O := O) fun p hp => (fr p hp).1
        have e1 : Ex H1 (upd (upd H1 dx (.own x)) x (.ins (cA.ad c) dx [])) := ((Ex.refl _).updR hdx).updR hx
        have exm : Ex H1 (mn (upd (upd H1 dx (.own x)) x (.ins (cA.ad c) dx [])) [x]) := e1.mnR fun p hp => by rw [List.mem_singleton.mp hp]; exact hx
        have hx2 : (upd H1 dx (.own x)) x = none := by rw [upd_ne (Ne.symm ne)]; exact hx
        have rga := (rg.args st.sees hs1.e).mono (Ex.refl _) exm e1
        have rg0 : RG cA (ad HP1 O H1) (mn (upd (upd H1 dx (.own x)) x (.ins (cA.ad c) dx [])) [x]) (upd (upd H1 dx (.own x)) x (.ins (cA.ad c) dx [])) (.nod true (.ins c []) []) (.ref x) [x] :=
          ⟨x, [], [], rfl, ⟨rfl, dx, by rw [upd_same]; rfl⟩, ⟨rfl, rfl⟩, rfl⟩
        have hxP : ad HP1 O H1 x = none := st'.sees.none hx
        refine ⟨by rw [hn, rg.len]; rfl, tbs_new hx2 (tbs_new hdx hs1.tb), ad HP1 O H1, .nod true (.ins c []) [] :: G.args gs, [x], st'.sees.trans e1, ⟨.ref x, vs, [x], [], rfl, rg0, rga, rfl⟩, by simp, fun p hp => by rw [List.mem_singleton.mp hp]; exact hxP, ?_⟩
        unfold madeR at h
        split at h
        · rename_i g' qc
          rw [qc]
          split at h
          · rename_i hf
            refine ⟨rfl, fun v HP2 H2 O1 O' r1 r2 nd' fr' st2 => ⟨r1.1, ?_⟩⟩
            have r2 : RGs cA HP2 (mn (upd (upd H1 dx (.own x)) x (.ins (cA.ad c) dx [])) [x]) H2 [g'] (.ref x :: ownOf (G.args gs) vs) O' := r2
            obtain ⟨v', r, Oa, Ob, z1, z2, z3, z4⟩ := r2
            obtain ⟨z5, z6⟩ := z3
            cases z1
            subst z6
            rw [List.append_nil] at z4
            subst z4
            refine (h.from st') _ HP2 H2 O' (z2.freeB hf) (List.nodup_append.mp nd').2.1 (fun p hp => ?_) ?_
            · obtain ⟨a1, a2⟩ := fr' p (List.mem_append_right _ hp)
              refine ⟨?_, a2⟩
              rcases a1 with a1 | a1
              · exact e1.none a1
              · rw [List.mem_singleton.mp a1]; exact hx
            · refine ⟨exm.trans st2.ex, fun z => st2.tb (tbs_new hx2 (tbs_new hdx z)), st2.exP, fun p hp => ?_, st2.sees⟩
              rcases st2.new p hp with z | z | z
              · exact .inl z
              · exact .inr (e1.none z)
              · rw [List.mem_singleton.mp z]; exact .inr hx
          · exact h.elim
        · exact h.elim
        · exact h.elim
      · exact h.elim
/-! ### a list of calls -/
def LcIW (cA : CA) (Wc : WC) (HP1 Hs H1 : Hp) (D : Addr) (Q : VK) (R : Nat → Res (List G)) (i : Nat) (H : Hp) : Prop :=
  ∃ HP gs vs O, H D = some (.lst vs) ∧ RGs cA HP Hs H gs vs O ∧ O.Nodup ∧ (∀ p ∈ O, H1 p = none ∧ HP p = none ∧ p ≠ D) ∧ Step HP1 H1 HP H ∧ HP D = none ∧ gs.length ≤ i ∧
    WpRW cA Wc ((R i).bind fun rs => .ok (.nod true .lst (gs ++ rs))) HP1 Hs H1 Q
def bW (X : Cx) (scope : Scope) (elt : Expr) (Wc : WC) : TE := fun σ H Q => ∀ s0 H0 Ca cl fp xe, (∀ τ, PassesAt (L2N.CX X.prog X.w) (Xbx X s0 H0 scope Ca cl fp xe) τ Wc) → wpE (Xbx X s0 H0 scope Ca cl fp xe) elt σ H Q
section
variable {Wc : WC} {HP1 Hs H1 : Hp} {D : Addr} {Q : VK} {tg : Tg} {ec : Env → Res G} {envw : Env} {ts : List T}
theorem lcIW_0 (hp : Ex HP1 H1) (hD : H1 D = none) {R : Nat → Res (List G)} (w : WpRW cA Wc ((R 0).bind fun rs => .ok (.nod true .lst rs)) HP1 Hs H1 Q) : LcIW cA Wc HP1 Hs H1 D Q R 0 (upd H1 D (.lst [])) :=
  ⟨HP1, [], [], [], upd_same, ⟨rfl, rfl⟩, List.nodup_nil, (fun _ z => nomatch z), Step.own hp hD, hp.none hD, Nat.le_refl _, w⟩
theorem lcIW_end (hD : H1 D = none) {R : Nat → Res (List G)} {n : Nat} (hR : R n = .ok []) {H : Hp} (h : LcIW cA Wc HP1 Hs H1 D Q R n H) : Q (.ref D) H := by
  obtain ⟨HP, gs, vs, O, h1, h2, h3, h4, h5, h6, _, w⟩ := h
  rw [hR] at w
  have w : WpRW cA Wc (.ok (.nod true .lst (gs ++ []))) HP1 Hs H1 Q := w
  rw [List.append_nil] at w
  refine w (.ref D) HP H (D :: O) ⟨D, vs, O, rfl, h1, h2, rfl⟩ (List.nodup_cons.mpr ⟨fun z => (h4 D z).2.2 rfl, h3⟩) (fun p hp => ?_) h5
  rcases List.mem_cons.mp hp with rfl | hp
  · exact ⟨hD, h6⟩
  · exact ⟨(h4 p hp).1, (h4 p hp).2.1⟩
theorem lcIW_step {scope : Scope} {elt : Expr}
    (Se : ∀ s0 H0 Ca cl fp xe, (∀ τ, PassesAt (L2N.CX X.prog X.w) (Xbx X s0 H0 scope Ca cl fp xe) τ Wc) → SndW (Xbx X s0 H0 scope Ca cl fp xe) cA (fun _ => Wc) elt ec) (hD : H1 D = none) (hs1 : Eh Hs H1) {σ : St} (pv : PV cA HP1 Hs envw (L2.wipe σ (tgIs tg))) (hts : ts.length ≤ sizeLine)
    {i : Nat} {t : T} (hi : ts[i]? = some t) {H H' : Hp} {x : V}
    (h : LcIW cA Wc HP1 Hs H1 D Q (fun j => lcT (tgSet [] 0 tg) (fun env1 => evAnd Φ gl env1 []) ec envw (ts.drop j)) i H)
    (hx : ∀ HP, Step HP1 H1 HP H → ∃ HP', Step HP H HP' H' ∧ RT cA HP' t x) :
    gOf X.K tg x (L2.wipe σ (tgIs tg)) H' fun σ2 H2 => L2.wipe σ2 (tgIs tg) = L2.wipe σ (tgIs tg) ∧ tYes σ2 H2 fun b H3 =>
      if b = true then bW X scope elt Wc σ2 H3 fun y H4 => ∃ acc, H4 D = some (.lst acc) ∧ acc.length < sizeLine ∧ LcIW cA Wc HP1 Hs H1 D Q (fun j => lcT (tgSet [] 0 tg) (fun env1 => evAnd Φ gl env1 []) ec envw (ts.drop j)) (i + 1) (upd H4 D (.lst (acc ++ [y])))
      else LcIW cA Wc HP1 Hs H1 D Q (fun j => lcT (tgSet [] 0 tg) (fun env1 => evAnd Φ gl env1 []) ec envw (ts.drop j)) (i + 1) H3 := by
  obtain ⟨HP, gs, vs, O, h1, h2, h3, h4, h5, h6, h7, w⟩ := h
  obtain ⟨HP', st', rt⟩ := hx HP h5
  have hlt : i < ts.length := (List.getElem?_eq_some_iff.mp hi).1
  have hd : ts.drop i = t :: ts.drop (i + 1) := by
    obtain ⟨a, b⟩ := List.getElem?_eq_some_iff.mp hi
    rw [List.drop_eq_getElem_cons a, b]
  simp only [hd] at w
  unfold lcT at w
  cases q : tgSet [] 0 tg t envw with
  | none => rw [q] at w; exact w.elim
  | some env1 =>
    rw [q] at w
    simp only at w
    have pv' : PV cA HP' Hs envw (L2.wipe σ (tgIs tg)) := (pv.mono h5.exP).mono st'.exP
    refine tgE_ok pv' rt st'.sees q fun σ1 pv1 e1 => ⟨e1.trans (wipe_eq (wipe_length ..) fun j hj => wipe_get _ _ j hj), ?_⟩
    have keep : ∀ {HP2 H2 : Hp}, Step HP H HP2 H2 → H2 D = some (.lst vs) ∧ RGs cA HP2 Hs H2 gs vs O ∧ (∀ p ∈ O, H1 p = none ∧ HP2 p = none ∧ p ≠ D) ∧ Step HP1 H1 HP2 H2 ∧ HP2 D = none := fun {HP2 H2} st => by
      have kn : ∀ p, HP p = none → (∃ u, H p = some u) → HP2 p = none := fun p a ⟨u, b⟩ => by
        cases z : HP2 p with
        | none => rfl
        | some o =>
          rcases st.new p (by rw [z]; simp) with y | y
          · exact absurd a y
          · rw [b] at y; cases y
      exact ⟨st.ex.k D _ nt_lst h1, h2.mono st.exP (Ex.refl _) st.ex, fun p hp => ⟨(h4 p hp).1, kn p (h4 p hp).2.1 (h2.ownIn p hp), (h4 p hp).2.2⟩, h5.trans st, kn D h6 ⟨_, h1⟩⟩
    have w : WpRW cA Wc (((ec env1).bind fun g => if g.free then (lcT (tgSet [] 0 tg) (fun env1 => evAnd Φ gl env1 []) ec envw (ts.drop (i + 1))).bind fun gs => .ok (g :: gs) else .stk).bind fun rs => .ok (.nod true .lst (gs ++ rs))) HP1 Hs H1 Q := w
    show bW X scope elt Wc σ1 H' _
    intro s0 H0 Ca cl fp xe hpass
    refine Se s0 H0 Ca cl fp xe hpass env1 σ1 HP' Hs H' _ pv1 ((hs1.step h5).step st') st'.sees ?_
    cases qe : ec env1 with
    | exc x =>
      rw [qe] at w
      exact fun cls d HP2 H2 xv st2 => w cls d HP2 H2 xv ((h5.trans st').trans st2)
    | stk => rw [qe] at w; exact w.elim
    | ok g =>
      rw [qe] at w
      simp only [Res.bind] at w
      intro y HP3 H3 Oy rg nd fr st3
      have st := st'.trans st3
      obtain ⟨k1, k2, k3, k4, k5⟩ := keep st
      by_cases hf : g.free = true
      · rw [if_pos hf] at w
        refine ⟨vs, k1, by rw [← h2.len]; omega, ?_⟩
        have dO : D ∉ O := fun z => (h4 D z).2.2 rfl
        have dOy : D ∉ Oy := fun z => by
          have := (fr D z).1
          rw [(keep st').1] at this; cases this
        refine ⟨HP3, gs ++ [g], vs ++ [y], O ++ Oy, upd_same, RGs.updD (fun z => (List.mem_append.mp z).elim dO dOy) (k2.app1 rg), List.nodup_append.mpr ⟨h3, nd, fun a ha b hb eab => ?_⟩, fun p hp => ?_, ?_, k5, by rw [List.length_append]; simp; omega, ?_⟩
        · subst eab
          obtain ⟨u, hu⟩ := (keep st').2.1.ownIn a ha
          rw [(fr a hb).1] at hu; cases hu
        · rcases List.mem_append.mp hp with z | z
          · exact k3 p z
          · exact ⟨(keep st').2.2.2.1.ex.none (fr p z).1, (fr p z).2, fun z2 => dOy (by rw [← z2]; exact z)⟩
        · exact ⟨k4.ex.updR hD, fun z => tbs_lst k1 (k4.tb z), k4.exP, k4.new, k4.sees.updR k5⟩
        · cases qr : lcT (tgSet [] 0 tg) (fun env1 => evAnd Φ gl env1 []) ec envw (ts.drop (i + 1)) with
          | exc x => simp only [qr] at w; simp only [qr, Res.bind]; exact w
          | stk => simp only [qr] at w; exact w.elim
          | ok rs =>
            simp only [qr] at w
            simp only [qr, Res.bind]
            rw [List.append_assoc]
            exact w
      · rw [if_neg hf] at w; exact w.elim
end
theorem lcX_ok (C : Ctx X CX XE tb sc Φ gl cA) (hcx : CX = L2N.CX X.prog X.w) (hstk : X.stack = X.env :: X.outer) (hfm : X.env.frame = some X.env.locals) {n : Nat} {y : Str} {py pos : Pos} {elt iter : Expr} {scope : Scope} {i : Nat} {a : E} {f : Str} {es : List E}
    (ht : toTg tb scope (.Name y py) = some (.nm i)) (hi : toE tb sc n iter = some a) (he : callX tb (relS scope sc) n elt = some (f, es)) (hok : lcOk tb sc scope (.nm i) .it [] = true) :
    SndW X cA (fun σ cls d G => wpX X cls d σ G) (.ListComp elt [⟨.Name y py, iter, [], 0⟩] scope pos) (fun env => evX Φ gl env (.lc i a f es)) := by
  intro env σ HP Hs H Q pv hs hp w
  unfold lcOk at hok
  simp only [Bool.and_eq_true, decide_eq_true_eq, Bool.not_eq_true'] at hok
  have bk : BlkOk X.N X.env.scope scope (tgOwn tb.N (.nm i)) := by rw [C.nm, C.scp]; exact blkOk_by hok.1.1
  have Cb : ∀ s0 H0 Ca cl fp xe, Ctx (Xbx X s0 H0 scope Ca cl fp xe) CX XE tb (relS scope sc) Φ gl cA := fun s0 H0 Ca cl fp xe => (C.blk scope s0 H0 Ca cl fp).wish xe
  refine ⟨_, pe_lcX (wi := _) (g := gOf X.K (.nm i)) (tt := tYes) (te := fun σ0 Wc => bW X scope elt Wc) C.calm hstk hfm C.nd (pi_list peE) bk (fun s H Ca cl fp => pg_of (TgC.blk C scope s H Ca cl fp) ht) (fun s H Ca cl fp => pts_nil)
    (fun σ0 s H Ca cl fp xe hpass => ⟨fun pins s' σ H' Q I h => peE.run pins s' σ H' Q I (h s H Ca cl fp xe hpass)⟩) (toE_fold hi _), ?_⟩
  have own : (tgOwn tb.N (.nm i)).map (·.2) = tgIs (.nm i) := by unfold tgOwn; rw [List.map_map]; exact List.map_id _
  rw [own]
  simp only [evX] at w
  refine toE_ok C n iter a hi env σ HP Hs H _ pv hs hp ?_
  cases qa : ev Φ gl env a with
  | exc x => rw [qa] at w; exact w.elim
  | stk => rw [qa] at w; exact w.elim
  | ok g =>
    rw [qa] at w
    simp only [hardR, Res.bind, evXl] at w
    cases ql : lstItems g with
    | none => rw [ql] at w; exact w.elim
    | some ts =>
      rw [ql] at w
      simp only at w
      split at w
      · rename_i hz
        intro v HP1 H1 O rg nd fr st
        obtain ⟨p, vs, rfl, h2, h3⟩ := rg.lstI st.sees (hs.step st).e ql
        have h2 : SqL X.K H1 p vs := C.kK ▸ h2
        refine ⟨p, rfl, ⟨vs, h2⟩, fun D hD => ?_⟩
        have w := w.from st
        refine lc_list (xs := vs) (Qd := fun H => Q (.ref D) H) (LcIW cA (fun cls d G => wpX X cls d σ G) HP1 Hs H1 D Q (fun j => lcT (tgSet [] 0 (.nm i)) (fun env1 => evAnd Φ gl env1 []) (fun env1 => evXc Φ gl env1 f es) (wipeE (tgIs (.nm i)) env) (ts.drop j))) (lcIW_0 st.sees hD w) (fun j H2 _ h => ?_) (fun j x H2 hx h => ?_) (fun H2 h => ?_)
        · obtain ⟨HP2, gs, vs2, O2, _, _, _, _, s5, _⟩ := h
          exact SqL.ex s5.ex h2
        · obtain ⟨t, ht2, rt⟩ := h3.at' hx
          exact lcIW_step (tg := .nm i) (fun s0 H0 Ca cl fp xe hpass => callX_ok (Cb s0 H0 Ca cl fp xe) hcx (fun τ => hpass τ) he) hD (hs.step st) ((pv.wipe (tgIs (.nm i))).mono st.exP) hz ht2 h fun HP st => ⟨HP, Step.refl st.sees, rt.mono st.exP⟩
        · refine lcIW_end hD (n := vs.length) ?_ h
          show lcT _ _ _ _ (ts.drop vs.length) = _
          rw [List.drop_of_length_le (Nat.le_of_eq h3.len)]
          rfl
      · exact w.elim
/-- everything that may raise -/
theorem toEX_ok (C : Cst X CX XE tb sc Φ gl cA) {n : Nat} {ex : Expr} {x : EX} (h : toEX tb sc n ex = some x) : SndW X cA (fun σ cls d G => wpX X cls d σ G) ex (fun env => evX Φ gl env x) := by
  have hx : ∀ σ, PassesAt (L2N.CX X.prog X.w) X σ ((fun σ cls d G => wpX X cls d σ G) σ) := fun σ => L2N.passAt takesX σ
  unfold toEX at h
  split at h
  · split at h
    · rename_i e1 e2 e3
      split at h
      · rename_i hok
        cases h
        exact lcX_ok C.c C.cx C.stk C.frm e1 e2 e3 hok
      · cases h
    · cases h
  · split at h
    · rename_i q
      cases h
      exact callX_ok C.c C.cx hx q
    · split at h
      · rename_i hc
        cases q : toXAs tb sc n _ with
        | none => rw [q] at h; cases h
        | some es => rw [q] at h; cases h; exact mkX_ok C.c C.cx hx hc q
      · cases h
  · cases h
theorem toEX_swaps {n : Nat} {e : Expr} {x : EX} (h : toEX tb sc n e = some x) (hl : isLcB e = false) (t : Option Expr) (l : Nat) (env : PySem.Env) : swapsWith e t l env = pure false := by
  unfold toEX at h
  split at h
  · cases hl
  · rfl
  · cases h
theorem freshW {k : Fk} {env : Env} {σ : St} {HP H HP1 H1 : Hp} {O Og : List Addr} {g : G} {v : V} (s : SR cA k HP H env σ O) (hf : g.free = true) (rg : RG cA HP1 H H1 g v Og) (nd : Og.Nodup) (fr : ∀ p ∈ Og, H p = none ∧ HP1 p = none) (st : Step HP H HP1 H1) :
    SR cA k HP1 H1 env σ O ∧ (Og ++ O).Nodup ∧ (∀ p ∈ Og, k.mine HP1 p) ∧ RG cA HP1 k.HB H1 g v Og := by
  have dis : ∀ a ∈ Og, ∀ b ∈ O, a ≠ b := fun a ha b hb e => by
    subst e
    obtain ⟨o, z⟩ := s.rs.ownIn a hb
    rw [(fr a ha).1] at z; cases z
  exact ⟨s.step st, List.nodup_append.mpr ⟨nd, s.nd, dis⟩, fun p hp => ⟨(s.free (fr p hp).1).1, (fr p hp).2, (s.free (fr p hp).1).2⟩, rg.freeB hf⟩
theorem snd_asgX (C : Cst X CX XE tb sc Φ gl cA) {n : Nat} {x : Str} {e : Expr} {ea : EX} {i : Nat} {o : Ow} {p pos : Pos} (h1 : locB sc x = true) (h2 : slotOf tb.N x = some i) (hl : isLcB e = false) (he : toEX tb sc n e = some ea) :
    SndSt X Φ gl cA P (.Assign [.Name x p] e pos) (.asgX i o ea) := by
  intro k env σ HP H O D s w
  refine ⟨_, ps_set (i := i) C.c.nd (by rw [C.c.nm]; exact slot_get h2) (by rw [C.c.scp]; exact loc_of h1) peE (toEX_swaps he hl _ _ _) (.inl (C.fn x)), ?_⟩
  show wpE X e σ H fun v H1 => D.nx (σ.set i (some v)) H1
  unfold exec at w
  refine toEX_ok C he env σ HP H H _ s.pv s.hs s.eP ?_
  simp only
  cases q : evX Φ gl env ea with
  | exc x =>
    rw [q] at w
    exact fun cls d HP1 H1 xv st => w cls d σ HP1 H1 O (s.step st) (fun _ _ => rfl) xv
  | stk => rw [q] at w; exact w.elim
  | ok g =>
    rw [q] at w
    intro v HP1 H1 Og rg nd fr st
    simp only [asgXO] at w
    split at w
    · rename_i hi
      obtain ⟨s1, nd1, mine, rg⟩ := freshW s hi.1 rg nd fr st
      cases o with
      | own =>
        obtain ⟨O', s', _⟩ := s1.put rg nd1 mine hi.2.2
        exact w _ _ _ O' s' (pins_set hi.2.1)
      | frz =>
        obtain ⟨HP', O', s'⟩ := s1.putF rg hi.1 nd1 mine hi.2.2
        exact w _ _ _ O' s' (pins_set hi.2.1)
      | sh =>
        obtain ⟨HP', O', s'⟩ := s1.putS rg hi.1 nd1 mine hi.2.2
        exact w _ _ _ O' s' (pins_set hi.2.1)
    · exact w.elim
theorem snd_retX (C : Cst X CX XE tb sc Φ gl cA) {n : Nat} {e : Expr} {ea : EX} {pos : Pos} (he : toEX tb sc n e = some ea) : SndSt X Φ gl cA P (.Return (some e) pos) (.retX ea) := by
  intro k env σ HP H O D s w
  refine ⟨_, ps_ret peE, ?_⟩
  show wpE X e σ H D.rt
  unfold exec at w
  refine toEX_ok C he env σ HP H H _ s.pv s.hs s.eP ?_
  simp only
  cases q : evX Φ gl env ea with
  | exc x =>
    rw [q] at w
    exact fun cls d HP1 H1 xv st => w cls d σ HP1 H1 O (s.step st) (fun _ _ => rfl) xv
  | stk => rw [q] at w; exact w.elim
  | ok g =>
    rw [q] at w
    intro v HP1 H1 Og rg nd fr st
    simp only [retXO] at w
    split at w
    · rename_i hf
      obtain ⟨s1, nd1, mine, rg⟩ := freshW s hf rg nd fr st
      exact w v σ HP1 H1 Og O rg s1 (fun _ _ => rfl) nd1 mine
    · exact w.elim
end
end Bv
set_option maxRecDepth 100000
set_option maxHeartbeats 2000000
/-! Part 17d: exceptions: raise, a call for its own sake, try .. except C as e. -/
namespace Bv
open PySem L2
theorem flat_rt {cA : CA} {H : Hp} {t : T} (h : flatT t = true) : RT cA H t (toV t) := by
  cases t with
  | nod _ _ => cases h
  | _ => rfl
theorem nt_xd {fs : List (Str × V)} : nt (.xd fs) := fun _ z => by cases z
theorem XAt.mono {cA : CA} {HP HP' H H' : Hp} {x : Exn} {d : Option Addr} (eP : Ex HP HP') (e : Ex H H') (h : XAt cA HP H x d) : XAt cA HP' H' x d := h.imp id fun ⟨dd, vs, n, c, z, r⟩ => ⟨dd, vs, n, c, e.k _ _ nt_xd z, r.mono eP⟩
theorem XAt.std {cA : CA} {HP H : Hp} {x : Exn} {d : Option Addr} (h : XAt cA HP H x d) : DStd H d := fun dd e => by
  rcases h with ⟨_, h⟩ | ⟨d2, vs, _, c, z, _⟩
  · rw [e] at h; cases h
  · rw [e] at c; cases c; exact ⟨_, z⟩
theorem XAt.one {cA : CA} {HP H : Hp} {x : Exn} {d : Option Addr} {f : Str} {t : T} (h : XAt cA HP H x d) (e : x.fs = [(f, t)]) : ∃ dd v, d = some dd ∧ H dd = some (.xd [(f, v)]) ∧ RT cA HP t v := by
  rcases h with ⟨z, _⟩ | ⟨dd, vs, _, c, hd, r⟩
  · rw [z] at e; cases e
  · rw [e] at hd r
    obtain ⟨v, r', h1, h2, h3⟩ := r
    subst h1
    cases h3
    exact ⟨dd, v, c, hd, h2⟩
theorem passE {P : Program} {w : World} {Y : Cx} : Passes (L2N.CX P w) Y (fun _ _ _ => False) := fun _ _ _ _ _ _ _ h => by
  obtain ⟨_, _, _, _, _, _, _, _, _, _, _, _, z⟩ := h
  exact z.elim
theorem XAt.cases1 {cA : CA} {HP H : Hp} {x : Exn} {d : Option Addr} (h : XAt cA HP H x d) : x.fs.length ≠ 1 ∨ ∃ f t dd v, x.fs = [(f, t)] ∧ d = some dd ∧ H dd = some (.xd [(f, v)]) ∧ RT cA HP t v := by
  cases e : x.fs with
  | nil => left; simp
  | cons p r =>
    cases r with
    | cons _ _ => left; simp
    | nil =>
      obtain ⟨f, t⟩ := p
      obtain ⟨dd, v, a, b, c⟩ := h.one e
      exact .inr ⟨f, t, dd, v, rfl, a, b, c⟩
section
variable [TC] {X : Cx} {CX : CXT} {XE : XK} {tb : Tb} {sc : Scope} {Φ : Fns} {gl : Str → Option T} {cA : CA} {P : List Nat}
theorem SR.blank {k : Fk} {HP H : Hp} {env : Env} {σ : St} {O : List Addr} (s : SR cA k HP H env σ O) (i : Nat) (w : Option V) : ∃ O', SR cA k HP H (env.set i none) (σ.set i w) O' := by
  obtain ⟨Oa, O2, r, pm⟩ := s.rs.drop i w
  have m2 : ∀ p ∈ O2, p ∈ O := fun p hp => pm.mem_iff.mpr (List.mem_append_right _ hp)
  exact ⟨O2, r, s.tb, (List.nodup_append.mp (pm.nodup_iff.mp s.nd)).2.1, fun p hp => s.own0 p (m2 p hp), s.eP, s.eB, s.eX, s.ex0, s.new0⟩
theorem snd_raise (C : Cst X CX XE tb sc Φ gl cA) {x m : Str} {j : Nat} {p p2 pos pos' : Pos} (hg : glB sc x = true) (hsn : sane x = true) (hx : tb.xcs.contains x = true) : SndSt X Φ gl cA P (.Raise (some (.Call (.Name x p) [.Constant (.str m) j p2] [] pos)) none pos') (.raise x) := by
  intro k env σ HP H O D s w
  unfold exec at w
  split at w
  · rename_i hc
    have T := C.c.xc x hc
    refine ⟨_, L2N.ps_raise C.c.calm takesX (L2N.pmk_own PySem.F.excBase_ValueError T.ex (C.c.xv x hx) T.kp (raises_own T.sb T.ty) (C.c.Gl hg) (sane_of hsn).1), ?_⟩
    exact w _ _ σ HP H O s (fun _ _ => rfl) ⟨rfl, .inl ⟨rfl, rfl⟩⟩
  · exact w.elim
theorem snd_raise1 (C : Cst X CX XE tb sc Φ gl cA) {x : Str} {e : Expr} {a : E} {n : Nat} {p pos pos' : Pos} (hg : glB sc x = true) (hsn : sane x = true) (hx : tb.xcs.contains x = true) (he : toE tb sc n e = some a) : SndSt X Φ gl cA P (.Raise (some (.Call (.Name x p) [e] [] pos)) none pos') (.raise1 x a) := by
  intro k env σ HP H O D s w
  unfold exec at w
  cases q : ev Φ gl env a with
  | exc x => rw [q] at w; exact w.elim
  | stk => rw [q] at w; exact w.elim
  | ok g =>
    rw [q] at w
    cases g with
    | nod o kd gs => exact w.elim
    | val t =>
      simp only at w
      split at w
      · rename_i f hf
        split at w
        · rename_i hfl
          obtain ⟨fI, fdt, T, hr⟩ := C.c.xi x f hf
          obtain ⟨ps, F, hb⟩ := xi_ok (P := X.prog) (w := X.w) (base := X.base) T
          refine ⟨_, L2N.ps_raise C.c.calm takesX (pmkN_oex (CX := L2N.CX X.prog X.w) T.oc T.iC T.tI F hr hb passE (C.c.Gl hg) (C.c.xv x hx) (pa_cons peE pa_nil (toE_star he [] _)) (sane_of hsn).1 (toE_star he [] _) rfl), ?_⟩
          refine toE_ok C.c n e a he env σ HP H H _ s.pv s.hs s.eP ?_
          rw [q]
          intro v HP1 H1 O1 rg nd fr st
          have hv : v = toV t := by
            cases t with
            | nod _ _ => cases hfl
            | _ => exact rg.1
          subst hv
          refine ⟨by simp, fun a ha => ⟨a, toV t, rfl, upd_same, fun dx hdx ne => ⟨rfl, dx, [(f, toV t)], upd_same, by rw [upd_ne ne, upd_same], ?_, ?_⟩⟩⟩
          · rw [upd_ne ne] at hdx; exact hdx
          · rw [upd_ne ne] at hdx
            have eq : upd (del (upd (upd (upd H1 a (exo a (cA.ad x) none)) dx (exd dx [(f, toV t)])) a (exo a (cA.ad x) (some dx))) a) dx (.xd [(f, toV t)]) = upd H1 dx (.xd [(f, toV t)]) := by
              funext b
              by_cases h1 : b = dx
              · rw [h1, upd_same, upd_same]
              · rw [upd_ne h1, upd_ne h1]
                by_cases h2 : b = a
                · rw [h2, del_same, ha]
                · rw [del_ne h2, upd_ne h2, upd_ne h1, upd_ne h2]
            rw [eq]
            exact w _ _ σ HP1 _ O ((s.step st).step (Step.own st.sees hdx)) (fun _ _ => rfl) ⟨rfl, .inr ⟨dx, [toV t], by simp, rfl, upd_same, toV t, [], rfl, flat_rt hfl, rfl⟩⟩
        · exact w.elim
      · exact w.elim
theorem snd_exp (C : Cst X CX XE tb sc Φ gl cA) {f : Str} {p cpos pos : Pos} {a : Expr} {as : List Expr} {es : List E} (hg : glB sc f = true) (hsn : sane f = true) (hf : tb.fns.lookup f = some es.length) (S : SndEs X Φ gl cA (a :: as) es)
    (hst : starEach (a :: as) X.env = (false, eval a X.env) :: starEach as X.env) (hpl : (backTo cpos (starEach as X.env)).any (·.1) = false) : SndSt X Φ gl cA P (.Expr (.Call (.Name f p) (a :: as) [] cpos) pos) (.exp f es) := by
  intro k env σ HP H O D s w
  obtain ⟨s1, _, s3⟩ := sane_of hsn
  obtain ⟨fa, fd, ps, kk, hp, hm, hk, hb, F, hr⟩ := C.c.fn f _ hf
  rw [C.cx] at F
  refine ⟨_, ps_expr (pe_callS (E := WE (wpX X)) F hr (C.c.Gl hg) hm hk hb (L2N.passAt takesX) paA s1 hst hpl) rfl, ?_⟩
  show wpA X (a :: as) σ H fun vs H1 => spOf cA Φ f es.length vs H1 (fun _ H2 => D.nx σ H2) (WE (wpX X) σ)
  unfold exec at w
  cases q : evs Φ gl env es with
  | exc x => rw [q] at w; exact w.elim
  | stk => rw [q] at w; exact w.elim
  | ok gs =>
    rw [q] at w
    simp only at w
    refine S env σ HP H H _ s.pv s.hs s.eP ?_
    rw [q]
    intro vs HP1 H1 O1 rg nd fr st
    have hs1 := s.hs.step st
    have st' := st.freeze (O := O1) fun p hp => (fr p hp).1
    have hlen : vs.length = es.length := by rw [← rg.len]; exact evs_len q
    refine ⟨hlen, hs1.tb, ad HP1 O1 H1, G.args gs, [], st'.sees, by rw [mn_nil]; exact rg.args st.sees hs1.e, List.nodup_nil, (fun _ z => nomatch z), ?_⟩
    unfold expO at w
    cases qc : Φ.call f (G.args gs) with
    | exc x gs' =>
      rw [qc] at w
      exact fun cls d HP2 H2 xv st2 => w cls d σ HP2 H2 O ((s.step st').step st2.nil) (fun _ _ => rfl) xv
    | stk => rw [qc] at w; exact w.elim
    | ok r gs' =>
      rw [qc] at w
      simp only at w
      split at w
      · rename_i hf
        exact ⟨hf, fun v HP2 H2 Or O' r1 r2 nd' fr' st2 => w σ HP2 H2 O ((s.step st').step st2.nil) fun _ _ => rfl⟩
      · exact w.elim
/-! ### the suite -/
theorem xval_own {D : Str} (h : ¬ (D == ("ValueError" : Str)) = true) : xval cA D = .ref (cA.ad D) := if_neg fun z => h (beq_iff_eq.mpr z)
theorem pe_xn (C : Cst X CX XE tb sc Φ gl cA) {D : Str} {p : Pos} (h : xnmB tb sc D = true) (a : Addr) (pn : List (Addr × Obj)) : ∃ v, PE (X.suite a pn) (.Name D p) (tC v) ∧ ClsV v (xval cA D) := by
  unfold xnmB at h
  simp only [Bool.and_eq_true] at h
  obtain ⟨s1, _, s3⟩ := sane_of h.1.2
  by_cases e : (D == ("ValueError" : Str)) = true
  · have := beq_iff_eq.mp e
    subst this
    rw [if_pos e] at h
    refine ⟨.ty "ValueError", pe_bltn (C.c.Gl h.1.1) (C.c.bl _ h.2) (by decide +kernel) (show RelV (.ty "ValueError") (.type "ValueError") from rfl) s3 s1, ?_⟩
    exact .ty "ValueError"
  · rw [if_neg e] at h
    refine ⟨.ref (cA.ad D), pe_glob (C.c.Gl h.1.1) (C.c.xv D h.2) rfl s1, ?_⟩
    rw [xval_own e]
    exact .own _
theorem pa_xn (C : Cst X CX XE tb sc Φ gl cA) (a : Addr) (pn : List (Addr × Obj)) : ∀ {ds : List Expr} {Ds : List Str}, xnms tb sc ds = some Ds → ∃ (t : TA) (vs : List V), PA (X.suite a pn) ds t ∧ (∀ σ H Q, Q vs H → t σ H Q) ∧ Paired ClsV vs (Ds.map (xval cA)) ∧ vs.length = ds.length
  | [], _, h => by cases h; exact ⟨_, [], pa_nil, fun σ H Q q => q, .nil, rfl⟩
  | .Name D p :: r, Ds, h => by
    unfold xnms at h
    split at h
    · rename_i hd
      cases q : xnms tb sc r with
      | none => rw [q] at h; cases h
      | some Es =>
        rw [q] at h
        cases h
        obtain ⟨v, pv, cv⟩ := pe_xn C hd a pn
        obtain ⟨t, vs, pt, ht, ct, hl⟩ := pa_xn C a pn q
        exact ⟨_, v :: vs, pa_cons pv pt rfl, fun σ H Q q => ht σ H _ q, .cons cv ct, by rw [List.length_cons, List.length_cons, hl]⟩
    · cases h
theorem isAny_ok (C : Cst X CX XE tb sc Φ gl cA) {c : Str} : ∀ {Ds : List Str} {b : Bool}, isAny Φ c Ds = some b → PySem.W.kitAny X.K (.ref (cA.ad c)) (Ds.map (xval cA)) = some b
  | [], b, h => by cases h; rfl
  | D :: Ds, b, h => by
    unfold isAny at h
    rw [List.map_cons]
    unfold PySem.W.kitAny
    cases q : Φ.xsub c D with
    | none => rw [q] at h; cases h
    | some r =>
      rw [q] at h
      rw [(C.c.xs c D r q).kit]
      cases r with
      | true => cases h; rfl
      | false => exact isAny_ok C h
section
variable (C : Cst X CX XE tb sc Φ gl cA) {x' : Exn} {n : Str} {i n0 : Nat} {a : Addr} {oe : Obj} {d : Option Addr} {pn : List (Addr × Obj)} (hi : slotOf tb.N n = some i) (hn : sc.names.lookup n = some .local) (hsn : sane n = true) (ec : ExcC X.K (cA.ad x'.cls)) (hz : L2N.Zn (.ref (cA.ad x'.cls)) d oe) (hf : ∃ vs, oe.data = .fields vs)
include C hi hn hsn ec hz hf
theorem ha_ok {e : Expr} {ha : HA} {b : Bool} (h : toHA tb sc n0 n e = some ha) {k : Fk} {env : Env} {σ : St} {HP H : Hp} {O : List Addr} (hb : hatom Φ x' env ha = some b) (s : SR cA k HP H env σ O) (hσ : σ[i]? = some (some (.ref a))) (hx : XAt cA HP H x' d) {Q : VK} (w : ∀ HP1 H1, SR cA k HP1 H1 env σ O → Ex HP HP1 → Ex H H1 → Q (.bl b) H1) :
    wpE (X.suite a ((a, oe) :: pn)) e σ H Q := by
  obtain ⟨n1, n2, _⟩ := sane_of hsn
  have vis : Vis X.env.scope n := by rw [C.c.scp]; exact .inl hn
  have pev : ∀ p, PE (X.suite a ((a, oe) :: pn)) (.Name n p) (tVar i) := fun p => pe_var (X := X.suite a ((a, oe) :: pn)) (i := i) (by show X.N[i]? = _; rw [C.c.nm]; exact slot_get hi) vis n1 n2
  unfold toHA at h
  split at h
  · rename_i f p y py D pD pos
    split at h
    · rename_i hc
      simp only [Bool.and_eq_true] at hc
      cases h
      have e1 := beq_iff_eq.mp hc.1.1.1
      have e2 := beq_iff_eq.mp hc.1.2
      subst e1 e2
      have hB := hc.1.1.2
      unfold builtinB at hB
      simp only [Bool.and_eq_true] at hB
      obtain ⟨s1, _, s3⟩ := sane_of hB.2
      obtain ⟨v, pv, cv⟩ := pe_xn C hc.2 a ((a, oe) :: pn) (p := pD)
      refine ⟨_, pe_callB (id := "isinstance") (call_isO ec hz.zc hf) (C.c.Gl hB.1.1) (C.c.bl _ hB.1.2) (by decide +kernel) (pa_cons (pev py) (pa_cons pv pa_nil rfl) rfl) s3 s1 rfl rfl, ?_⟩
      exact ⟨.ref a, hσ, v, xval cA D, b, rfl, fun u r => cv.eq r, (C.c.xs _ _ _ hb).kit, hx.std, w HP H s (Ex.refl _) (Ex.refl _)⟩
    · cases h
  · rename_i f p y py ds kk tp pos
    split at h
    · rename_i hc
      simp only [Bool.and_eq_true, decide_eq_true_eq] at hc
      cases q : xnms tb sc ds with
      | none => rw [q] at h; cases h
      | some Ds =>
        rw [q] at h
        cases h
        have e1 := beq_iff_eq.mp hc.1.1.1
        have e2 := beq_iff_eq.mp hc.1.2
        subst e1 e2
        have hB := hc.1.1.2
        unfold builtinB at hB
        simp only [Bool.and_eq_true] at hB
        obtain ⟨s1, _, s3⟩ := sane_of hB.2
        obtain ⟨t, vs, pt, ht, ct, hl⟩ := pa_xn C a ((a, oe) :: pn) q
        refine ⟨_, pe_callB (id := "isinstance") (call_isOT ec hz.zc hf) (C.c.Gl hB.1.1) (C.c.bl _ hB.1.2) (by decide +kernel) (pa_cons (pev py) (pa_cons (pe_tup pt) pa_nil rfl) rfl) s3 s1 rfl rfl, ?_⟩
        refine ⟨.ref a, hσ, ?_⟩
        refine ht σ H _ ⟨by rw [hl, sizeLine_eq]; omega, fun q hq => ?_⟩
        exact ⟨q, vs, _, b, rfl, upd_same, ct, isAny_ok C hb, (hx.mono (Ex.refl _) (Ex.new hq)).std, w HP _ (s.step (Step.own s.eP hq)) (Ex.refl _) (Ex.new hq)⟩
    · cases h
  · rename_i y py pos
    split at h
    · rename_i j hj
      cases h
      have hb : (match env[j]? with
        | some (some (.val (.bl b))) => some (!b)
        | _ => none) = some b := hb
      split at hb
      · rename_i c ej
        cases hb
        obtain ⟨v, O1, a1, rg⟩ := s.rs.get ej
        have hv : v = .bl c := rg.1
        subst hv
        obtain ⟨y', pos', e1, h1, h2, h3⟩ := toE_var hj
        cases e1
        obtain ⟨m1, m2, _⟩ := sane_of h2
        refine ⟨_, pe_not (X := X.suite a ((a, oe) :: pn)) (pe_var (X := X.suite a ((a, oe) :: pn)) (i := j) (by show X.N[j]? = _; rw [C.c.nm]; exact slot_get h3) (by show Vis X.env.scope _; rw [C.c.scp]; exact vis_of h1) m1 m2), ?_⟩
        exact ⟨.bl c, a1, c, rfl, w HP H s (Ex.refl _) (Ex.refl _)⟩
      · cases hb
    · cases h
  · rename_i f p y py fd pa c pc pos pos'
    split at h
    · rename_i hc
      simp only [Bool.and_eq_true] at hc
      cases h
      obtain ⟨⟨⟨⟨c1, c2⟩, c3⟩, c4⟩, c5⟩ := hc
      have e1 := beq_iff_eq.mp c1
      have e2 := beq_iff_eq.mp c3
      have e3 := beq_iff_eq.mp c4
      subst e1 e2 e3
      unfold builtinB at c2 c5
      simp only [Bool.and_eq_true] at c2 c5
      obtain ⟨s1, _, s3⟩ := sane_of c2.2
      obtain ⟨s4, _, s6⟩ := sane_of c5.2
      have hb2 : (if Φ.xin x'.cls = some fd then (match x'.fs with
        | [(g, t)] => if g = fd then (match isiT t (.ty "bool") with
          | .ok b => some (!b)
          | _ => none) else none
        | _ => none) else none) = some b := hb
      split at hb2
      · rename_i hxi
        obtain ⟨fI, fdt, T, hr⟩ := C.c.xi _ _ hxi
        rcases hx.cases1 with z | ⟨g, t, dd, tv, efs, rfl, hd, rtv⟩
        · exfalso
          revert hb2
          cases e : x'.fs with
          | nil => intro q; cases q
          | cons p r =>
            cases r with
            | nil => rw [e] at z; exact absurd rfl z
            | cons _ _ => intro q; first | cases q | (split at q <;> first | cases q | simp_all)
        · rw [efs] at hb2
          simp only at hb2
          split at hb2
          · rename_i eg
            subst eg
            cases q : isiT t (.ty "bool") with
            | exc _ => rw [q] at hb2; cases hb2
            | stk => rw [q] at hb2; cases hb2
            | ok r =>
              rw [q] at hb2
              cases hb2
              refine ⟨_, pe_not (X := X.suite a ((a, oe) :: pn)) (pe_callB (id := "isinstance") cW (C.c.Gl c2.1.1) (C.c.bl _ c2.1.2) (by decide +kernel) (pa_cons (pe_xf (X := X) ⟨ec.hg, ec.hk, ec.hs, ec.hd⟩ T.no hz.zc hf (pev py)) (pa_cons (pe_bltn (C.c.Gl c5.1.1) (C.c.bl _ c5.1.2) (by decide +kernel) (show RelV (.ty "bool") (.type "bool") from rfl) s6 s4) pa_nil rfl) rfl) s3 s1 rfl rfl), ?_⟩
              refine ⟨.ref a, hσ, rfl, rfl, dd, _, tv, rfl, hd, by simp [List.lookup], ?_⟩
              exact isi_ok (X := X.suite a ((a, oe) :: pn)) (H := H) C.c.kK (rtv.mono s.eP) q ⟨_, rfl, w HP H s (Ex.refl _) (Ex.refl _)⟩
          · cases hb2
      · cases hb2
    · cases h
  · rename_i y py fd pa v j pc pos
    split at h
    · rename_i hc
      cases h
      have e2 := beq_iff_eq.mp hc
      subst e2
      have hb2 : (if Φ.xin x'.cls = some fd then (match x'.fs with
        | [(g, t)] => if g = fd then (match cmpT .eq t (.int v) with
          | .ok b => some b
          | _ => none) else none
        | _ => none) else none) = some b := hb
      split at hb2
      · rename_i hxi
        obtain ⟨fI, fdt, T, hr⟩ := C.c.xi _ _ hxi
        rcases hx.cases1 with z | ⟨g, t, dd, tv, efs, rfl, hd, rtv⟩
        · exfalso
          revert hb2
          cases e : x'.fs with
          | nil => intro q; cases q
          | cons p r =>
            cases r with
            | nil => rw [e] at z; exact absurd rfl z
            | cons _ _ => intro q; first | cases q | (split at q <;> first | cases q | simp_all)
        · rw [efs] at hb2
          simp only at hb2
          split at hb2
          · rename_i eg
            subst eg
            cases q : cmpT .eq t (.int v) with
            | exc _ => rw [q] at hb2; cases hb2
            | stk => rw [q] at hb2; cases hb2
            | ok r =>
              rw [q] at hb2
              cases hb2
              refine ⟨_, pe_cmpR (X := X.suite a ((a, oe) :: pn)) opW (pe_xf (X := X) ⟨ec.hg, ec.hk, ec.hs, ec.hd⟩ T.no hz.zc hf (pev py)) pe_int rfl, ?_⟩
              refine ⟨.ref a, hσ, rfl, rfl, dd, _, tv, rfl, hd, by simp [List.lookup], ?_⟩
              exact cmp_ok (X := X.suite a ((a, oe) :: pn)) (H := H) (op := .Eq) (o := .eq) C.c.kK C.c.un rfl (rtv.mono s.eP) (show RT cA H (.int v) (.int v) from rfl) q (w HP H s (Ex.refl _) (Ex.refl _))
          · cases hb2
      · cases hb2
    · cases h
  · rename_i g p y py fd pa v j pc pos
    split at h
    · rename_i hc
      simp only [Bool.and_eq_true] at hc
      cases h
      have e2 := beq_iff_eq.mp hc.1.1
      subst e2
      obtain ⟨s1, _, _⟩ := sane_of hc.2
      have hb2 : (if Φ.isd g = true ∧ Φ.xin x'.cls = some fd then (match x'.fs with
        | [(h, .int i)] => if h = fd then some (decide (i = v)) else none
        | _ => none) else none) = some b := hb
      split at hb2
      · rename_i hx2
        obtain ⟨fI, fdt, T, _⟩ := C.c.xi _ _ hx2.2
        obtain ⟨fa, fdt2, T2, hr⟩ := C.c.hd g hx2.1
        obtain ⟨ps, F, hbi⟩ := isd_ok (P := X.prog) (w := X.w) (base := X.base) (CX := L2N.CX X.prog X.w) T2
        rcases hx.cases1 with z | ⟨g', t, dd, tv, efs, rfl, hd, rtv⟩
        · exfalso
          revert hb2
          cases e : x'.fs with
          | nil => intro q; cases q
          | cons p r =>
            cases r with
            | nil => rw [e] at z; exact absurd rfl z
            | cons _ _ => intro q; first | cases q | (split at q <;> first | cases q | simp_all)
        · rw [efs] at hb2
          cases t with
          | int n =>
            simp only at hb2
            split at hb2
            · rename_i eg
              subst eg
              cases hb2
              have hot : L2H.HotC (X.suite a ((a, oe) :: pn)) := ⟨(a, oe), ⟨rfl, by
                obtain ⟨vs, hv⟩ := hf
                exact ⟨vs, hv, hz.2.2 vs hv⟩⟩, List.mem_cons_self⟩
              have hx0 : ∀ σ, PassesAt (L2N.CX X.prog X.w) (X.suite a ((a, oe) :: pn)) σ (fun _ _ _ => False) := fun σ pins H s e s' I c => by
                obtain ⟨_, _, _, _, _, _, _, _, _, _, _, _, z⟩ := c
                exact z.elim
              refine ⟨_, L2H.pe_callH (X := X.suite a ((a, oe) :: pn)) (E := fun _ _ _ _ => False) F ⟨(hr.mono (by omega : 1 ≤ 2)).dp, (hr.mono (by omega : 1 ≤ 2)).un⟩ hot (C.c.Gl hc.1.2) T2.mn T2.kp hbi hx0 (pa_cons (pe_xf (X := X) ⟨ec.hg, ec.hk, ec.hs, ec.hd⟩ T.no hz.zc hf (pev py)) (pa_cons pe_int pa_nil rfl) rfl) s1 rfl rfl, ?_⟩
              cases rtv
              exact ⟨.ref a, hσ, rfl, rfl, dd, _, .int n, rfl, hd, by simp [List.lookup], n, v, rfl, w HP H s (Ex.refl _) (Ex.refl _)⟩
            · cases hb2
          | _ => cases hb2
      · cases hb2
    · cases h
  · cases h
theorem has_ok {k : Fk} {env : Env} {σ : St} {O : List Addr} (hσ : σ[i]? = some (some (.ref a))) {pos : Pos} : ∀ {es : List Expr} {as : List HA} {b : Bool} {HP H : Hp}, toHAs tb sc n0 n es = some as → hall Φ x' env as = some b → SR cA k HP H env σ O → XAt cA HP H x' d → ∀ {Q : VK}, (∀ HP1 H1, SR cA k HP1 H1 env σ O → Ex HP HP1 → Ex H H1 → Q (.bl b) H1) → wpE (X.suite a ((a, oe) :: pn)) (.BoolOp .And es pos) σ H Q
  | [], as, b, HP, H, h, hb, s, hx, Q, w => by cases h; cases hb
  | [e], as, b, HP, H, h, hb, s, hx, Q, w => by
    unfold toHAs at h
    cases q : toHA tb sc n0 n e with
    | none => rw [q] at h; cases h
    | some r =>
      rw [q] at h
      unfold toHAs at h
      cases h
      exact ⟨_, pe_one peE, ha_ok C hi hn hsn ec hz hf q hb s hσ hx w⟩
  | e :: e2 :: es, as, b, HP, H, h, hb, s, hx, Q, w => by
    unfold toHAs at h
    cases q : toHA tb sc n0 n e with
    | none => rw [q] at h; cases h
    | some r =>
      cases q2 : toHAs tb sc n0 n (e2 :: es) with
      | none => rw [q, q2] at h; cases h
      | some rs =>
        rw [q, q2] at h
        cases h
        have ne : ∃ r2 rs2, rs = r2 :: rs2 := by
          unfold toHAs at q2
          cases q3 : toHA tb sc n0 n e2 with
          | none => rw [q3] at q2; cases q2
          | some r2 =>
            cases q4 : toHAs tb sc n0 n es with
            | none => rw [q3, q4] at q2; cases q2
            | some rs2 => rw [q3, q4] at q2; cases q2; exact ⟨r2, rs2, rfl⟩
        obtain ⟨r2, rs2, rfl⟩ := ne
        refine ⟨_, pe_and peE peE, ?_⟩
        unfold hall at hb
        cases qh : hatom Φ x' env r with
        | none => rw [qh] at hb; cases hb
        | some c =>
          rw [qh] at hb
          refine ha_ok C hi hn hsn ec hz hf q qh s hσ hx fun HP1 H1 s1 eP eH => ⟨c, rfl, ?_⟩
          cases c with
          | true => rw [if_pos rfl]; exact has_ok hσ q2 hb s1 (hx.mono eP eH) fun HP2 H2 s2 eP2 eH2 => w HP2 H2 s2 (eP.trans eP2) (eH.trans eH2)
          | false => cases hb; exact w HP1 H1 s1 eP eH
theorem hs_ok {k : Fk} {D D' : Ends} {σ0 : St} (hD : D'.rt = D.rt) : ∀ {hs : List HS} {sts : List Stmt} {env : Env} {σ : St} {HP H : Hp} {O : List Addr}, toHS tb sc n0 n sts = some hs → SR cA k HP H env σ O → XAt cA HP H x' d → σ[i]? = some (some (.ref a)) → (∀ j ∈ P, σ[j]? = σ0[j]?) → WpOut X cA k P (hexec Φ P x' i hs env) σ0 D →
    wpSs (X.suite a ((a, oe) :: pn)) sts D' σ H := by
  intro hs
  induction hs with
  | nil => intro sts env σ HP H O h s hx hσ hp w; unfold hexec at w; exact w.elim
  | cons x hs ih =>
    intro sts env σ HP H O h s hx hσ hp w
    unfold toHS at h
    split at h
    · rename_i e es p pos
      cases q : toHAs tb sc n0 n (e :: es) with
      | none => rw [q] at h; cases h
      | some r =>
        rw [q] at h
        cases h
        unfold hexec at w
        cases q2 : hall Φ x' env r with
        | none => rw [q2] at w; exact w.elim
        | some b =>
          rw [q2] at w
          refine ⟨_, pss_cons (ps_ret peE) pss_nil, ?_⟩
          refine has_ok C hi hn hsn ec hz hf hσ q q2 s hx fun HP1 H1 s1 _ _ => ?_
          show D'.rt (.bl b) H1
          rw [hD]
          exact w (.bl b) σ HP1 H1 [] O ⟨rfl, rfl⟩ s1 hp s1.nd (fun _ z => nomatch z)
    · rename_i y p e pos r
      split at h
      · rename_i j c rs e1 e2 e3
        cases h
        split at e1
        · rename_i hl
          unfold hexec at w
          split at w
          · rename_i hj
            cases q2 : hatom Φ x' env c with
            | none => rw [q2] at w; exact w.elim
            | some b =>
              rw [q2] at w
              have sw : swapsWith e (some (.Name y p)) pos.line (X.suite a ((a, oe) :: pn)).env = pure false := by
                unfold toHA at e2
                split at e2
                · rfl
                · rfl
                · rfl
                · rfl
                · rfl
                · rfl
                · cases e2
              refine ⟨_, pss_cons (ps_set (i := j) (X := X.suite a ((a, oe) :: pn)) C.c.nd (by show X.N[j]? = _; rw [C.c.nm]; exact slot_get e1) (by show Loc X.env.scope y; rw [C.c.scp]; exact loc_of hl) peE sw (.inl (C.fn y))) pssS, ?_⟩
              refine ha_ok C hi hn hsn ec hz hf e2 q2 s hσ hx fun HP1 H1 s1 eP eH => ?_
              obtain ⟨O', s2⟩ := s1.val (t := .bl b) (v := .bl b) rfl hj.2.1
              refine ih e3 s2 (hx.mono eP eH) (by rw [List.getElem?_set_ne hj.2.2]; exact hσ) (fun l hl' => ?_) w
              rw [List.getElem?_set_ne (fun z => hj.1 (by rw [z]; exact hl'))]
              exact hp l hl'
          · exact w.elim
        · cases e1
      · cases h
    · cases h
end
theorem snd_try (C : Cst X CX XE tb sc Φ gl cA) {body : List Stmt} {x n : Str} {np pos' pos : Pos} {b₀ : Stmt} {suite : List Stmt} {sb : List S} {hs : List HS} {i n0 : Nat} (hg : glB sc x = true) (hsx : sane x = true) (hx : tb.xcs.contains x = true) (hv : ¬ (x == ("ValueError" : Str)) = true) (hi : slotOf tb.N n = some i) (hn : sc.names.lookup n = some .local) (hsn : sane n = true)
    (Sb : ∀ Y, Cst Y CX XE tb sc Φ gl cA → SndSts Y Φ gl cA P body sb) (hh : toHS tb sc n0 n (b₀ :: suite) = some hs) : SndSt X Φ gl cA P (.Try body [.ExceptHandler (some (.Name x np)) (some n) (b₀ :: suite) pos'] [] [] pos) (.tryE sb x i hs) := by
  intro k env σ HP H O D s w
  unfold exec at w
  split at w
  · rename_i hip
    refine ⟨_, L2N.ps_try_as (i := i) (c := .ref (cA.ad x)) (Wout := wpX X)
      (tb := fun W D σ H => ∀ pn xe, L2N.Takes (X.tr pn xe) W → PassesOwn (model X.prog X.w) X.A X.env xe → wpSs (X.tr pn xe) body D σ H)
      (ts := fun a cls d D σ H => ∀ oe pn, L2N.Zn cls d oe → (∃ vs, oe.data = .fields vs) → wpSs (X.suite a ((a, oe) :: pn)) (b₀ :: suite) D σ H)
      C.stk C.frm C.c.nd (by rw [C.c.nm]; exact slot_get hi) (by show X.env.scope.names.lookup n = _; rw [C.c.scp]; exact hn) ⟨C.c.Gl hg, (sane_of hsx).1, .inl (C.c.xv x hx)⟩ takesX
      (fun W pn xe tk po => ⟨fun pins s σ H D I h => pssS.run pins s σ H D I (h pn xe tk po)⟩)
      (fun a oe cls d pn hz hf => ⟨fun pins s σ H D I h => pssS.run pins s σ H D I (h oe pn hz hf)⟩), ?_⟩
    intro pn xe tk po
    have C' : Cst (X.tr pn xe) CX XE tb sc Φ gl cA := ⟨⟨C.c.scp, C.c.nm, C.c.nd, C.c.calm, C.c.un, C.c.fn, C.c.ps, C.c.kK, C.c.bl, C.c.gv, C.c.cv, C.c.mt, C.c.mi, C.c.fl, C.c.su, C.c.xv, C.c.xc, C.c.xs, C.c.xi, C.c.hd, C.c.xi2, C.c.xk⟩, C.fn, po, C.cx, C.stk, C.frm, C.kf⟩
    refine Sb (X.tr pn xe) C' k env σ HP H O D s ?_
    cases q : execs Φ gl P sb env with
    | nx env1 => rw [q] at w; exact w
    | brk env1 => rw [q] at w; exact w
    | cnt env1 => rw [q] at w; exact w
    | ret g env1 => rw [q] at w; exact w
    | stk => rw [q] at w; exact w
    | exc x' env1 =>
      rw [q] at w
      unfold tryX at w
      simp only at w
      split at w
      · rename_i hb
        intro cls d σ1 HP1 H1 O1 s1 e1 xv
        refine wpX_of tk ?_
        obtain ⟨rfl, hxat⟩ := xv
        have T := C.c.xs x'.cls x true hb
        refine ⟨true, T.em _ (xval_own hv) ▸ (by rw [xval_own hv]), fun _ a ha => ?_, fun z => nomatch z⟩
        intro oe pn2 hz hf
        split at w
        · rename_i hl
          have li : i < σ1.length := by rw [← s1.rs.len]; exact hl
          obtain ⟨O2, s2⟩ := s1.blank i (some (.ref a))
          refine hs_ok C hi hn hsn T.ec hz hf (σ0 := σ) (D := D) (D' := { nx := fun σ' H' => D.nx (σ'.set i none) H', rt := D.rt, bk := fun σ' H' => D.bk (σ'.set i none) H', ct := fun σ' H' => D.ct (σ'.set i none) H' }) rfl hh s2 hxat (List.getElem?_set_self li) (fun j hj => ?_) w
          rw [List.getElem?_set_ne (fun z => hip.1 (by rw [z]; exact hj))]
          exact e1 j hj
        · exact w.elim
      · exact w.elim
  · exact w.elim
theorem xcS_ok (C : Cst X CX XE tb sc Φ gl cA) {ow : List Nat} {n : Nat} {rec : List Stmt → Option (List S)} (Sb : ∀ Y, Cst Y CX XE tb sc Φ gl cA → ∀ (b : List Stmt) (as : List S), rec b = some as → SndSts Y Φ gl cA P b as) {st : Stmt} {sx : S} (h : xcS tb sc ow n rec st = some sx) : SndSt X Φ gl cA P st sx := by
  unfold xcS at h
  split at h
  · split at h
    · rename_i hc
      simp only [Bool.and_eq_true] at hc
      cases h
      exact snd_raise C hc.1.1 hc.1.2 hc.2
    · cases h
  · split at h
    · rename_i a ha
      split at h
      · rename_i hc
        simp only [Bool.and_eq_true] at hc
        cases h
        exact snd_raise1 C hc.1.1 hc.1.2 hc.2 ha
      · cases h
    · cases h
  · split at h
    · rename_i hc
      simp only [Bool.and_eq_true, Bool.not_eq_true'] at hc
      split at h
      · rename_i i a e1 e2
        cases h
        split at e1
        · rename_i hl
          exact snd_asgX C hl e1 hc.2 e2
        · cases e1
      · cases h
    · cases h
  · split at h
    · cases q : toEX tb sc n _ with
      | none => rw [q] at h; cases h
      | some a => rw [q] at h; cases h; exact snd_retX C q
    · cases h
  · rename_i f p a as cpos pos
    cases q : toEs (toE tb sc n) (a :: as) with
    | none => rw [q] at h; cases h
    | some es =>
      rw [q] at h
      simp only at h
      split at h
      · rename_i hc
        simp only [Bool.and_eq_true] at hc
        cases h
        have qa : ∃ x, toE tb sc n a = some x := by
          unfold toEs at q
          cases q1 : toE tb sc n a with
          | none => rw [q1] at q; cases q
          | some x => exact ⟨x, rfl⟩
        obtain ⟨xa, qa⟩ := qa
        have qas : ∃ xs, toEs (toE tb sc n) as = some xs := by
          unfold toEs at q
          cases q1 : toEs (toE tb sc n) as with
          | none => rw [qa, q1] at q; cases q
          | some x => exact ⟨x, rfl⟩
        obtain ⟨xs, qas⟩ := qas
        exact snd_exp C hc.1.1 hc.1.2 (beq_iff_eq.mp hc.2) (toEs_ok (toE_ok C.c n) q) (toE_star qa _ _) (toEs_any qas)
      · cases h
  · split at h
    · rename_i e1 e2 e3
      split at h
      · rename_i hc
        simp only [Bool.and_eq_true, Bool.not_eq_true'] at hc
        cases h
        have hn : ∀ y, locO sc y = true → sc.names.lookup y = some .local := fun y this => by
          unfold locO at this
          split at this
          · rename_i e; exact e
          · cases this
        exact snd_try C hc.1.1.1.1.1 hc.1.1.1.1.2 hc.1.1.1.2 (by rw [hc.1.1.2]; decide) e2 (hn _ hc.1.2) hc.2 (fun Y CY => Sb Y CY _ _ e1) e3
      · cases h
    · cases h
  · cases h
end
end Bv
set_option maxRecDepth 100000
set_option maxHeartbeats 2000000
/-! Part 17k: a def, called in an except suite, that asks of which class the exception is. -/
namespace Bv
open PySem PySem.Spec PyProof.Rows L2
section
variable {X : Cx}
/-- l.count(x) -/
def rCountD (K : PySem.W.Frag) : V → List V → Hp → VK → Prop := fun x xs H Q => ∃ (a : Addr) (y : V) (d : PyData) (ds : List PyData), x = V.ref a ∧ xs = [y] ∧ Dp K H (V.ref a) (.list ds) ∧ Dp K H y d ∧
  SeqAt.shaped (.list ds) = true ∧ SeqAt.shaped d = true ∧ Q (.int ((ds.countP fun z => PyData.eqv z d : Nat) : Int)) H
theorem mt_countD (hu : X.A.units + 65 < cLine) : MtR X "list.count" (rCountD X.K) := by
  intro pins s σ H x xs v us Q I rx rxs h
  obtain ⟨a, y, d, ds, rfl, rfl, hl, hy, sl, sd, q⟩ := h
  cases rx
  cases rxs with
  | cons ry rt =>
    rename_i uy ut
    cases rt
    obtain ⟨bs, r1⟩ := Dp.reads I d y uy hy ry
    have hxs : PyData.canLayAll0 ds = true := SeqAt.canLay_of_shaped sl
    have hroom : X.A.units + 1 + min (PyData.depthAll ds) d.depth < cLine := room_in_shaped sd hu
    cases hl with
    | lst hs ha =>
      obtain ⟨its, rv, ⟨⟨cls, dd, data, sls⟩, n, ho, hc, hdn, hdt⟩, hlen⟩ := I.list hs
      simp only at hc hdt
      subst hc hdt
      obtain ⟨as, h4⟩ := Dp.readsAll I ds _ its ha rv
      have hmap : its.map (SeqAt.readOf s.heap) = ds := SeqAt.readsAll_map ds its as hxs h4
      have ec : its.toArray.toList.countP (fun u => PyData.eqv (SeqAt.readOf s.heap u) d) = ds.countP fun z => PyData.eqv z d := by
        rw [← hmap, List.countP_map]; rfl
      refine call_meets PySem.F.slot_list_count ⟨_, ho, rfl⟩ PySem.F.entry_list_count (PySem.F.args_list_count_2 _ _)
        (SeqAt.list_countAt a its.toArray n dd sls uy (fun u => PyData.eqv (SeqAt.readOf s.heap u) d)) ⟨ho, SeqAt.items_eqAt (vs := its.toArray) (show ReadsAll s.heap its.toArray.toList ds as from h4) r1 hxs (SeqAt.canLay_of_shaped sd) hroom, ?_⟩
      rw [ec]
      exact ⟨.int ((ds.countP fun z => PyData.eqv z d : Nat) : Int), H, I.tok _, ⟨s.toks, rfl⟩, q⟩
/-- isinstance(e, c), e the exception that is handled -/
theorem call_isP {a D : Addr} {oe : Obj} {d : Option Addr} (C : ExcC X.K D) (hp : (a, oe) ∈ X.pn) (hz : Zc (.ref D) d oe) (hf : ∃ vs, oe.data = .fields vs) : CallR X (.builtin "isinstance") (rIsO X.K D a d) := by
  intro pins s σ H xs us Q I r h
  obtain ⟨c, cv, b, rfl, hcv, e, hd, q⟩ := h
  obtain ⟨u1, u2, rfl, r1, r2⟩ := vals2 r
  cases r1
  have ec := hcv _ r2
  subst ec
  obtain ⟨hget, _⟩ := I.pin (a, oe) (List.mem_append_left _ hp)
  obtain ⟨od, J⟩ := inst_at hz hf hget I.hok hd
  exact PySem.W.kia_one (PySem.W.kitx_excO C.hg C.hk C.hs C.hd C.ha C.hn C.ht C.hm) I.kIn J e (fun z => nomatch z) fun tk => ⟨.bl b, H, I.kept (t' := tk) fun _ _ z => z, rfl, q⟩
end
/-! ### what a def promises where one exception is handled -/
structure FnHp (P : Program) (w : World) (K : PySem.W.Frag) (mg : Str → Option Value) (base : Heap) (CX : CXT) (k : Nat) (f : Addr) (fd : FuncData) (ps : List Str) (sp : Sp) (p : Addr × Obj) : Prop where
  len : ∀ vs H Q E, sp vs H Q E → vs.length = ps.length
  run : ∀ (A : Around) (outer : List PySem.Env) (s : Shared) (H : Hp) (args : Args) (us : List Value) (vs : List V) (Q : VK) (E : XK), L2H.RoomH k A → L2H.Hot1 A p → L2H.PinOk outer H s p → Env0 P w K mg base A outer s H → BindsTo s fd args (ps.zip us) → Vals vs us → sp vs H Q E →
    codeAny (model P w) A (.call (.ref f) args) (CR CX outer P w H s Q E) s
theorem fn_ofHp {CX : CXT} {P : Program} {w : World} {K : PySem.W.Frag} {mg : Str → Option Value} {base : Heap} {k : Nat} {f : Addr} {name qual : Str} {params : Arguments} {body : List Stmt} {scope : Scope} {dV kV doc pm cdv ct oc : Value} {an od : Option Addr}
    {osl : Array (Option Value)} {N ps : List Str} {sp : Sp} {p : Addr × Obj} (lk : K.lookup f = some ⟨oc, od, .func (PySem.W.fnOf name qual params body scope dV kV doc pm an cdv ct), osl⟩) (hcd : PySem.W.codeIn K cdv qual = true) (S : FnScope N ps scope)
    (len : ∀ vs H Q E, sp vs H Q E → vs.length = ps.length)
    (hbody : ∀ (A : Around) (outer : List PySem.Env) (s : Shared) (H : Hp) (vs : List V) (Q : VK) (E : XK), L2H.Hot1 A p → L2H.RoomH k (A.deeper (envOfC qual scope s.heap.objs.size f cdv)) → sp vs H Q E →
      ∃ t, PSs (L2H.cxH CX P w K mg base N qual scope f cdv A outer s H E p) body t ∧ t { nx := fun _ H' => Q .non H', rt := Q } (L2.start N vs) H) :
    FnHp P w K mg base CX (k + 1) f (PySem.W.fnOf name qual params body scope dV kV doc pm an cdv ct) ps sp p := by
  refine ⟨len, fun A outer s H args us vs Q E hr hot hpin e0 hb r hsp => ?_⟩
  have hl := len _ _ _ _ hsp
  have KX : K.In s.heap := e0.mod.kin.keeps fun b o e => (e0.bs b o e).1
  have lim : s.heap.NoLimit := e0.mod.nolimit.keeps fun b o e => (e0.bs b o e).1
  have hkind : ∀ y ∈ ps.zip us, scope.names.lookup y.1 = some .local ∨ (scope.names.lookup y.1 = some .cell ∧ ((cellsFrom (s.heap.objs.size + 1) scope.names []).lookup y.1).isSome = true) := fun ⟨n, v⟩ hy => by
    rcases S.par n (List.of_mem_zip hy).1 with q | q
    · exact .inl q
    · exact .inr ⟨q, PySem.W.cellsFrom_some _ _ _ (.inl q)⟩
  refine codeAny_call_function hr.depth (KX _ _ lk) rfl S.co S.gen rfl (PySem.W.codeRec_of KX hcd) (hb _ _ _ _ ?_)
  refine wpAny_newFunctionEnv_cells S.kind hkind fun env he s1 x => ?_
  subst he
  refine ⟨lim.keeps x.toInCall.keep, codeAny_func ?_⟩
  obtain ⟨t, ht, hq⟩ := hbody A outer s H vs Q E hot (hr.deeper _) hsp
  have I : Inv (L2H.cxH CX P w K mg base N qual scope f cdv A outer s H E p) [] (L2.start N vs) H s1 := L2H.inv_startH S hpin e0 hl r x
  refine wpAny_mono (ht.run [] s1 (L2.start N vs) H _ I hq) (fun fl s' hs => ?_) fun e s' hs => hs
  have fin : ∀ {σ' : L2.St} {H' : Hp} {v : V} {u : Value}, Inv (L2H.cxH CX P w K mg base N qual scope f cdv A outer s H E p) [] σ' H' s' → RelV v u → Q v H' → CE outer P w H s Q u s' :=
    fun {σ' H' v u} J rv q => ⟨v, H', J.os, J.bare, J.base, J.hok, rv, q⟩
  cases fl with
  | ret u =>
    obtain ⟨v, σ', H', J, rv, q⟩ := hs
    exact fin J rv q
  | next =>
    obtain ⟨σ', H', J, q⟩ := hs
    exact fin (v := V.non) (u := Value.none) J rfl q
  | brk =>
    obtain ⟨_, _, _, q⟩ := hs
    exact False.elim q
  | cont =>
    obtain ⟨_, _, _, q⟩ := hs
    exact False.elim q
theorem pe_callHp {X : Cx} {CX : CXT} {k : Nat} {f : Addr} {fd : FuncData} {ps : List Str} {sp : Sp} {E : L2.St → XK} {x : Str} {q pos : Pos} {e : Expr} {es : List Expr} {t : TA} {p : Addr × Obj} (F : FnHp X.prog X.w X.K X.mg X.base CX k f fd ps sp p) (hr : L2H.RoomH k X.A) (hot : L2H.Hot1 X.A p) (hp : p ∈ X.pn) (hg : Gl X x) (hm : X.mg x = some (.ref f)) (hk : PySem.W.keepIn X.K (.ref f) = true) (hb : Binds X.K fd ps []) (hx : ∀ σ, PassesAt CX X σ (E σ))
    (ha : PA X (e :: es) t) (hdb : (x == ("__debug__" : Str)) = false) (he : starEach (e :: es) X.env = (false, eval e X.env) :: starEach es X.env) (hpl : (backTo pos (starEach es X.env)).any (·.1) = false) :
    PE X (.Call (.Name x q) (e :: es) [] pos) (tCallS sp E t) := by
  refine ⟨fun pins s σ H Q I h => ?_⟩
  refine wpAny_Call_Name_kw (ld_glob I hg hm ?_ hdb)
  refine PySem.W.callWith_K (h₀ := X.base) I.ok.mod.kin hk (thn (ha.run pos pins s σ H _ I h) fun us s1 ⟨vs, H1, I1, r, q⟩ => ⟨I1.kIn, ?_⟩) he hpl
  have hl : us.length = ps.length := by rw [← r.length]; exact F.len _ _ _ _ q
  have b := hb s1 us I1.kIn (by rw [List.append_nil]; exact hl)
  rw [List.append_nil] at b
  have P1 := I1.pin p (List.mem_append_left _ hp)
  have hpin : L2H.PinOk X.stack H1 s1 p := ⟨P1.1, P1.2.1, fun hm => (List.mem_cons.mp (I1.stkSub p.1 hm)).elim P1.2.2.1 P1.2.2.2.1, P1.2.2.2.2⟩
  refine wpAny_call (codeAny_mono (F.run X.A X.stack s1 H1 ⟨us, []⟩ us vs Q (E σ) hr hot hpin I1.env0 b r q) fun r s' hq => ?_)
  cases r with
  | error e => exact hx σ pins H1 s1 e s' I1 hq
  | ok fl =>
    cases fl with
    | ret u => exact I1.after hq
    | next => exact False.elim hq
    | brk => exact False.elim hq
    | cont => exact False.elim hq
/-! ### the def -/
section
variable [TC]
/-- new objects alone -/
def NewO (H H1 : Hp) : Prop := ∀ HP, Ex HP H → Step HP H HP H1
theorem NewO.refl (H : Hp) : NewO H H := fun _ e => Step.refl e
theorem NewO.upd {H : Hp} {p : Addr} {o : HO} (h : H p = none) : NewO H (L2.upd H p o) := fun _ e => Step.own e h
theorem NewO.trans {H H1 H2 : Hp} (a : NewO H H1) (b : NewO H1 H2) : NewO H H2 := fun HP e => (a HP e).trans (b HP (a HP e).sees)
theorem NewO.ex {H H1 : Hp} (a : NewO H H1) : Ex H H1 := (a (fun _ => none) (.of fun _ _ z => nomatch z)).ex
theorem DStd.mono {H H1 : Hp} {d : Option Addr} (e : Ex H H1) (h : DStd H d) : DStd H1 d := fun dd ed => by
  obtain ⟨fs, z⟩ := h dd ed
  exact ⟨fs, e.k _ _ nt_xd z⟩
def spKd (d : Option Addr) (a : Addr) (n : Int) : Sp := fun vs H Q E => vs = [.ref a] ∧ DStd H d ∧ ∀ H1, NewO H H1 → Q (.int n) H1
variable {X : Cx} {sc : Scope} {ad : Str → Addr} {a D : Addr} {oe : Obj} {d : Option Addr} {x k : Str}
/-- which classes it is of -/
abbrev KdR (K : PySem.W.Frag) (ad : Str → Addr) (D : Addr) : List Str → List Bool → Prop := Paired fun C b => PySem.W.kitOne K (.ref D) (.ref (ad C)) = some b
/-- the def's context -/
structure KdC (X : Cx) (sc : Scope) (x k : Str) (a D : Addr) (oe : Obj) (d : Option Addr) : Prop where
  scp : X.env.scope = sc
  nm : X.N = [x, k]
  nd : X.N.Nodup
  un : X.A.units + 65 < cLine
  ec : ExcC X.K D
  hp : (a, oe) ∈ X.pn
  hz : Zc (.ref D) d oe
  hf : ∃ vs, oe.data = .fields vs
  sx : sane x = true
  sk : sane k = true
  vx : visB sc x = true
  lk : sc.names.lookup k = some .local
  gi : glB sc "isinstance" = true
  mi : X.mg "isinstance" = none
  gV : glB sc "ValueError" = true
  mV : X.mg "ValueError" = none
theorem KdC.G (C : KdC X sc x k a D oe d) {y : Str} (h : glB sc y = true) : Gl X y := by
  rw [← C.scp] at h
  exact gl_of h
theorem KdC.px (C : KdC X sc x k a D oe d) (p : Pos) : PE X (.Name x p) (tVar 0) := by
  obtain ⟨t1, t2, _⟩ := sane_of C.sx
  exact pe_var (i := 0) (by rw [C.nm]; rfl) (by rw [C.scp]; exact vis_of C.vx) t1 t2
theorem KdC.pk (C : KdC X sc x k a D oe d) (p : Pos) : PE X (.Name k p) (tVar 1) := by
  obtain ⟨t1, t2, _⟩ := sane_of C.sk
  exact pe_var (i := 1) (by rw [C.nm]; rfl) (by rw [C.scp]; exact .inl C.lk) t1 t2
theorem kdEs_ok (C : KdC X sc x k a D oe d) : ∀ {es : List Expr} {Cs : List Str}, kdEs sc x es = some Cs → (∀ E ∈ Cs, X.mg E = some (.ref (ad E))) → ∀ {bs : List Bool}, KdR X.K ad D Cs bs →
    ∃ t : TA, PA X es t ∧ bs.length = es.length ∧ ∀ σ H Q, σ[0]? = some (some (.ref a)) → DStd H d → Q (bs.map V.bl) H → t σ H Q
  | [], Cs, h, hm, bs, hb => by
    cases h
    cases hb
    exact ⟨_, pa_nil, rfl, fun σ H Q _ _ q => q⟩
  | e :: es, Cs, h, hm, bs, hb => by
    unfold kdEs at h
    split at h
    · rename_i e0; cases e0
    · rename_i f p y py E pC pos r e0
      cases e0
      split at h
      · rename_i hc
        simp only [Bool.and_eq_true, Bool.not_eq_true'] at hc
        obtain ⟨⟨⟨⟨c1, c2⟩, c3⟩, c4⟩, c5⟩ := hc
        have e1 := beq_iff_eq.mp c1
        have e2 := (beq_iff_eq.mp c2).symm
        subst e1 e2
        cases q : kdEs sc x es with
        | none => rw [q] at h; cases h
        | some Es =>
          rw [q] at h
          cases h
          cases hb with
          | @cons _ b _ bs' hb1 hb2 =>
            obtain ⟨t, pt, hl, ht⟩ := kdEs_ok C q (fun F hF => hm F (List.mem_cons_of_mem _ hF)) hb2
            obtain ⟨s1, _, _⟩ := sane_of c4
            refine ⟨_, pa_cons (pe_callB (id := "isinstance") (call_isP C.ec C.hp C.hz C.hf) (C.G C.gi) C.mi (by decide +kernel) (pa_cons (C.px py) (pa_cons (pe_glob (v := .ref (ad E)) (C.G c3) (hm E List.mem_cons_self) rfl s1) pa_nil rfl) rfl) (by decide) (by decide) rfl rfl) pt rfl, by rw [List.length_cons, List.length_cons, hl], fun σ H Q h0 hd q => ?_⟩
            refine ⟨.ref a, h0, .ref (ad E), _, b, rfl, fun u r => ?_, hb1, hd, ?_⟩
            · exact r
            · exact ht σ H _ h0 hd q
      · cases h
    · cases h
/-! bools as data -/
theorem bls_pds : ∀ (bs : List Bool), T.pds (bs.map T.bl) = some (bs.map PyData.bool)
  | [] => rfl
  | b :: bs => by
    show T.pds (.bl b :: bs.map T.bl) = _
    unfold T.pds
    rw [bls_pds bs]
    rfl
theorem bls_lay : ∀ (bs : List Bool), PyData.canLayAll0 (bs.map .bool) = true ∧ PyData.depthAll (bs.map .bool) = 0
  | [] => ⟨rfl, rfl⟩
  | b :: bs => by
    obtain ⟨h1, h2⟩ := bls_lay bs
    constructor
    · show PyData.canLayAll0 (.bool b :: bs.map .bool) = true
      simp only [PyData.canLayAll0, PyData.canLay0, h1, Bool.and_self]
    · show PyData.depthAll (.bool b :: bs.map .bool) = 0
      simp only [PyData.depthAll, PyData.depth, h2, Nat.max_self]
theorem bls_shaped (bs : List Bool) : SeqAt.shaped (.list (bs.map .bool)) = true := by
  obtain ⟨h1, h2⟩ := bls_lay bs
  unfold SeqAt.shaped
  simp only [PyData.canLay0, PyData.depth, h1, h2, Bool.true_and]
  exact decide_eq_true (by omega)
theorem bls_eqv (b c : Bool) : PyData.eqv (.bool b) (.bool c) = (b == c) := by cases b <;> cases c <;> rfl
theorem bls_count : ∀ (bs : List Bool), (bs.map PyData.bool).countP (fun z => PyData.eqv z (.bool true)) = bs.count true
  | [] => rfl
  | b :: bs => by
    rw [List.map_cons, List.countP_cons, bls_count bs, List.count_cons, bls_eqv]
theorem bls_dp {H : Hp} {K : PySem.W.Frag} {p : Addr} {bs : List Bool} (h : H p = some (.lst (bs.map V.bl))) : Dp K H (.ref p) (.list (bs.map .bool)) := by
  have rt : ∀ (cs : List Bool), RTs ⟨K, fun _ => 0⟩ H (cs.map T.bl) (cs.map V.bl) := by
    intro cs
    induction cs with
    | nil => rfl
    | cons c cs ih => exact ⟨.bl c, cs.map V.bl, rfl, rfl, ih⟩
  have := RT.dp (cA := ⟨K, fun _ => 0⟩) (t := .nod .lst (bs.map T.bl)) (v := .ref p) (d := .list (bs.map .bool)) ⟨p, bs.map V.bl, rfl, .inl (.inl h), rt bs⟩ (by unfold T.pd; rw [bls_pds]; rfl)
  exact this
theorem bl_dp {H : Hp} {K : PySem.W.Frag} (b : Bool) : Dp K H (.bl b) (.bool b) := RT.dp (cA := ⟨K, fun _ => 0⟩) (t := .bl b) rfl rfl
theorem ne_int (i j : Int) : cmpT .ne (.int i) (.int j) = .ok (!decide (i = j)) := by
  have e0 : cmpT .ne (.int i) (.int j) = (eqT (.int i) (.int j)).bind (fun r => Res.ok (!r)) := by unfold cmpT; rfl
  rw [e0]
  have e3 : eqT (.int i) (.int j) = .ok (decide (i = j)) := by
    unfold eqT
    rw [show lenNe (.int i) (.int j) = false from rfl]
    simp only [Bool.false_eq_true, if_false]
    unfold eqD
    have sh : ∀ i : Int, SeqAt.shaped (.int i) = true := fun i => rfl
    simp only [T.pd, sh, Bool.and_self, if_true, PyData.eqv]
    by_cases e : i = j
    · subst e; simp
    · have : (i == j) = false := beq_eq_false_iff_ne.mpr e
      rw [this]; simp [e]
  rw [e3]
  rfl
theorem kdSts_ok (C : KdC X sc x k a D oe d) {D' : Ends} {v : Bool} (hv : PySem.W.kitOne X.K (.ref D) (.type "ValueError") = some v) : ∀ {sts : List Stmt} {Cs : List Str}, kdSts sc x k sts = some Cs → (∀ E ∈ Cs, X.mg E = some (.ref (ad E))) → ∀ {bs : List Bool}, KdR X.K ad D Cs bs →
    ∀ {bs0 : List Bool} {n : Int} {σ : L2.St} {H : Hp} {p : Addr}, σ[0]? = some (some (.ref a)) → σ.length = 2 → σ[1]? = some (some (.ref p)) → H p = some (.lst (bs0.map V.bl)) → (bs0 ++ bs).length ≤ 100 → kdN (bs0 ++ bs) v = some n → DStd H d → (∀ H1, NewO H H1 → D'.rt (.int n) H1) → wpSs X sts D' σ H := by
  intro sts
  induction sts with
  | nil => intro Cs h; cases h
  | cons st sts ih =>
    intro Cs h hm bs hb bs0 n σ H p h0 hl2 h1 hp hlen hn hd q
    unfold kdSts at h
    split at h
    · rename_i k1 p1 k2 p2 es lp bp pos r e0
      cases e0
      split at h
      · rename_i hc
        simp only [Bool.and_eq_true, decide_eq_true_eq] at hc
        have e1 := beq_iff_eq.mp hc.1.1
        have e2 := beq_iff_eq.mp hc.1.2
        split at h
        · rename_i As Bs q1 q2
          cases h
          obtain ⟨ba, bb, rfl, ra, rb⟩ : ∃ ba bb, bs = ba ++ bb ∧ KdR X.K ad D As ba ∧ KdR X.K ad D Bs bb := by
            have main : ∀ (As : List Str) (bs : List Bool), KdR X.K ad D (As ++ Bs) bs → ∃ ba bb, bs = ba ++ bb ∧ KdR X.K ad D As ba ∧ KdR X.K ad D Bs bb := by
              intro As
              induction As with
              | nil => intro bs h; exact ⟨[], bs, rfl, .nil, h⟩
              | cons A As ihA =>
                intro bs h
                cases h with
                | @cons _ b _ bs' hb1 hb2 =>
                  obtain ⟨ba, bb, e, ra, rb⟩ := ihA bs' hb2
                  exact ⟨b :: ba, bb, by rw [e]; rfl, .cons hb1 ra, rb⟩
            exact main As bs hb
          obtain ⟨t, pt, hlt, ht⟩ := kdEs_ok C q1 (fun F hF => hm F (List.mem_append_left _ hF)) ra
          rw [e1, e2]
          have lens : (bs0 ++ ba).length ≤ 100 := by
            rw [List.length_append] at hlen ⊢
            rw [List.length_append] at hlen
            omega
          refine ⟨_, pss_cons (ps_set (i := 1) C.nd (by rw [C.nm]; rfl) (by rw [C.scp]; exact .inl C.lk) (pe_op op_catR (C.pk p2) (pe_lst pt)) rfl (.inr (by rw [C.scp]; exact C.lk))) pssS, ?_⟩
          refine ⟨.ref p, h1, ht σ H _ h0 hd ⟨by rw [List.length_map, sizeLine_eq]; rw [List.length_append] at lens; omega, fun b hb' => ?_⟩⟩
          refine ⟨p, b, bs0.map V.bl, ba.map V.bl, rfl, rfl, .inl (.inl ((Ex.new hb').k p _ nt_lst hp)), .inl (.inl upd_same), by rw [List.length_map, List.length_map, sizeLine_eq]; rw [List.length_append] at lens; omega, fun c hc' => ?_⟩
          have nn : NewO H (L2.upd (L2.upd H b (.lst (ba.map V.bl))) c (.lst (bs0.map V.bl ++ ba.map V.bl))) := (NewO.upd hb').trans (NewO.upd hc')
          refine ih q2 (fun F hF => hm F (List.mem_append_right _ hF)) rb (bs0 := bs0 ++ ba) (n := n) (p := c) ?_ ?_ ?_ ?_ ?_ ?_ (DStd.mono nn.ex hd) fun H1 n1 => q H1 (nn.trans n1)
          · rw [List.getElem?_set_ne (by decide)]; exact h0
          · rw [List.length_set]; exact hl2
          · rw [List.getElem?_set_self (by omega)]
          · rw [upd_same, List.map_append]
          · rw [List.append_assoc]; exact hlen
          · rw [List.append_assoc]; exact hn
        · cases h
      · cases h
    · rename_i k1 q1 m qa j1 q2 qc i1 j2 q3 q4 f q5 y q6 v' q7 q8 q9 q10 i2 j3 q11 q12 q13 q14 k2 q15 m2 qb j4 q16 qd q17 e0
      cases e0
      split at h
      · rename_i hc
        cases h
        cases hb
        simp only [Bool.and_eq_true, decide_eq_true_eq] at hc
        obtain ⟨⟨⟨⟨⟨⟨⟨⟨⟨⟨c1, c2⟩, c3⟩, c4⟩, c5⟩, c6⟩, c7⟩, c8⟩, c9⟩, c10⟩, c11⟩ := hc
        have e1 := beq_iff_eq.mp c1
        have e2 := beq_iff_eq.mp c2
        have e3 := beq_iff_eq.mp c3
        have e4 := beq_iff_eq.mp c4
        have e7 := beq_iff_eq.mp c7
        have e8 := beq_iff_eq.mp c8
        have e9 := beq_iff_eq.mp c9
        rw [e1, e2, e3, e4, c5, c6, e7, e8, e9]
        rw [List.append_nil] at hn hlen
        refine ⟨_, pss_cons (ps_if (PW.pt (pw_or (pt_cmpR (op := .NotEq) opW (pe_bm PySem.F.plainAttrs_list PySem.F.slot_list_count PySem.F.type_list_count (mt_countD C.un) (C.pk q1) (pa_cons pe_bl pa_nil rfl) rfl rfl c10 rfl rfl) pe_int rfl)
          (pw_or1 (pt_not (pt_val (pe_callB (id := "isinstance") (call_isP C.ec C.hp C.hz C.hf) (C.G C.gi) C.mi (by decide +kernel) (pa_cons (C.px q6) (pa_cons (pe_bltn (C.G C.gV) C.mV (by decide +kernel) (show RelV (.ty "ValueError") (.type "ValueError") from rfl) (by decide) (by decide)) pa_nil rfl) rfl) (by decide) (by decide) rfl rfl) fun _ => rfl)))))
          (pss_one (ps_ret (pe_un un_neg pe_int))) pss_nil) (pss_one (ps_ret (pe_bm PySem.F.plainAttrs_list PySem.F.slot_list_index PySem.F.type_list_index (mt_indexD C.un) (C.pk q15) (pa_cons pe_bl pa_nil rfl) rfl rfl c11 rfl rfl))), ?_⟩
        refine ⟨.ref p, h1, .inl ⟨rfl, _, .inl (.inl hp)⟩, ?_⟩
        refine ⟨p, .bl true, .bool true, bs0.map .bool, rfl, rfl, bls_dp hp, bl_dp true, bls_shaped bs0, rfl, ?_⟩
        rw [bls_count]
        refine cmp_ok (X := X) (cA := ⟨X.K, fun _ => 0⟩) (H := H) (op := .NotEq) (o := .ne) rfl C.un rfl (show RT _ H (.int ((bs0.count true : Nat) : Int)) (.int ((bs0.count true : Nat) : Int)) from rfl) (show RT _ H (.int 1) (.int 1) from rfl) (ne_int _ 1) ⟨_, rfl, ?_⟩
        unfold kdN at hn
        have ret1 : n = -1 → D'.rt (.int (-1)) H := fun e => by rw [← e]; exact q H (NewO.refl H)
        by_cases hc1 : bs0.count true = 1
        · rw [hc1]
          have z : (!decide ((((1 : Nat) : Nat) : Int) = 1)) = false := by decide
          rw [z]
          refine iteF ⟨.ref a, h0, .ty "ValueError", _, v, rfl, fun u r => r, hv, hd, v, rfl, ?_⟩
          cases v with
          | false =>
            rw [if_pos (.inr rfl)] at hn
            cases hn
            exact iteT ⟨1, rfl, ret1 rfl⟩
          | true =>
            rw [if_neg (fun z => z.elim (fun z => z hc1) (fun z => nomatch z))] at hn
            cases qi : bs0.findIdx? id with
            | none => rw [qi] at hn; cases hn
            | some j =>
              rw [qi] at hn
              cases hn
              obtain ⟨hj, hj1, hj2⟩ := List.findIdx?_eq_some_iff_getElem.mp qi
              refine iteF ⟨.ref p, h1, .inl ⟨rfl, _, .inl (.inl hp)⟩, ?_⟩
              refine ⟨p, .bl true, .bool true, bs0.map .bool, j, .bool bs0[j], rfl, rfl, bls_dp hp, bl_dp true, bls_shaped bs0, rfl, ?_, ?_, ?_, q H (NewO.refl H)⟩
              · rw [List.getElem?_map, List.getElem?_eq_getElem hj]; rfl
              · rw [bls_eqv]; simpa using hj1
              · intro m z hm hz
                rw [List.getElem?_map] at hz
                have hml : m < bs0.length := by omega
                rw [List.getElem?_eq_getElem hml] at hz
                cases hz
                rw [bls_eqv]
                have := hj2 m hm
                simpa using this
        · have z : (!decide (((bs0.count true : Nat) : Int) = 1)) = true := by
            have : ¬ ((bs0.count true : Nat) : Int) = 1 := by omega
            simp [this]
          rw [if_pos (.inl hc1)] at hn
          cases hn
          rw [z]
          exact iteT (iteT ⟨1, rfl, ret1 rfl⟩)
      · cases h
    · cases h
theorem kd_body (C : KdC X sc x k a D oe d) {D' : Ends} {v : Bool} (hv : PySem.W.kitOne X.K (.ref D) (.type "ValueError") = some v) {sts : List Stmt} {Cs : List Str} (h : kdBody sc x k sts = some Cs) (hm : ∀ E ∈ Cs, X.mg E = some (.ref (ad E))) {bs : List Bool} (hb : KdR X.K ad D Cs bs) (hlen : Cs.length ≤ 100)
    {n : Int} {σ : L2.St} {H : Hp} (h0 : σ[0]? = some (some (.ref a))) (hl2 : σ.length = 2) (hn : kdN bs v = some n) (hd : DStd H d) (q : ∀ H1, NewO H H1 → D'.rt (.int n) H1) : wpSs X sts D' σ H := by
  have hbl : bs.length = Cs.length := hb.length.symm
  unfold kdBody at h
  split at h
  · rename_i k1 p1 es lp pos r
    split at h
    · rename_i hc
      simp only [Bool.and_eq_true, decide_eq_true_eq] at hc
      have e1 := beq_iff_eq.mp hc.1
      split at h
      · rename_i As Bs q1 q2
        cases h
        obtain ⟨ba, bb, rfl, ra, rb⟩ : ∃ ba bb, bs = ba ++ bb ∧ KdR X.K ad D As ba ∧ KdR X.K ad D Bs bb := by
          have main : ∀ (As : List Str) (bs : List Bool), KdR X.K ad D (As ++ Bs) bs → ∃ ba bb, bs = ba ++ bb ∧ KdR X.K ad D As ba ∧ KdR X.K ad D Bs bb := by
            intro As
            induction As with
            | nil => intro bs h; exact ⟨[], bs, rfl, .nil, h⟩
            | cons A As ihA =>
              intro bs h
              cases h with
              | @cons _ b _ bs' hb1 hb2 =>
                obtain ⟨ba, bb, e, ra, rb⟩ := ihA bs' hb2
                exact ⟨b :: ba, bb, by rw [e]; rfl, .cons hb1 ra, rb⟩
          exact main As bs hb
        obtain ⟨t, pt, hlt, ht⟩ := kdEs_ok C q1 (fun F hF => hm F (List.mem_append_left _ hF)) ra
        rw [e1]
        have l2 : (ba ++ bb).length ≤ 100 := by omega
        have lens : ba.length ≤ 100 := by
          rw [List.length_append] at l2
          omega
        refine ⟨_, pss_cons (ps_set (i := 1) C.nd (by rw [C.nm]; rfl) (by rw [C.scp]; exact .inl C.lk) (pe_lst pt) rfl (.inr (by rw [C.scp]; exact C.lk))) pssS, ?_⟩
        refine ht σ H _ h0 hd ⟨by rw [List.length_map, sizeLine_eq]; omega, fun b hb' => ?_⟩
        refine kdSts_ok C hv q2 (fun F hF => hm F (List.mem_append_right _ hF)) rb (bs0 := ba) (n := n) (p := b) ?_ ?_ ?_ upd_same l2 hn (DStd.mono (Ex.new hb') hd) fun H1 n1 => q H1 ((NewO.upd hb').trans n1)
        · rw [List.getElem?_set_ne (by decide)]; exact h0
        · rw [List.length_set]; exact hl2
        · rw [List.getElem?_set_self (by omega)]
      · cases h
    · cases h
  · cases h
theorem kd_ok {P : Program} {w : World} {K : PySem.W.Frag} {mg : Str → Option Value} {base : Heap} {CX : CXT} {g : Str} {Cs : List Str} (I : XkOk K mg ad g Cs) (ec : ExcC K D) (hz : Zc (.ref D) d oe) (hf : ∃ vs, oe.data = .fields vs) {bs : List Bool} (hb : KdR K ad D Cs bs) {v : Bool} (hv : PySem.W.kitOne K (.ref D) (.type "ValueError") = some v) {n : Int} (hn : kdN bs v = some n) :
    ∃ fa fdt ps, mg g = some (.ref fa) ∧ PySem.W.keepIn K (.ref fa) = true ∧ FnHp P w K mg base CX 1 fa fdt ps (spKd d a n) (a, oe) ∧ Binds K fdt ps [] := by
  obtain ⟨fa, fdt, nm, x, k, st, F, hS, hbd, hlen, hmg, kp, g1, g2, m1, m2, hm, s1, s2, v1, lk, bi⟩ := I.ex
  refine ⟨fa, fdt, [x], hmg, kp, ?_, .all bi⟩
  obtain ⟨oc, od, kV, doc, pm, an, cdv, ct, osl, rfl, lkf, hcd⟩ := F.ex
  refine fn_ofHp (k := 0) lkf hcd hS (fun vs H Q E h => by rw [h.1]; rfl) fun A outer s H vs Q E hot hr h => ?_
  obtain ⟨rfl, hd, q⟩ := h
  let X := L2H.cxH CX P w K mg base [x, k] g (defScope st) fa cdv A outer s H E (a, oe)
  have C : KdC X (defScope st) x k a D oe d := ⟨rfl, rfl, hS.nd, by have := hr.un; show (A.deeper _).units + 65 < cLine; omega, ec, List.mem_cons_self, hz, hf, s1, s2, v1, lk, g1, m1, g2, m2⟩
  exact ⟨_, pssS, kd_body (X := X) (ad := ad) (v := v) C hv hbd (fun E hE => (hm E hE).1) hb hlen rfl rfl hn hd q⟩
end
end Bv
set_option maxRecDepth 100000
set_option maxHeartbeats 2000000
/-! Part 17e: exceptions of two fields, a tuple's part taken, a walk over a place, try with many clauses. -/
namespace Bv
open PySem L2
theorem xi2_ok {P : Program} {w : World} {K : PySem.W.Frag} {mg : Str → Option Value} {base : Heap} {C fI : Addr} {f g : Str} {fdt : FuncData} (I : XiOk2 K mg C fI f g fdt) :
    ∃ ps, FnOk P w K mg base (L2N.CX P w) 1 fI fdt ps (spXi2 C f g) ∧ Binds K fdt ps [] := by
  obtain ⟨B, b, qual, nm, self, x, y, m, st, j, p1, p2, p3, p4, p5, p6, p7, p8, p9, p10, q7, q8, q9, q10, F, hS, hb, hm, hg, s1, s2, s3, s4, rd, vV, bi, v1, v2, v3, hline⟩ := I.ex
  refine ⟨[self, x, y], okN (k := 0) F hS (fun vs H Q E h => by obtain ⟨a, y, z, rfl, _⟩ := h; rfl) fun cdv A outer s H vs Q E hr h => ?_, .all bi⟩
  obtain ⟨a, y0, z0, rfl, ea, q⟩ := h
  rw [hb]
  obtain ⟨t1, _, t3⟩ := sane_of s1
  obtain ⟨t4, t5, _⟩ := sane_of s2
  obtain ⟨t6, t7, _⟩ := sane_of s3
  obtain ⟨t8, t9, _⟩ := sane_of s4
  let X := cxOf (L2N.CX P w) P w K mg base [self, x, y] qual (defScope st) fI cdv A outer s H E
  have pe1 : ∀ p, PE X (.Name self p) (tVar 0) := fun p => pe_var (X := X) (i := 0) rfl (vis_of v1) t4 t5
  have pe2 : ∀ p, PE X (.Name x p) (tVar 1) := fun p => pe_var (X := X) (i := 1) rfl (vis_of v2) t6 t7
  have pe3 : ∀ p, PE X (.Name y p) (tVar 2) := fun p => pe_var (X := X) (i := 2) rfl (vis_of v3) t8 t9
  have gl : Gl X b := by
    show X.env.kindOf b = some .globalImplicit
    exact gl_of hg
  refine ⟨_, pss_cons (ps_expr (pe_binit gl hm rd vV t1 (pa_cons (pe1 p3) (pa_cons pe_str pa_nil)) rfl rfl hline rfl rfl) rfl) (pss_cons (ps_ost (pe1 p7) (pe2 p9) rfl) (pss_one (ps_ost (pe1 q7) (pe3 q9) rfl))), ?_⟩
  refine ⟨.ref a, rfl, ⟨a, C, [.str m], rfl, by simp, I.oc, ea, ?_⟩⟩
  refine ⟨y0, rfl, .ref a, rfl, a, C, rfl, I.oc, I.no, .inl ⟨ea, fun dx h1 h2 => ?_⟩⟩
  exact ⟨z0, rfl, .ref a, rfl, a, C, rfl, I.oc, I.no2, .inr ⟨dx, [(f, y0)], upd_same, by rw [upd_ne h2, upd_same], by simp, q dx h1 h2⟩⟩
section
variable [TC] {X : Cx} {CX : CXT} {XE : XK} {tb : Tb} {sc : Scope} {Φ : Fns} {gl : Str → Option T} {cA : CA} {P : List Nat}
theorem snd_raise2 (C : Cst X CX XE tb sc Φ gl cA) {x : Str} {e1 e2 : Expr} {a1 a2 : E} {n : Nat} {p pos pos' : Pos} (hg : glB sc x = true) (hsn : sane x = true) (hx : tb.xcs.contains x = true) (he1 : toE tb sc n e1 = some a1) (he2 : toE tb sc n e2 = some a2) : SndSt X Φ gl cA P (.Raise (some (.Call (.Name x p) [e1, e2] [] pos)) none pos') (.raise2 x a1 a2) := by
  intro k env σ HP H O D s w
  unfold exec at w
  have hes : toEs (toE tb sc n) [e1, e2] = some [a1, a2] := by
    unfold toEs
    rw [he1]
    unfold toEs
    rw [he2]
    rfl
  cases q : evs Φ gl env [a1, a2] with
  | exc x => rw [q] at w; exact w.elim
  | stk => rw [q] at w; exact w.elim
  | ok gs =>
    rw [q] at w
    unfold raise2X at w
    split at w
    · rename_i t u e0
      cases e0
      split at w
      · rename_i f g hf
        obtain ⟨fI, fdt, T, hr⟩ := C.c.xi2 x f g hf
        obtain ⟨ps, F, hb⟩ := xi2_ok (P := X.prog) (w := X.w) (base := X.base) T
        refine ⟨_, L2N.ps_raise C.c.calm takesX (pmkN_oex (CX := L2N.CX X.prog X.w) T.oc T.iC T.tI F hr hb passE (C.c.Gl hg) (C.c.xv x hx) paA (sane_of hsn).1 (toE_star he1 [e2] _) (by rw [toE_star he2]; rfl)), ?_⟩
        refine toEs_ok (toE_ok C.c n) hes env σ HP H H _ s.pv s.hs s.eP ?_
        rw [q]
        intro vs HP1 H1 O1 rg nd fr st
        obtain ⟨v1, r1, Oa, Ob, rfl, ⟨rt1, _⟩, ⟨v2, r2, Oc, Od, rfl, ⟨rt2, _⟩, ⟨rfl, _⟩, _⟩, _⟩ := rg
        refine ⟨by simp, fun a ha => ⟨a, v1, v2, rfl, upd_same, fun dx hdx ne => ⟨rfl, dx, [(g, v2), (f, v1)], by rw [upd_ne (fun z => ne z.symm), upd_same], upd_same, ?_, ?_⟩⟩⟩
        · rw [upd_ne ne] at hdx; exact hdx
        · rw [upd_ne ne] at hdx
          have eq : ∀ (o1 o2 o3 o4 : HO), upd (del (upd (upd (upd (upd H1 a o1) dx o2) a o3) dx o4) a) dx (.xd [(g, v2), (f, v1)]) = upd H1 dx (.xd [(g, v2), (f, v1)]) := fun o1 o2 o3 o4 => by
            funext b
            by_cases h1 : b = dx
            · rw [h1, upd_same, upd_same]
            · rw [upd_ne h1, upd_ne h1]
              by_cases h2 : b = a
              · rw [h2, del_same, ha]
              · rw [del_ne h2, upd_ne h1, upd_ne h2, upd_ne h1, upd_ne h2]
          rw [eq]
          exact w _ _ σ HP1 _ O ((s.step st).step (Step.own st.sees hdx)) (fun _ _ => rfl) ⟨rfl, .inr ⟨dx, [v2, v1], by simp, rfl, upd_same, v2, [v1], rfl, rt2, v1, [], rfl, rt1, rfl⟩⟩
      · exact w.elim
    · exact w.elim
/-- a tuple's part, the tuple given up -/
theorem snd_take (C : Cst X CX XE tb sc Φ gl cA) {x y : Str} {i j : Nat} {kk : Int} {kj : Nat} {px py kp sp pos : Pos} (h1 : locB sc x = true) (h2 : slotOf tb.N x = some i) (hy : toE tb sc 1 (.Name y py) = some (.var j)) :
    SndSt X Φ gl cA P (.Assign [.Name x px] (.Subscript (.Name y py) (.Constant (.int kk) kj kp) sp) pos) (.take i j kk) := by
  intro k env σ HP H O D s w
  unfold exec at w
  unfold takeX at w
  split at w
  · rename_i gs ej
    split at w
    · rename_i g eg
      split at w
      · rename_i hc
        obtain ⟨hfree, hiP, hjP, hij, hil⟩ := hc
        obtain ⟨v, O1, O2, a1, rg, r2, pm⟩ := s.rs.hide ej
        obtain ⟨p, vs, O', rfl, ow, rgs, rfl⟩ := rg
        have nd := pm.nodup_iff.mp s.nd
        have ndO := (List.nodup_append.mp nd).1
        obtain ⟨v, Og, ev, rgv, sub, ndv⟩ := rgs.at eg
        have m2 : ∀ q ∈ O2, q ∈ O := fun q hq => pm.mem_iff.mpr (List.mem_append_right _ hq)
        have mg : ∀ q ∈ Og, q ∈ O := fun q hq => pm.mem_iff.mpr (List.mem_append_left _ (List.mem_cons_of_mem _ (sub q hq)))
        have s2 : SR cA k HP H (env.set j none) σ O2 := ⟨r2, s.tb, (List.nodup_append.mp nd).2.1, fun q hq => s.own0 q (m2 q hq), s.eP, s.eB, s.eX, s.ex0, s.new0⟩
        refine ⟨_, ps_set (i := i) C.c.nd (by rw [C.c.nm]; exact slot_get h2) (by rw [C.c.scp]; exact loc_of h1) (pe_ix ixW peE pe_int (toE_plain (tb := tb) (sc := sc) (n := 1) (a := .con (.int kk)) rfl)) rfl (.inl (C.fn x)), ?_⟩
        show wpE X (.Name y py) σ H _
        refine wpE_var C.c hy a1 ?_
        refine ⟨_, ix_tup, p, vs, kk, v, rfl, rfl, .inl (.inl ow), ev, ?_⟩
        obtain ⟨O3, s3, _⟩ := s2.put (i := i) rgv (List.nodup_append.mpr ⟨ndv (List.nodup_cons.mp ndO).2, s2.nd, fun a ha b hb e => (List.nodup_append.mp nd).2.2 a (List.mem_cons_of_mem _ (sub a ha)) b hb e⟩) (fun q hq => s.own0 q (mg q hq)) (by rw [List.length_set]; exact hil)
        exact w _ _ _ O3 s3 (pins_set hiP)
      · exact w.elim
    · exact w.elim
  · exact w.elim
theorem toPl_fold {n : Nat} {e : Expr} {pl : Pl} (h : toPl tb sc n e = some pl) (env : PySem.Env) (x : Value) : foldedSetIterable e env x = pure x := by
  unfold toPl at h
  split at h
  · rfl
  · rfl
  · cases h
/-- over the list at a place -/
theorem snd_forP (C : Cst X CX XE tb sc Φ gl cA) {tgE : Expr} {tg : Tg} (ht : toTg tb sc tgE = some tg) {body : List Stmt} {sb : List S} (Sb : ∀ P, SndSts X Φ gl cA P body sb) {n : Nat} {e : Expr} {pl : Pl} {pos : Pos} (hx : toPl tb sc n e = some pl) : SndSt X Φ gl cA P (.For tgE e body [] pos) (.for_ tg (.itp pl) sb) := by
  intro k env σ HP H O D s w
  unfold exec at w
  simp only [evIt] at w
  cases q1 : evPl Φ gl env pl with
  | exc x => rw [q1] at w; exact w.elim
  | stk => rw [q1] at w; exact w.elim
  | ok ij =>
    obtain ⟨i, js⟩ := ij
    rw [q1] at w
    unfold itpX at w
    simp only at w
    cases e0 : env[i]? with
    | none => rw [e0] at w; exact w.elim
    | some o =>
      cases o with
      | none => rw [e0] at w; exact w.elim
      | some g0 =>
        rw [e0] at w
        simp only at w
        cases ea : g0.at js with
        | none => rw [ea] at w; exact w.elim
        | some gn =>
          rw [ea] at w
          cases gn with
          | val t => exact w.elim
          | nod o kd gs =>
            cases o with
            | false => exact w.elim
            | true =>
              cases kd with
              | lst =>
                simp only at w
                cases q2 : G.vals? gs with
                | none => rw [q2] at w; exact w.elim
                | some ts =>
                  rw [q2] at w
                  simp only at w
                  obtain ⟨v0, q, a0, va, W⟩ := place_ok C hx s q1 e0 ea
                  refine ⟨_, ps_for C.po C.c.calm (pi_list peE) pgG pssS (toPl_fold hx _), ?_⟩
                  refine W _ fun HP1 H1 s1 st => ?_
                  obtain ⟨v, Oi, O2, gd, hm, hnd⟩ := s1.guard e0
                  have w' := out_some s1 gd hm hnd w
                  have a1 := gd.at_
                  rw [a0] at a1
                  cases a1
                  obtain ⟨p, vs, O', C', va', ow, rgs, pm, _⟩ := gd.rg.node ea
                  cases (va.mono st.ex).det va'
                  have pin : q ∈ Oi := pm.mem_iff.mpr List.mem_cons_self
                  have ow : H1 q = some (.lst vs) := ow
                  have keep : ∀ {HP' H' : Hp} {env' : Env} {σ' : St} {O'' : List Addr}, SR cA { k with HP0 := HP1, HX := ad k.HX Oi H1 } HP' H' env' σ' O'' → H' q = some (.lst vs) := fun s' =>
                    s'.eX.k q _ nt_lst (by show ad k.HX Oi H1 q = _; rw [ad_in pin]; exact ow)
                  have hr : RTs cA HP1 ts vs := (rgs.vals q2).1
                  have ge := gd.eq
                  exact ⟨q, rfl, ⟨vs, .inl (.inl ow)⟩, for_lst C ht (Sb (i :: P)) gd.sr (fun HP' H' env' σ' O' s' => .inl (.inl (keep s'))) hr w'⟩
              | tup => exact w.elim
              | dct _ => exact w.elim
              | ins _ _ => exact w.elim
/-! ### except suites with values -/
theorem RTs.lk {HP : Hp} {f : Str} {t : T} : ∀ {fs : List (Str × T)} {vs : List V}, RTs cA HP (fs.map (·.2)) vs → fs.lookup f = some t → ∃ v, ((fs.map (·.1)).zip vs).lookup f = some v ∧ RT cA HP t v
  | [], _, _, e => by cases e
  | (g, u) :: fs, _, ⟨v, r, h1, h2, h3⟩, e => by
    subst h1
    simp only [List.map_cons, List.zip_cons_cons, List.lookup_cons] at e ⊢
    cases q : f == g with
    | true => rw [q] at e; cases e; exact ⟨v, rfl, h2⟩
    | false =>
      rw [q] at e
      obtain ⟨w, a, b⟩ := RTs.lk h3 e
      exact ⟨w, a, b⟩
theorem XAt.fld {HP H : Hp} {x : Exn} {d : Option Addr} {f : Str} {t : T} (h : XAt cA HP H x d) (e : x.fs.lookup f = some t) : ∃ dd fs v, d = some dd ∧ H dd = some (.xd fs) ∧ fs.lookup f = some v ∧ RT cA HP t v := by
  rcases h with ⟨z, _⟩ | ⟨dd, vs, _, c, hd, r⟩
  · rw [z] at e; cases e
  · obtain ⟨v, a, b⟩ := r.lk e
    exact ⟨dd, _, v, c, hd, a, b⟩
theorem xf_no (C : Cst X CX XE tb sc Φ gl cA) {c fd : Str} (h : xfB Φ c fd = true) : PySem.W.findIn X.K (.ref (cA.ad c)) fd = some none := by
  unfold xfB at h
  rw [Bool.or_eq_true] at h
  rcases h with h | h
  · split at h
    · rename_i f e
      have := beq_iff_eq.mp h
      subst this
      obtain ⟨fI, fdt, T, _⟩ := C.c.xi c f e
      exact T.no
    · cases h
  · split at h
    · rename_i p e
      obtain ⟨f, g⟩ := p
      obtain ⟨fI, fdt, T, _⟩ := C.c.xi2 c f g e
      rw [Bool.or_eq_true] at h
      rcases h with h | h
      · have h : f = fd := beq_iff_eq.mp h
        subst h; exact T.no
      · have h : g = fd := beq_iff_eq.mp h
        subst h; exact T.no2
    · cases h
theorem subsX_ok (C : Cst X CX XE tb sc Φ gl cA) {c : Str} : ∀ {Cs : List Str} {bs : List Bool}, subsX Φ c Cs = some bs → (∀ E ∈ Cs, ¬ (E == ("ValueError" : Str)) = true) → KdR X.K cA.ad (cA.ad c) Cs bs
  | [], bs, h, _ => by cases h; exact .nil
  | E :: Cs, bs, h, hn => by
    unfold subsX at h
    cases q : Φ.xsub c E with
    | none => rw [q] at h; cases h
    | some b =>
      cases q2 : subsX Φ c Cs with
      | none => rw [q, q2] at h; cases h
      | some bs' =>
        rw [q, q2] at h
        cases h
        have T := (C.c.xs c E b q).kit
        rw [xval_own (hn E List.mem_cons_self)] at T
        exact .cons T (subsX_ok C q2 fun F hF => hn F (List.mem_cons_of_mem _ hF))
theorem he_star {x : Str} {m : Nat} {e : Expr} {h : HE} (q : toHE tb sc x m e = some h) (es : List Expr) (env : PySem.Env) : starEach (e :: es) env = (false, eval e env) :: starEach es env := by
  cases m with
  | zero => cases q
  | succ m => cases e <;> first | rfl | (simp [toHE] at q; done)
theorem he_swaps {x : Str} {m : Nat} {e : Expr} {h : HE} (q : toHE tb sc x m e = some h) (t : Option Expr) (l : Nat) (env : PySem.Env) : swapsWith e t l env = pure false := by
  cases m with
  | zero => cases q
  | succ m => cases e <;> first | rfl | (simp [toHE] at q; done)
theorem he_plain {x : Str} {m : Nat} {e : Expr} {h : HE} (q : toHE tb sc x m e = some h) (hs : isSlcB e = false) : PlainIx e := by
  cases m with
  | zero => cases q
  | succ m => cases e <;> first | (intro _ _; rfl) | (simp [toHE] at q; done) | (simp [isSlcB] at hs; done)
theorem chgO_nx {j : Nat} {env env1 : Env} {f : List G → Option (List G)} (h : chgO j [] env f = .nx env1) : ∃ gs gs', env[j]? = some (some (.nod true .lst gs)) ∧ f gs = some gs' ∧ env1 = env.set j (some (.nod true .lst gs')) := by
  unfold chgO at h
  split at h
  · rename_i g0 e0
    split at h
    · rename_i gs ea
      split at h
      · rename_i gs' ef
        have ea : some g0 = some (.nod true .lst gs) := ea
        cases ea
        cases h
        exact ⟨gs, gs', e0, ef, rfl⟩
      · cases h
    · cases h
  · cases h
section
variable (C : Cst X CX XE tb sc Φ gl cA) {x' : Exn} {n : Str} {i : Nat} {a : Addr} {oe : Obj} {d : Option Addr} {pn : List (Addr × Obj)} (hi : slotOf tb.N n = some i) (hn : sc.names.lookup n = some .local) (hsn : sane n = true) (ec : ExcC X.K (cA.ad x'.cls)) (hz : L2N.Zn (.ref (cA.ad x'.cls)) d oe) (hf : ∃ vs, oe.data = .fields vs)
include C
theorem ps_var {y : Str} {py : Pos} {j : Nat} (h : toE tb sc 1 (.Name y py) = some (.var j)) : PE (X.suite a pn) (.Name y py) (tVar j) := by
  obtain ⟨y', pos', e1, h1, h2, h3⟩ := toE_var h
  cases e1
  obtain ⟨m1, m2, _⟩ := sane_of h2
  exact pe_var (X := X.suite a pn) (i := j) (by show X.N[j]? = _; rw [C.c.nm]; exact slot_get h3) (by show Vis X.env.scope _; rw [C.c.scp]; exact vis_of h1) m1 m2
include hi hn hsn ec hz hf
theorem he_ok : ∀ {m : Nat} {e : Expr} {h : HE}, toHE tb sc n m e = some h → ∀ {k : Fk} {env : Env} {σ : St} {HP H : Hp} {O : List Addr} {t : T}, heval Φ x' env h = some t → SR cA k HP H env σ O → σ[i]? = some (some (.ref a)) → XAt cA HP H x' d →
    ∀ {Q : VK}, (∀ v HP1 H1, RT cA HP1 t v → SR cA k HP1 H1 env σ O → Ex HP HP1 → Ex H H1 → Q v H1) → wpE (X.suite a ((a, oe) :: pn)) e σ H Q := by
  obtain ⟨n1, n2, _⟩ := sane_of hsn
  have vis : Vis X.env.scope n := by rw [C.c.scp]; exact .inl hn
  have pev : ∀ p, PE (X.suite a ((a, oe) :: pn)) (.Name n p) (tVar i) := fun p => pe_var (X := X.suite a ((a, oe) :: pn)) (i := i) (by show X.N[i]? = _; rw [C.c.nm]; exact slot_get hi) vis n1 n2
  intro m
  induction m with
  | zero => intro e h q; cases q
  | succ m ih =>
    intro e h q k env σ HP H O t ht s hσ hx Q w
    unfold toHE at q
    split at q
    · rename_i y py
      split at q
      · rename_i j ej
        cases q
        unfold heval at ht
        split at ht
        · rename_i t' et
          cases ht
          obtain ⟨v, O1, a1, rg⟩ := s.rs.get et
          exact ⟨_, ps_var C ej, v, a1, w v HP H rg.1 s (Ex.refl _) (Ex.refl _)⟩
        · cases ht
      · cases q
    · rename_i y py fd pa
      split at q
      · rename_i hc
        cases q
        have e1 := beq_iff_eq.mp hc
        rw [e1]
        unfold heval at ht
        split at ht
        · rename_i hxf
          obtain ⟨dd, fs, v, rfl, hd, hl, rt⟩ := hx.fld ht
          refine ⟨_, pe_xf (X := X) ⟨ec.hg, ec.hk, ec.hs, ec.hd⟩ (xf_no C hxf) hz.zc hf (pev py), ?_⟩
          exact ⟨.ref a, hσ, rfl, rfl, dd, fs, v, rfl, hd, hl, w v HP H rt s (Ex.refl _) (Ex.refl _)⟩
        · cases ht
      · cases q
    · rename_i y py ix pos
      split at q
      · rename_i j h' ej eh
        split at q
        · cases q
        · rename_i hslc
          cases q
          unfold heval at ht
          split at ht
          · rename_i z ez
            split at ht
            · rename_i g eg
              obtain ⟨v0, O1, a1, rg⟩ := s.rs.get eg
              refine ⟨_, pe_ix ixW (ps_var C ej) peE (he_plain eh (by simpa using hslc)), ?_⟩
              refine ⟨v0, a1, ih eh ez s hσ hx fun v HP1 H1 rt s1 eP eH => ?_⟩
              cases rt
              obtain ⟨v0', O1', a1', rg1⟩ := s1.rs.get eg
              rw [a1] at a1'
              cases a1'
              unfold heIx at ht
              split at ht
              · rename_i gs ep
                split at ht
                · rename_i t' et
                  cases ht
                  obtain ⟨p, vs, O', rfl, h2, h3, _, _⟩ := rg1.parts s1.eP s1.eB ep
                  obtain ⟨u, O2, e1, e2, _, _⟩ := h3.at et
                  exact ⟨_, ix_list, p, vs, z, u, rfl, rfl, C.c.kK ▸ h2, e1, w u HP1 H1 e2.1 s1 eP eH⟩
                · cases ht
              · cases ht
            · cases ht
          · cases ht
      · cases q
    · rename_i e1 e2 x1 pos
      split at q
      · rename_i h1 h2 q1 q2
        cases q
        unfold heval at ht
        split at ht
        · rename_i t1 t2 et1 et2
          cases ht
          refine ⟨_, pe_tup (pa_cons peE (pa_cons peE pa_nil (he_star q2 [] _)) (he_star q1 [e2] _)), ?_⟩
          refine ih q1 et1 s hσ hx fun v1 HP1 H1 rt1 s1 eP eH => ?_
          refine ih q2 et2 s1 hσ (hx.mono eP eH) fun v2 HP2 H2 rt2 s2 eP2 eH2 => ?_
          refine ⟨by rw [sizeLine_eq]; show 2 ≤ _; omega, fun p hp => ?_⟩
          have st : Step HP2 H2 (upd HP2 p (.tup [v1, v2])) (upd H2 p (.tup [v1, v2])) := Step.frz s2.eP hp
          refine w (.ref p) _ _ ⟨p, [v1, v2], rfl, .inl upd_same, ?_⟩ (s2.step st) (eP.trans (eP2.trans st.exP)) (eH.trans (eH2.trans st.ex))
          exact ⟨v1, [v2], rfl, rt1.mono (eP2.trans st.exP), v2, [], rfl, rt2.mono st.exP, rfl⟩
        · cases ht
      · cases q
    · rename_i g p y py pos
      split at q
      · rename_i hc
        simp only [Bool.and_eq_true] at hc
        cases q
        have e1 := beq_iff_eq.mp hc.1.1
        rw [e1]
        obtain ⟨s1, _, _⟩ := sane_of hc.2
        unfold heval at ht
        split at ht
        · rename_i Cs eCs
          obtain ⟨I, hr⟩ := C.c.xk g Cs eCs
          cases qk : kindX Φ x'.cls Cs with
          | none => rw [qk] at ht; cases ht
          | some z =>
            rw [qk] at ht
            cases ht
            unfold kindX at qk
            split at qk
            · rename_i bs v eb ev
              have hne : ∀ E ∈ Cs, ¬ (E == ("ValueError" : Str)) = true := by
                obtain ⟨_, _, _, _, _, _, _, _, _, _, _, _, _, _, _, _, hm, _⟩ := I.ex
                exact fun E hE => (hm E hE).2
              have hvv := (C.c.xs _ _ _ ev).kit
              rw [show xval cA ("ValueError" : Str) = .type "ValueError" from if_pos rfl] at hvv
              obtain ⟨fa, fdt, ps, hmg, kp, F, hb⟩ := kd_ok (P := X.prog) (w := X.w) (base := X.base) (CX := L2N.CX X.prog X.w) (a := a) I ec hz.zc hf (subsX_ok C eb hne) hvv qk
              have hot : L2H.Hot1 (X.suite a ((a, oe) :: pn)).A (a, oe) := ⟨rfl, by
                obtain ⟨vs, hv⟩ := hf
                exact ⟨vs, hv, hz.2.2 vs hv⟩⟩
              have hx0 : ∀ σ, PassesAt (L2N.CX X.prog X.w) (X.suite a ((a, oe) :: pn)) σ (fun _ _ _ => False) := fun σ pins H s e s' I c => by
                obtain ⟨_, _, _, _, _, _, _, _, _, _, _, _, z⟩ := c
                exact z.elim
              refine ⟨_, pe_callHp (X := X.suite a ((a, oe) :: pn)) (E := fun _ _ _ _ => False) F ⟨(hr.mono (by omega : 1 ≤ 2)).dp, (hr.mono (by omega : 1 ≤ 2)).un⟩ hot List.mem_cons_self (C.c.Gl hc.1.2) hmg kp hb hx0 (pa_cons (pev py) pa_nil rfl) s1 rfl rfl, ?_⟩
              exact ⟨.ref a, hσ, rfl, hx.std, fun H1 nn => w (.int z) HP H1 rfl (s.step (nn HP s.eP)) (Ex.refl _) nn.ex⟩
            · cases qk
        · cases ht
      · cases q
    · cases q
theorem hts_ok {k : Fk} {D D' : Ends} {σ0 : St} (hnx : ∀ σ H, D'.nx σ H = D.nx (σ.set i none) H) (hiP : i ∉ P) : ∀ {hs : List HT} {sts : List Stmt} {env : Env} {σ : St} {HP H : Hp} {O : List Addr}, toHTs tb sc n sts = some hs → SR cA k HP H env σ O → XAt cA HP H x' d → σ[i]? = some (some (.ref a)) → (∀ j ∈ P, σ[j]? = σ0[j]?) → WpOut X cA k P (hrun Φ P x' i hs env) σ0 D →
    wpSs (X.suite a ((a, oe) :: pn)) sts D' σ H := by
  intro hs
  induction hs with
  | nil =>
    intro sts env σ HP H O h s hx hσ hp w
    have : sts = [] := by
      cases sts with
      | nil => rfl
      | cons st sts =>
        unfold toHTs at h
        split at h
        · rename_i e; cases e
        · split at h <;> cases h
        · split at h
          · split at h <;> cases h
          · cases h
        · cases h
    subst this
    unfold hrun at w
    obtain ⟨O', s'⟩ := s.blank i none
    refine ⟨_, pss_nil, ?_⟩
    show D'.nx σ H
    rw [hnx]
    refine w _ HP H O' s' fun j hj => ?_
    rw [List.getElem?_set_ne (fun z => hiP (by rw [z]; exact hj))]
    exact hp j hj
  | cons ht hs ih =>
    intro sts env σ HP H O h s hx hσ hp w
    unfold toHTs at h
    split at h
    · cases h
    · rename_i y p e pos r
      split at h
      · rename_i j c rs e1 e2 e3
        cases h
        split at e1
        · rename_i hl
          unfold hrun at w
          cases q : heval Φ x' env c with
          | none => rw [q] at w; exact w.elim
          | some t =>
            rw [q] at w
            simp only at w
            split at w
            · rename_i hj
              refine ⟨_, pss_cons (ps_set (i := j) (X := X.suite a ((a, oe) :: pn)) C.c.nd (by show X.N[j]? = _; rw [C.c.nm]; exact slot_get e1) (by show Loc X.env.scope y; rw [C.c.scp]; exact loc_of hl) peE (he_swaps e2 _ _ _) (.inl (C.fn y))) pssS, ?_⟩
              refine he_ok C hi hn hsn ec hz hf e2 q s hσ hx fun v HP1 H1 rt s1 eP eH => ?_
              obtain ⟨O', s2⟩ := s1.val rt hj.2.1
              refine ih e3 s2 (hx.mono eP eH) (by rw [List.getElem?_set_ne hj.2.2]; exact hσ) (fun l hl' => ?_) w
              rw [List.getElem?_set_ne (fun z => hj.1 (by rw [z]; exact hl'))]
              exact hp l hl'
            · exact w.elim
        · cases e1
      · cases h
    · rename_i y py m apos e cpos pos r
      split at h
      · rename_i hc
        rw [Bool.and_eq_true] at hc
        split at h
        · rename_i j c rs e1 e2 e3
          cases h
          have em := beq_iff_eq.mp hc.1
          rw [em]
          unfold hrun at w
          cases q : heval Φ x' env c with
          | none => rw [q] at w; exact w.elim
          | some t =>
            rw [q] at w
            simp only at w
            split at w
            · rename_i env1 hch
              obtain ⟨gs, gs', ej, ef, rfl⟩ := chgO_nx hch
              have st1 := he_star e2 [] X.env
              have few : ((backTo cpos (starEach [e] X.env)).all (fun x => !x.1) && (backToKw cpos (keywordEach [] X.env)).all (fun x => x.1.isSome) && decide ([e].length + ([] : List Keyword).length + (if ([] : List Keyword).isEmpty then 0 else 1) < 30)) = true := by rw [st1]; rfl
              refine ⟨_, pss_cons (ps_expr (pe_bm (X := X.suite a ((a, oe) :: pn)) PySem.F.plainAttrs_list PySem.F.slot_list_append PySem.F.type_list_append mt_append (ps_var C e1) (pa_cons peE pa_nil st1) rfl few hc.2 st1 rfl) rfl) pssS, ?_⟩
              obtain ⟨v0, p0, vs0, a0, va0, h10, _, _⟩ := s.chgAt (Og := []) (js := []) ej rfl s.nd (fun _ z => nomatch z)
              have va0 : V.ref p0 = v0 := va0
              subst va0
              refine ⟨.ref p0, a0, .inl ⟨rfl, vs0, .inl (.inl h10)⟩, ?_⟩
              refine he_ok C hi hn hsn ec hz hf e2 q s hσ hx fun v HP1 H1 rt s1 eP eH => ?_
              obtain ⟨v1, p, vs, a1, va, h1, hl2, K⟩ := s1.chgAt (Og := []) (js := []) ej rfl s1.nd (fun _ z => nomatch z)
              rw [a0] at a1
              cases a1
              have va : V.ref p = V.ref p0 := va
              unfold appF at ef
              split at ef
              · rename_i hz2
                cases ef
                obtain ⟨O1, s2⟩ := K (gs ++ [.val t]) (vs ++ [v]) fun O' r' => ⟨O' ++ [], r'.app (show RG cA HP1 k.HB H1 (.val t) v [] from ⟨rt, rfl⟩), fun q hq => List.mem_append.mp hq, fun n1 _ => by rw [List.append_nil]; exact n1⟩
                refine ⟨p, vs, v, va.symm, rfl, h1, by rw [← hl2]; exact hz2, ?_⟩
                exact ih e3 s2 ((hx.mono eP eH).imp id fun ⟨dd, ws, z1, z2, z3, z4⟩ => ⟨dd, ws, z1, z2, by
                  have ne : dd ≠ p := fun z => by rw [z, h1] at z3; cases z3
                  rw [upd_ne ne]; exact z3, z4⟩) hσ hp w
              · cases ef
            · exact w.elim
        · cases h
      · cases h
    · cases h
end
theorem hds_ok (C : Cst X CX XE tb sc Φ gl cA) : ∀ {hds : List ExceptHandler} {l : List (Str × Nat × List HT)}, toHds tb sc hds = some l → ∃ l', HdsAs X hds l' ∧ ∀ {k : Fk} {x' : Exn} {env : Env} {σ σ0 : St} {HP H : Hp} {O : List Addr} {D : Ends} {cls : Value} {d : Option Addr}, SR cA k HP H env σ O → (∀ j ∈ P, σ[j]? = σ0[j]?) → XVal cA HP H x' cls d →
    WpOut X cA k P (hdsX Φ P x' l env) σ0 D → wFull X.K (wpX X) D l' cls d σ H
  | [], l, h => by
    cases h
    exact ⟨[], .nil, fun s hp xv w => by unfold hdsX at w; exact w _ _ _ _ _ _ s hp xv⟩
  | h0 :: hds, l, h => by
    unfold toHds at h
    split at h
    · rename_i e; cases e
    · rename_i x np y b₀ suite pos' r e0
      cases e0
      split at h
      · rename_i i hs rest e1 e2 e3
        split at h
        · rename_i hc
          cases h
          simp only [Bool.and_eq_true, Bool.not_eq_true'] at hc
          obtain ⟨⟨⟨⟨⟨c1, c2⟩, c3⟩, c4⟩, c5⟩, c6⟩ := hc
          have hn : sc.names.lookup y = some .local := by
            unfold locO at c5
            split at c5
            · rename_i e; exact e
            · cases c5
          have hv : ¬ (x == ("ValueError" : Str)) = true := by rw [c4]; decide
          obtain ⟨l', hh, K⟩ := hds_ok C e3
          refine ⟨(.ref (cA.ad x), i, fun a cls d D σ H => ∀ oe pn, L2N.Zn cls d oe → (∃ vs, oe.data = .fields vs) → wpSs (X.suite a ((a, oe) :: pn)) (b₀ :: suite) D σ H) :: l',
            .cons ⟨C.c.Gl c1, (sane_of c2).1, .inl (C.c.xv x c3)⟩ (by rw [C.c.nm]; exact slot_get e1) (by show X.env.scope.names.lookup y = _; rw [C.c.scp]; exact hn) (fun a oe cls d pn hz hf => ⟨fun pins s σ H D I h => pssS.run pins s σ H D I (h oe pn hz hf)⟩) hh, ?_⟩
          intro k x' env σ σ0 HP H O D cls d s hp xv w
          obtain ⟨rfl, hxat⟩ := xv
          unfold hdsX at w
          split at w
          · rename_i hb
            have T := C.c.xs x'.cls x true hb
            refine ⟨true, T.em _ (xval_own hv) ▸ (by rw [xval_own hv]), fun _ a ha => ?_, fun z => nomatch z⟩
            intro oe pn hz hf
            split at w
            · rename_i hl
              have li : i < σ.length := by rw [← s.rs.len]; exact hl.2
              obtain ⟨O2, s2⟩ := s.blank i (some (.ref a))
              refine hts_ok C e1 hn c6 T.ec hz hf (σ0 := σ0) (D := D) (D' := asD D i) (fun _ _ => rfl) hl.1 e2 s2 hxat (List.getElem?_set_self li) (fun j hj => ?_) w
              rw [List.getElem?_set_ne (fun z => hl.1 (by rw [z]; exact hj))]
              exact hp j hj
            · exact w.elim
          · rename_i hb
            have T := C.c.xs x'.cls x false hb
            refine ⟨false, T.em _ (xval_own hv) ▸ (by rw [xval_own hv]), (fun z => nomatch z), fun _ => K s hp ⟨rfl, hxat⟩ w⟩
          · exact w.elim
        · cases h
      · cases h
    · cases h
theorem snd_tryM (C : Cst X CX XE tb sc Φ gl cA) {body orelse : List Stmt} {h0 : ExceptHandler} {hds : List ExceptHandler} {pos : Pos} {sb so : List S} {l : List (Str × Nat × List HT)} (hh : toHds tb sc (h0 :: hds) = some l)
    (Sb : ∀ Y, Cst Y CX XE tb sc Φ gl cA → SndSts Y Φ gl cA P body sb) (So : SndSts X Φ gl cA P orelse so) : SndSt X Φ gl cA P (.Try body (h0 :: hds) orelse [] pos) (.tryM sb l so) := by
  intro k env σ HP H O D s w
  unfold exec at w
  obtain ⟨l', hd, K⟩ := hds_ok (P := P) C hh
  refine ⟨_, ps_try_full (Wout := wpX X) (tb := fun W D σ H => ∀ pn xe, L2N.Takes (X.tr pn xe) W → PassesOwn (model X.prog X.w) X.A X.env xe → wpSs (X.tr pn xe) body D σ H) pssS C.stk C.frm C.c.nd takesX
    (fun W pn xe tk po => ⟨fun pins s σ H D I h => pssS.run pins s σ H D I (h pn xe tk po)⟩) hd, ?_⟩
  intro pn xe tk po
  have C' : Cst (X.tr pn xe) CX XE tb sc Φ gl cA := ⟨⟨C.c.scp, C.c.nm, C.c.nd, C.c.calm, C.c.un, C.c.fn, C.c.ps, C.c.kK, C.c.bl, C.c.gv, C.c.cv, C.c.mt, C.c.mi, C.c.fl, C.c.su, C.c.xv, C.c.xc, C.c.xs, C.c.xi, C.c.hd, C.c.xi2, C.c.xk⟩, C.fn, po, C.cx, C.stk, C.frm, C.kf⟩
  refine Sb (X.tr pn xe) C' k env σ HP H O _ s ?_
  cases q : execs Φ gl P sb env with
  | nx env1 =>
    rw [q] at w
    exact fun σ1 HP1 H1 O1 s1 e1 => So k env1 σ1 HP1 H1 O1 D s1 (WpOut.pins w e1)
  | brk env1 => rw [q] at w; exact w
  | cnt env1 => rw [q] at w; exact w
  | ret g env1 => rw [q] at w; exact w
  | stk => rw [q] at w; exact w
  | exc x' env1 =>
    rw [q] at w
    exact fun cls d σ1 HP1 H1 O1 s1 e1 xv => wpX_of tk (K s1 e1 xv w)
theorem snd_dead {st : Stmt} : SndSt X Φ gl cA P st .dead := by
  intro k env σ HP H O D s w
  unfold exec at w
  exact w.elim
theorem xcT_ok (C : Cst X CX XE tb sc Φ gl cA) {ow : List Nat} {n : Nat} {rec : List Stmt → Option (List S)} (Sb : ∀ Y, Cst Y CX XE tb sc Φ gl cA → ∀ (b : List Stmt) (as : List S), rec b = some as → ∀ P, SndSts Y Φ gl cA P b as) {st : Stmt} {sx : S} (h : xcT tb sc ow n rec st = some sx) : SndSt X Φ gl cA P st sx := by
  unfold xcT at h
  split at h
  · cases h; exact snd_dead
  · split at h
    · split at h
      · split at h
        · rename_i i j e1 e2
          cases h
          split at e1
          · rename_i hl
            exact snd_take C hl e1 e2
          · cases e1
        · cases h
      · cases h
    · split at h
      · split at h
        · rename_i t p b e1 e2 e3
          cases h
          exact snd_forP C e1 (fun P => Sb X C _ _ e3 P) e2
        · cases h
      · cases h
    · split at h
      · rename_i a b e1 e2
        split at h
        · rename_i hc
          simp only [Bool.and_eq_true] at hc
          cases h
          exact snd_raise2 C hc.1.1 hc.1.2 hc.2 e1 e2
        · cases h
      · cases h
    · split at h
      · split at h
        · rename_i b hs o e1 e2 e3
          cases h
          exact snd_tryM C e2 (fun Y CY => Sb Y CY _ _ e1 P) (Sb X C _ _ e3 P)
        · cases h
      · cases h
    · cases h
end
end Bv
set_option maxRecDepth 100000
set_option maxHeartbeats 2000000
/-! Part 17: every statement. -/
namespace Bv
open PySem L2
section
variable [TC] {X : Cx} {CX : CXT} {XE : XK} {tb : Tb} {sc : Scope} {Φ : Fns} {gl : Str → Option T} {cA : CA} {P : List Nat}
theorem sole_nn {e t : Expr} (ht : ∀ x p, t ≠ .Name x p) (l : Nat) (env : PySem.Env) : swapsWithSole [t] e l env = pure false := swaps_nn ht l env
theorem swaps_cell {elt : Expr} {gs : List Comprehension} {scope : Scope} {pos py : Pos} {y : Str} {l : Nat} {env : PySem.Env} (hy : env.scope.names.lookup y = some .cell) : swapsWith (.ListComp elt gs scope pos) (some (.Name y py)) l env = pure false := by
  have ky : env.kindOf y = some .cell := hy
  unfold swapsWith
  have : (NameKind.cell == NameKind.local) = false := rfl
  simp [ky, this]
theorem snd_for (C : Cst X CX XE tb sc Φ gl cA) {n : Nat} {tgE it : Expr} {tg : Tg} {i : It} {body : List Stmt} {sb : List S} {pos : Pos} (ht : toTg tb sc tgE = some tg) (hi : toIt tb sc n it = some i) (hb : ∀ P, SndSts X Φ gl cA P body sb)
    (hn : ∀ a j, i = .enm a → tg ≠ .nm j) (hn2 : ∀ a b j, i = .zip a b → tg ≠ .nm j) : SndSt X Φ gl cA P (.For tgE it body [] pos) (.for_ tg i sb) := by
  have plain : ∀ {e : Expr}, (toE tb sc n e).map It.it = some i → SndSt X Φ gl cA P (.For tgE e body [] pos) (.for_ tg i sb) := by
    intro e h
    cases q : toE tb sc n e with
    | none => rw [q] at h; cases h
    | some a => rw [q] at h; cases h; exact snd_forE C ht hb q
  unfold toIt at hi
  split at hi
  · rename_i f p a ps
    split at hi
    · rename_i hf
      rw [Bool.and_eq_true] at hf
      have := beq_iff_eq.mp hf.1
      subst this
      cases q : toE tb sc n a with
      | none => rw [q] at hi; cases hi
      | some x => rw [q] at hi; cases hi; exact snd_forR1 C ht hb hf.2 q
    · split at hi
      · rename_i hf
        rw [Bool.and_eq_true] at hf
        have := beq_iff_eq.mp hf.1
        subst this
        cases q : toE tb sc n a with
        | none => rw [q] at hi; cases hi
        | some x =>
          rw [q] at hi; cases hi
          have ht' := ht
          unfold toTg at ht'
          split at ht'
          · split at ht'
            · rename_i y _ _
              cases q2 : slotOf tb.N y with
              | none => rw [q2] at ht'; cases ht'
              | some j => rw [q2] at ht'; cases ht'; exact absurd rfl (hn x j rfl)
            · cases ht'
          · exact snd_forEn C ht hb rfl hf.2 q
          · cases ht'
      · split at hi
        · rename_i hf
          rw [Bool.and_eq_true] at hf
          have := beq_iff_eq.mp hf.1
          subst this
          unfold revIt at hi
          split at hi
          · rename_i x y er
            split at hi
            · rename_i u v e1 e2
              cases hi
              unfold rngOf at er
              split at er
              · split at er
                · rename_i g' _ _ _ _ hg
                  rw [Bool.and_eq_true] at hg
                  have := beq_iff_eq.mp hg.1
                  subst this
                  cases er
                  exact snd_forRR C ht hb hf.2 hg.2 e1 e2
                · cases er
              · cases er
            · cases hi
          · cases q : toE tb sc n a with
            | none => rw [q] at hi; cases hi
            | some x => rw [q] at hi; cases hi; exact snd_forRev C ht hb hf.2 q
        · exact plain hi
  · rename_i f p a b ps
    split at hi
    · rename_i hf
      rw [Bool.and_eq_true] at hf
      have := beq_iff_eq.mp hf.1
      subst this
      split at hi
      · rename_i e1 e2
        cases hi
        exact snd_forR2 C ht hb hf.2 e1 e2
      · cases hi
    · split at hi
      · rename_i hf
        rw [Bool.and_eq_true] at hf
        have := beq_iff_eq.mp hf.1
        subst this
        split at hi
        · rename_i e1 e2
          cases hi
          have ht' := ht
          unfold toTg at ht'
          split at ht'
          · split at ht'
            · rename_i y _ _
              cases q2 : slotOf tb.N y with
              | none => rw [q2] at ht'; cases ht'
              | some j => rw [q2] at ht'; cases ht'; exact absurd rfl (hn2 _ _ j rfl)
            · cases ht'
          · exact snd_forZip C ht hb rfl hf.2 e1 e2
          · cases ht'
        · cases hi
      · exact plain hi
  · exact plain hi
theorem toS_okA {CX : CXT} {XE : XK} {tb : Tb} {sc : Scope} {Φ : Fns} {gl : Str → Option T} {cA : CA} {ow : List Nat} : ∀ (n : Nat) (X : Cx), Cst X CX XE tb sc Φ gl cA → ∀ (st : Stmt) (s : S), toS tb sc ow n st = some s → ∀ P, SndSt X Φ gl cA P st s := by
  intro n
  induction n with
  | zero => intro X C st s h; cases h
  | succ n ihA =>
    intro X C
    have ih := ihA X C
    have listsA : ∀ (Y : Cx), Cst Y CX XE tb sc Φ gl cA → ∀ {sts : List Stmt} {as : List S}, toSs (toS tb sc ow n) sts = some as → ∀ P, SndSts Y Φ gl cA P sts as := by
      intro Y CY sts
      induction sts with
      | nil => intro as h P; cases h; exact sndSts_nil
      | cons a sts ihs =>
        intro as h P
        unfold toSs at h
        cases q : toS tb sc ow n a with
        | none => rw [q] at h; cases h
        | some x =>
          cases q2 : toSs (toS tb sc ow n) sts with
          | none => rw [q, q2] at h; cases h
          | some xs =>
            rw [q, q2] at h
            cases h
            exact sndSts_cons (ihA Y CY _ _ q P) (ihs q2 P)
    have lists : ∀ {sts : List Stmt} {as : List S}, toSs (toS tb sc ow n) sts = some as → ∀ P, SndSts X Φ gl cA P sts as := by
      intro sts
      induction sts with
      | nil => intro as h P; cases h; exact sndSts_nil
      | cons a sts ihs =>
        intro as h P
        unfold toSs at h
        cases q : toS tb sc ow n a with
        | none => rw [q] at h; cases h
        | some x =>
          cases q2 : toSs (toS tb sc ow n) sts with
          | none => rw [q, q2] at h; cases h
          | some xs =>
            rw [q, q2] at h
            cases h
            exact sndSts_cons (ih _ _ q P) (ihs q2 P)
    intro st s h P
    unfold toS at h
    split at h
    · rename_i hl
      cases h
      exact xcT_ok C (fun Y CY b as h P => listsA Y CY h P) hl
    split at h
    · rename_i hl
      cases h
      exact xcS_ok C (fun Y CY b as h => listsA Y CY h P) hl
    split at h
    · rename_i hl
      cases h
      exact lendS_ok C hl P
    split at h
    · -- x = e
      split at h
      · rename_i i a e1 e2
        split at e1
        · rename_i hl
          split at h
          · rename_i hsw
            cases h
            unfold lcSw at hsw
            split at hsw
            · rename_i elt tgE iter ifs scope pos
              split at hsw
              · rename_i hc
                exact snd_asg C hl e1 (swaps_cell (by rw [C.c.scp]; exact hc)) (toE_okS C.c _ _ _ e2)
              · rename_i hc
                simp only [Bool.and_eq_true, Bool.not_eq_true'] at hsw
                exact snd_asgLc C hc e1 e2 hsw.1 hsw.2
              · cases hsw
            · cases hsw
            · rename_i hnl
              have lcF : ∀ ee : Expr, (∀ a b c d, ee = .ListComp a b c d → False) → isLcB ee = false := fun ee h => by
                cases ee <;> first | rfl | exact absurd rfl (h _ _ _ _)
              have hlc := lcF _ hnl
              exact snd_asg C hl e1 (toE_swaps e2 hlc _ _ _) (toE_okS C.c _ _ _ e2)
          · cases h
        · cases e1
      · cases h
    · split at h
      · cases h
      · rename_i ht
        split at h
        · rename_i e1 e2
          cases h
          exact snd_unp C e1 (sole_nn (fun _ _ z => by cases z) _ _) (toE_swst e2 (by simpa using ht) _ _ _ _) (toE_ok C.c _ _ _ e2)
        · cases h
    · split at h
      · rename_i e1 e2 e3
        split at h
        · cases h
          exact snd_setk C e1 e2 e3
        · cases h
          exact snd_seti C (toPl_name e1) e2 e3 (sole_nn (fun _ _ z => by cases z) _ _)
      · cases h
    · split at h
      · rename_i e1 e2 e3
        cases h
        exact snd_seti C e1 e2 e3 (sole_nn (fun _ _ z => by cases z) _ _)
      · cases h
    · split at h
      · rename_i e1 e2
        cases h
        exact snd_setf C e1 e2
      · cases h
    · split at h
      · rename_i hm
        rw [Bool.and_eq_true] at hm
        split at h
        · rename_i e1 e2
          cases h
          have := beq_iff_eq.mp hm.1
          subst this
          exact snd_app C e1 hm.2 e2
        · cases h
      · split at h
        · rename_i hm
          rw [Bool.and_eq_true] at hm
          split at h
          · rename_i e1 e2
            cases h
            have := beq_iff_eq.mp hm.1
            subst this
            exact snd_ext C e1 hm.2 e2
          · cases h
        · cases h
    · split at h
      · rename_i hm
        split at h
        · rename_i e1 e2
          cases h
          unfold toLm at e2
          have z := List.find?_some e2
          rw [← beq_iff_eq.mp z]
          exact snd_lm C e1 hm
        · cases h
      · cases h
    · split at h
      · rename_i e1 e2 e3
        split at h
        · cases h; exact snd_augi C (.inl ⟨rfl, rfl⟩) e1 e2 e3
        · cases h; exact snd_augi C (.inr ⟨rfl, rfl⟩) e1 e2 e3
        · cases h
      · cases h
    · split at h
      · rename_i e1 e2 e3
        cases h
        exact snd_ite (toE_okT C.c _ _ _ e1) (lists e2 P) (lists e3 P)
      · cases h
    · split at h
      · rename_i t i b e1 e2 e3
        split at h
        · cases h
        · cases h
        · rename_i hx hy
          cases h
          exact snd_for C e1 e2 (lists e3) (fun a j ea et => hx a j ea et) fun a b j ea et => hy a b j ea et
      · cases h
    · split at h
      · rename_i e1 e2
        cases h
        exact snd_whl C (toE_okT C.c _ _ _ e1) (lists e2 P)
      · cases h
    · rename_i e _ _ _ _
      cases q : toE tb sc n e with
      | none => rw [q] at h; cases h
      | some a => rw [q] at h; cases h; exact snd_ret (toE_okS C.c _ _ _ q)
    · cases h; exact snd_retN
    · cases h; exact snd_brk
    · cases h; exact snd_cnt
    · cases h
theorem toS_ok (C : Cst X CX XE tb sc Φ gl cA) {ow : List Nat} (n : Nat) (st : Stmt) (s : S) (h : toS tb sc ow n st = some s) (P : List Nat) : SndSt X Φ gl cA P st s := toS_okA n X C st s h P
end
end Bv
set_option maxRecDepth 100000
set_option maxHeartbeats 2000000
/-! Part 17r: return f(x.replace(y, z, 1), e): a token must be out; the def's first statement gives one out. -/
namespace Bv
open PySem PySem.Spec PyProof.Rows L2
open PySem.Builtin PySem.Builtin.Str in
theorem gives_rep1 (x y z : Str) (t u v r : Tok) (h0 : (u == 0 || v == 0) = false) (huv : (u == v) = false) (hyz : (y == z) = false) (hy : (y.length == 0) = false) (hc : (occurrences x y 0 x.length 1).isEmpty = false) (hl : tooLong (x.length + (occurrences x y 0 x.length 1).length * z.length) = false) :
    Gives (PySem.Builtin.«str.replace» ⟨[.str x t, .str y u, .str z v, .int 1 r], []⟩) (.str (rep1 x y z)) := by
  show Gives (do let limit ← countLimit "str.replace" (some (.int 1 r)) (x.length + 1); _) _
  rw [countLimit_int "str.replace" 1 r (x.length + 1) (by decide)]
  show Gives (if ((occurrences x y 0 x.length 1).isEmpty || (y.length == 0 && z.length == 0)) = true then (do rule "str.replace.nothing"; ret (.str x t)) else
          (do let same ← isSame (.str y u) (.str z v)
              if same = true then (do rule "str.replace.old-is-new"; ret (.str x t)) else
              if tooLong (x.length + (occurrences x y 0 x.length 1).length * z.length) = true then unsupported "str.replace:memory" else
              retStr (glued z (partsBetween x (occurrences x y 0 x.length 1) y.length)))) _
  rw [hc, hy, isSame_str_other y z u v h0 huv hyz, hl]
  exact .of_eq rfl
theorem occ_len1 (x y : Str) : (Builtin.Str.occurrences x y 0 x.length 1).length ≤ 1 := StrLaws.occ_length_le x y 0 x.length 1
theorem rep1_len (x y z : Str) : (rep1 x y z).length ≤ x.length + z.length := by
  have hy : (Builtin.Str.glued y (Builtin.Str.partsBetween x (Builtin.Str.occurrences x y 0 x.length 1) y.length)).length = x.length := by rw [StrLaws.glued_between_self]
  unfold rep1
  rw [size_glued, length_partsBetween, Nat.add_sub_cancel] at hy
  rw [size_glued, length_partsBetween, Nat.add_sub_cancel]
  have h1 := Nat.mul_le_mul_right z.length (occ_len1 x y)
  omega
open PySem.Builtin PySem.Builtin.Str in
theorem rep_call {prog : Program} {w : World} {A : Around} {E : Value → Shared → Prop} {s : Shared} {x y z : Str} {t u v r : Tok} {Q : Value → Shared → Prop} (hu : u ≠ 0) (hv : v ≠ 0) (huv : u ≠ v) (ok : repOk x y z = true)
    (hq : ∀ t' k, Q (.str (rep1 x y z) t') { s with toks := k }) : wpAny (model prog w) A (call (.builtin "str.replace") [.str x t, .str y u, .str z v, .int 1 r]) Q E s := by
  unfold repOk at ok
  simp only [Bool.and_eq_true, Bool.not_eq_true', decide_eq_true_eq] at ok
  obtain ⟨⟨⟨o1, o2⟩, o3⟩, o4⟩ := ok
  have hl : tooLong (x.length + (Builtin.Str.occurrences x y 0 x.length 1).length * z.length) = false := by
    have h1 := Nat.mul_le_mul_right z.length (occ_len1 x y)
    unfold tooLong
    rw [sizeLine_eq]
    exact decide_eq_false (by omega)
  refine call_gives F.slot_str_replace (typeIs_str _ _ _) F.entry_str_replace (F.args_str_replace_4 _ _ _ _) (gives_rep1 x y z t u v r (by simp [hu, hv]) (by simp [huv]) o3 o2 o1 hl) ?_
  refine ⟨?_, hq _ _⟩
  have := rep1_len x y z
  rw [sizeLine_eq]
  omega
section
variable [TC] {X : Cx} {CX : CXT} {XE : XK} {tb : Tb} {sc : Scope} {Φ : Fns} {gl : Str → Option T} {cA : CA} {P : List Nat}
/-- x.replace(y, z, 1), a token out -/
def tRep (i : Nat) (y z : Str) : TE := fun σ H Q => ∃ a, σ[i]? = some (some (.str a)) ∧ repOk a y z = true ∧ Q (.str (rep1 a y z)) H
theorem pet_rep {i : Nat} {x y z : Str} {px ap cp c1 c2 c3 : Pos} {j1 j2 j3 : Nat} (hv : PE X (.Name x px) (tVar i)) (hl : (ap.endLine == cp.line) = true) :
    L2.PET X (.Call (.Attribute (.Name x px) "replace" ap) [.Constant (.str y) j1 c1, .Constant (.str z) j2 c2, .Constant (.int 1) j3 c3] [] cp) (tRep i y z) := by
  intro pins s σ H Q h0 I h
  obtain ⟨a, ha, hok, hq⟩ := h
  refine wpAny_Call_method_lateS rfl rfl hl (wpAny_mono (PySem.wpAny_toks (hv.run pins s σ H (fun v H1 => v = .str a ∧ H1 = H) I ⟨.str a, ha, rfl, rfl⟩)) (fun v s1 q => ?_) fun _ _ z => z.2)
  obtain ⟨hk, v', H1, I1, r1, e1, e2⟩ := q
  subst e1 e2
  obtain ⟨tx, e2⟩ := r1
  subst e2
  refine ⟨"str", _, PySem.F.plainAttrs_str, PySem.F.slot_str_replace, PySem.F.type_str_replace, typeIs_str _ _ _, (fun _ e => nomatch e), Calls.callWith_builtin rfl (Calls.evalArgs_plain (Calls.spliced_cons ?_))⟩
  refine Calls.Constant_str (k := j1) (pos := c1) (Calls.spliced_cons (Calls.Constant_str (k := j2) (pos := c2) (Calls.spliced_cons (wpAny_Constant_int (k := j3) (pos := c3) (Calls.spliced_nil ?_)))))
  exact rep_call (by show s1.toks ≠ 0; omega) (by show s1.toks + 1 ≠ 0; omega) (by show s1.toks ≠ s1.toks + 1; omega) hok fun t' k => ⟨.str (rep1 a y z), H1, I1.tok k, ⟨t', rfl⟩, hq⟩
/-! statements once a token is out -/
def wpSsT (X : Cx) (st : List Stmt) : TS := fun D σ H => ∃ t, PSsT X st t ∧ t D σ H
theorem psstT {X : Cx} {st : List Stmt} : PSsT X st (wpSsT X st) := fun pins s σ H D h0 I ⟨t, h, q⟩ => h pins s σ H D h0 I q
def SndStsT (X : Cx) (Φ : Fns) (gl : Str → Option T) (cA : CA) (P : List Nat) (st : List Stmt) (s : List S) : Prop :=
  ∀ k env σ HP H O D, SR cA k HP H env σ O → WpOut X cA k P (execs Φ gl P s env) σ D → wpSsT X st D σ H
theorem sndStsT_cons {st : Stmt} {sts : List Stmt} {a : S} {as : List S} (S1 : SndSt X Φ gl cA P st a) (S2 : SndStsT X Φ gl cA P sts as) : SndStsT X Φ gl cA P (st :: sts) (a :: as) := by
  intro k env σ HP H O D s w
  refine ⟨_, psst_cons (PST.of psS) psstT, ?_⟩
  show wpS X st { D with nx := fun σ' H' => wpSsT X sts D σ' H' } σ H
  refine S1 k env σ HP H O _ s ?_
  unfold execs at w
  cases q : exec Φ gl P a env with
  | nx env1 =>
    rw [q] at w
    intro σ1 HP1 H1 O1 s1 e1
    exact S2 k env1 σ1 HP1 H1 O1 D s1 (WpOut.pins w e1)
  | brk env1 => rw [q] at w; exact w
  | cnt env1 => rw [q] at w; exact w
  | ret g env1 => rw [q] at w; exact w
  | exc x env1 => rw [q] at w; exact w
  | stk => rw [q] at w; exact w
def repOf (tb : Tb) (sc : Scope) (n : Nat) : Stmt → Option S
  | .Return (some (.Call (.Name f p) [.Call (.Attribute (.Name x px) m ap) [.Constant (.str y) j1 c1, .Constant (.str z) j2 c2, .Constant (.int k) j3 c3] [] cp, e2] [] pos)) pos2 =>
    if m == ("replace" : Str) && k == 1 && ap.endLine == cp.line && glB sc f && sane f && tb.fns.lookup f == some 2 then (match toE tb sc n (.Name x px), toE tb sc n e2 with
      | some (.var i), some a => some (.retRep f i y z a)
      | _, _ => none) else none
  | _ => none
theorem rep_ok (C : Cst X CX XE tb sc Φ gl cA) {n : Nat} {st : Stmt} {sx : S} (h : repOf tb sc n st = some sx) : SndStsT X Φ gl cA P [st] [sx] := by
  unfold repOf at h
  split at h
  · rename_i f p x px m ap y j1 c1 z j2 c2 k j3 c3 cp e2 pos pos2
    split at h
    · rename_i hc
      simp only [Bool.and_eq_true] at hc
      split at h
      · rename_i i a q1 q2
        cases h
        obtain ⟨⟨⟨⟨⟨m1, m2⟩, m3⟩, m4⟩, m5⟩, m6⟩ := hc
        have e1 := beq_iff_eq.mp m1
        have e3 := beq_iff_eq.mp m2
        subst e1 e3
        obtain ⟨x', pos', e4, v1, v2, v3⟩ := toE_var q1
        cases e4
        obtain ⟨n1, n2, _⟩ := sane_of v2
        obtain ⟨s1, _, s3⟩ := sane_of m5
        have pv : PE X (.Name x px) (tVar i) := pe_var (i := i) (by rw [C.c.nm]; exact slot_get v3) (by rw [C.c.scp]; exact vis_of v1) n1 n2
        obtain ⟨fa, fd, ps, kk, hpl', hm, hk, hb, F, hr⟩ := C.c.fn f 2 (beq_iff_eq.mp m6)
        intro k env σ HP H O D s w
        have hst : starEach [.Call (.Attribute (.Name x px) "replace" ap) [.Constant (.str y) j1 c1, .Constant (.str z) j2 c2, .Constant (.int 1) j3 c3] [] cp, e2] X.env = (false, eval (.Call (.Attribute (.Name x px) "replace" ap) [.Constant (.str y) j1 c1, .Constant (.str z) j2 c2, .Constant (.int 1) j3 c3] [] cp) X.env) :: starEach [e2] X.env := rfl
        have pat : PAT X [.Call (.Attribute (.Name x px) "replace" ap) [.Constant (.str y) j1 c1, .Constant (.str z) j2 c2, .Constant (.int 1) j3 c3] [] cp, e2] (tCons (tRep i y z) (tCons (wpE X e2) tNil)) :=
          pat_cons (pet_rep pv m3) (fun pos pins s σ H Q _ I h => (pa_cons peE pa_nil (toE_star q2 [] _)).run pos pins s σ H Q I h) hst
        have pc : L2.PET X (.Call (.Name f p) [.Call (.Attribute (.Name x px) "replace" ap) [.Constant (.str y) j1 c1, .Constant (.str z) j2 c2, .Constant (.int 1) j3 c3] [] cp, e2] [] pos) (tCall (spOf cA Φ f 2) [] XE (tCons (tRep i y z) (tCons (wpE X e2) tNil))) := by
          intro pins s σ H Q h0 I h
          refine wpAny_Call_Name_kw (ld_glob I (C.c.Gl m4) hm ?_ s1)
          refine PySem.W.callWith_K (h₀ := X.base) I.ok.mod.kin hk (thn (pat pos pins s σ H _ h0 I h) fun us s1 ⟨vs, H1, I1, r, q⟩ => ⟨I1.kIn, ?_⟩) hst (by rw [toE_star q2]; rfl)
          exact run_fn F hr hb .nil (C.c.ps _) I1 r q
        refine ⟨_, CwR.psst_one (CwR.pst_ret pc), ?_⟩
        show tCall _ _ _ _ σ H D.rt
        unfold execs at w
        cases qx : exec Φ gl P (.retRep f i y z a) env with
        | nx env1 =>
          unfold exec repX at qx
          split at qx
          · split at qx
            · unfold retXO at qx
              split at qx
              · split at qx <;> cases qx
              · cases qx
              · cases qx
            · cases qx
          · cases qx
        | brk env1 =>
          unfold exec repX at qx
          split at qx
          · split at qx
            · unfold retXO at qx
              split at qx
              · split at qx <;> cases qx
              · cases qx
              · cases qx
            · cases qx
          · cases qx
        | cnt env1 =>
          unfold exec repX at qx
          split at qx
          · split at qx
            · unfold retXO at qx
              split at qx
              · split at qx <;> cases qx
              · cases qx
              · cases qx
            · cases qx
          · cases qx
        | stk => rw [qx] at w; exact w.elim
        | exc x env1 =>
          unfold exec repX at qx
          split at qx
          · split at qx
            · unfold retXO at qx
              split at qx
              · split at qx <;> cases qx
              · rename_i hq; exact (hardR_exc hq).elim
              · cases qx
            · cases qx
          · cases qx
        | ret g env1 =>
          rw [qx] at w
          unfold exec repX at qx
          split at qx
          · rename_i t1 t2 a0 t ei ee
            split at qx
            · rename_i hok
              unfold retXO at qx
              split at qx
              · rename_i g' hq
                split at qx
                · rename_i hfr
                  cases qx
                  obtain ⟨v0, O0, a1, rg0⟩ := s.rs.get ei
                  have hv0 : v0 = .str a0 := rg0.1
                  subst hv0
                  refine ⟨a0, a1, hok, ?_⟩
                  refine toE_ok C.c n e2 a q2 env σ HP H H _ s.pv s.hs s.eP ?_
                  rw [ee]
                  intro v HP1 H1 O1 rg nd fr st
                  have s1 := s.step st
                  have hbk := hardR_ok hq
                  show spOf cA Φ f 2 ([.str (rep1 a0 y z), v] ++ []) H1 D.rt XE
                  rw [List.append_nil]
                  refine ⟨rfl, s1.tb, HP1, [.val (.str (rep1 a0 y z)), .val t], [], st.sees, ?_, List.nodup_nil, (fun _ z => nomatch z), ?_⟩
                  · rw [mn_nil]
                    exact ⟨.str _, [v], [], [], rfl, ⟨rfl, rfl⟩, ⟨v, [], [], [], rfl, ⟨rg.1, rfl⟩, ⟨rfl, rfl⟩, rfl⟩, rfl⟩
                  · unfold backR at hbk
                    split at hbk
                    · rename_i r gs' qc
                      try rw [qc]
                      split at hbk
                      · rename_i hf
                        cases hbk
                        refine ⟨hf, fun v2 HP2 H2 O2 O' r1 r2 nd' fr' st2 => ?_⟩
                        obtain ⟨s2, nd2, mine, rg2⟩ := freshW s1 hf (r1.freeB hf) (List.nodup_append.mp nd').1 (fun p hp => ⟨((fr' p (List.mem_append_left _ hp)).1).elim id fun z => absurd z (by simp), (fr' p (List.mem_append_left _ hp)).2⟩) st2.nil
                        exact w v2 σ HP2 H2 O2 O rg2 s2 (fun _ _ => rfl) nd2 mine
                      · cases hbk
                    · cases hbk
                    · cases hbk
                · cases qx
              · cases qx
              · cases qx
            · cases qx
          · cases qx
      · cases h
    · cases h
  · cases h
def toTail (tb : Tb) (sc : Scope) (ow : List Nat) (n : Nat) : List Stmt → Option (List S)
  | [] => none
  | s :: r => match repOf tb sc n s with
    | some a => if r.isEmpty then some [a] else none
    | none => match toS tb sc ow n s, toTail tb sc ow n r with
      | some a, some as => some (a :: as)
      | _, _ => none
def toRep (tb : Tb) (sc : Scope) (ow : List Nat) (n : Nat) : List Stmt → Option (List S)
  | .Assign [.Name x px] (.BinOp (.Tuple [.Constant (.str c) j1 p1] k1 p2) .Mult (.Constant (.int m) j2 p3) p4) pos :: r => match (if locB sc x then slotOf tb.N x else none), toTail tb sc ow n r with
    | some i, some as => some (.asg i .frz (.bin .mul (.tup [.con (.str c)]) (.con (.int m))) :: as)
    | _, _ => none
  | _ => none
def toBody (tb : Tb) (sc : Scope) (ow : List Nat) (n : Nat) (b : List Stmt) : Option (List S) := match toRep tb sc ow n b with
  | some x => some x
  | none => toSs (toS tb sc ow n) b
theorem tail_ok (C : Cst X CX XE tb sc Φ gl cA) {ow : List Nat} {n : Nat} : ∀ {st : List Stmt} {as : List S}, toTail tb sc ow n st = some as → SndStsT X Φ gl cA P st as
  | [], _, h => by cases h
  | s :: r, as, h => by
    unfold toTail at h
    cases q : repOf tb sc n s with
    | some a =>
      rw [q] at h
      simp only at h
      split at h
      · rename_i hr
        cases h
        cases r with
        | nil => exact rep_ok C q
        | cons _ _ => cases hr
      · cases h
    | none =>
      rw [q] at h
      simp only at h
      split at h
      · rename_i a as' q1 q2
        cases h
        exact sndStsT_cons (toS_ok C n s a q1 P) (tail_ok C q2)
      · cases h
theorem head_ok (C : Cst X CX XE tb sc Φ gl cA) {x c : Str} {px p1 p2 p3 p4 pos : Pos} {j1 k1 j2 : Nat} {m : Int} {i : Nat} {rest : List Stmt} {as : List S} (h1 : locB sc x = true) (h2 : slotOf tb.N x = some i) (hr : SndStsT X Φ gl cA P rest as) :
    SndSts X Φ gl cA P (.Assign [.Name x px] (.BinOp (.Tuple [.Constant (.str c) j1 p1] k1 p2) .Mult (.Constant (.int m) j2 p3) p4) pos :: rest) (.asg i .frz (.bin .mul (.tup [.con (.str c)]) (.con (.int m))) :: as) := by
  intro k env σ HP H O D s w
  have hone : evS Φ gl P false env (.bin .mul (.tup [.con (.str c)]) (.con (.int m))) = (if decide (2 ≤ m) && decide (m ≤ 1000) then .ok (.val (.nod .tup (List.replicate m.toNat [T.str c]).flatten), env) else .stk) := by
    have e0 : ev Φ gl env (.bin .mul (.tup [.con (.str c)]) (.con (.int m))) = (if decide (2 ≤ m) && decide (m ≤ 1000) then .ok (.val (.nod .tup (List.replicate m.toNat [T.str c]).flatten)) else .stk) := by
      simp [ev, evs, flatT, Res.bind, G.vals?, G.val?, sizeLine_eq, binG, G.toT]
    rw [evS_plain rfl, e0]
    split
    · rfl
    · rfl
  have hcond : (decide (2 ≤ m) && decide (m ≤ 1000)) = true ∧ i ∉ P ∧ i < env.length ∧ WpOut X cA k P (execs Φ gl P as (env.set i (some (.val (.nod .tup (List.replicate m.toNat [T.str c]).flatten))))) σ D := by
    unfold execs exec at w
    rw [hone] at w
    by_cases hm : (decide (2 ≤ m) && decide (m ≤ 1000)) = true
    · rw [if_pos hm] at w
      simp only at w
      by_cases hi : i ∉ P ∧ i < env.length
      · rw [if_pos hi] at w
        exact ⟨hm, hi.1, hi.2, w⟩
      · rw [if_neg hi] at w
        exact w.elim
    · rw [if_neg hm] at w
      exact w.elim
  obtain ⟨hm, hiP, hil, w⟩ := hcond
  rw [Bool.and_eq_true, decide_eq_true_eq, decide_eq_true_eq] at hm
  -- the wish behind the statement
  refine ⟨fun D σ H => ∀ p, H p = none → ∀ q, (upd H p (.tup [.str c])) q = none → wpSsT X rest D (σ.set i (some (.ref q))) (upd (upd H p (.tup [.str c])) q (.tup (List.replicate m.toNat [V.str c]).flatten)), ⟨fun pins s0 σ H D I h => ?_⟩, ?_⟩
  · have hs : swapsWith (.BinOp (.Tuple [.Constant (.str c) j1 p1] k1 p2) .Mult (.Constant (.int m) j2 p3) p4) (some (.Name x px)) pos.line X.env = pure false := rfl
    refine wpAny_execs_cons (wpAny_Assign_Name (wpAny_BinOp (wpAny_Tuple_spliced ?_)) hs)
    show wpAny _ _ (spliced ((false, eval (.Constant (.str c) j1 p1) X.env) :: [])) _ _ _
    refine Calls.spliced_cons (Calls.Constant_str (Calls.spliced_nil ⟨by show 1 ≤ sizeLine; decide, ?_⟩))
    generalize hP : s0.heap.objs.size = pt
    have hpn : H pt = none := by rw [← hP]; exact I.hok.fresh (Nat.le_refl _)
    have I1 : L2.Inv X pins σ (upd H pt (.tup [.str c])) { s0 with heap := s0.heap.push { cls := .type "tuple", data := .seq ([Value.str c s0.toks] : List Value).toArray }, toks := s0.toks + 1 } := by
      rw [← hP]
      refine I.laid (t' := s0.toks + 1) (fun b u e => Heap.get?_push_of_some _ e) (Nat.le_refl _) ?_
      exact ⟨by show 1 ≤ sizeLine; decide, [Value.str c s0.toks], .cons ⟨_, rfl⟩ .nil, ⟨_, Heap.get?_push_size _ rfl, rfl, _, rfl⟩⟩
    refine wpAny_Constant_int (k := j2) (pos := p3) ?_
    refine wpAny_mono (PySem.wpAny_toks_of (n := 1) (by show 1 ≤ s0.toks + 1 + 1; omega) (op_repT (X := X) pins _ σ (upd H pt (.tup [.str c])) (.ref pt) (.int m) (.ref pt) (.int m _) (fun v H2 => ∃ q, v = .ref q ∧ upd H pt (.tup [.str c]) q = none ∧ H2 = upd (upd H pt (.tup [.str c])) q (.tup (List.replicate m.toNat [V.str c]).flatten)) (I1.tok _) rfl ⟨_, rfl⟩
      ⟨pt, m, [.str c], rfl, rfl, .inl (.inl upd_same), by simp, hm.1, hm.2, by simp, fun q hq => ⟨q, rfl, hq, rfl⟩⟩)) (fun u s2 q => ?_) fun _ _ z => z.2
    obtain ⟨hk, v2, H2, I2, rv, q2, rfl, hq2, rfl⟩ := q
    refine wpAny_mono (PySem.wpAny_toks_of hk (store_ok (v := .ref q2) (Q := fun _ s3 => L2.Inv X pins (σ.set i (some (.ref q2))) _ s3) I2 C.c.nd (by rw [C.c.nm]; exact slot_get h2) (by rw [C.c.scp]; exact loc_of h1) rv (fun _ I3 => I3) (.inl (C.fn x)))) (fun _ s3 q3 => ?_) fun _ _ z => z.2
    exact psstT pins s3 _ _ D q3.1 q3.2 (h pt hpn q2 hq2)
  · intro p hp q hq
    have st1 : Step HP H (upd HP p (.tup [.str c])) (upd H p (.tup [.str c])) := Step.frz s.eP hp
    have s1 := s.step st1
    have st2 : Step (upd HP p (.tup [.str c])) (upd H p (.tup [.str c])) (upd (upd HP p (.tup [.str c])) q (.tup (List.replicate m.toNat [V.str c]).flatten)) (upd (upd H p (.tup [.str c])) q (.tup (List.replicate m.toNat [V.str c]).flatten)) := Step.frz s1.eP hq
    have s2 := s1.step st2
    have rts : RTs cA (upd (upd HP p (.tup [.str c])) q (.tup (List.replicate m.toNat [V.str c]).flatten)) (List.replicate m.toNat [T.str c]).flatten (List.replicate m.toNat [V.str c]).flatten := RTs.rep (ts := [T.str c]) (vs := [V.str c]) ⟨_, [], rfl, rfl, rfl⟩ _
    obtain ⟨O', s3⟩ := s2.val (i := i) (t := .nod .tup (List.replicate m.toNat [T.str c]).flatten) (v := .ref q) ⟨q, _, rfl, .inl upd_same, rts⟩ hil
    exact hr k _ _ _ _ O' D s3 (WpOut.pins w (pins_set hiP))
end
end Bv
set_option maxRecDepth 100000
set_option maxHeartbeats 2000000
/-! the lambda that orders the stands: (-span[0][stand], stand) -/
namespace Bv
open PySem PyProof.Rows PySem.Calls PySem.W
def ordTup (p1 p2 p3 p4 p5 p6 p7 p8 : Pos) : Expr := .Tuple [.UnaryOp .USub (.Subscript (.Subscript (.Name "span" p1) (.Constant (.int 0) 0 p2) p3) (.Name "stand" p4) p5) p6, .Name "stand" p7] 0 p8
def ordLA (q : Pos) : Arguments := { posonlyargs := [], args := [{ arg := "stand", annotation := none, pos := q }], vararg := none, kwonlyargs := [], kw_defaults := [], kwarg := none, defaults := [] }
def ordLS : Scope := { kind := .function, names := [("stand", .local), ("span", .free)], isGenerator := false, isCoroutine := false, more := [] }
section
variable {prog : Program} {w : World} {A : Around} {E : Value → Shared → Prop} {s : Shared}
theorem ordTup_run {env : PySem.Env} {m : Str → Option Value} {cl a r : Addr} {rows its : List Value} {j d : Int} {t td : Tok} {p1 p2 p3 p4 p5 p6 p7 p8 : Pos} (hk : env.scope.kind = .function) (h1 : env.kindOf "span" = some .free) (h2 : env.cells.lookup ("span" : Str) = some cl)
    (hc : s.heap.IsCell cl (some (.ref a))) (h3 : env.kindOf "stand" = some .local) (hn : s.heap.Ns env.locals m) (hm : m "stand" = some (.int j t)) (la : s.heap.IsList a rows.toArray) (e0 : rows[0]? = some (.ref r)) (lr : s.heap.IsList r its.toArray) (j0 : 0 ≤ j) (j1 : j < 2 ^ 63)
    (ej : its[j.toNat]? = some (.int d td)) : wpAny (model prog w) A (eval (ordTup p1 p2 p3 p4 p5 p6 p7 p8) env) (KeyPure (.tuple [.int (-d), .int j]) s) E s := by
  unfold ordTup
  refine wpAny_Tuple_spliced ?_
  show wpAny _ _ (spliced ((false, eval (.UnaryOp .USub (.Subscript (.Subscript (.Name "span" p1) (.Constant (.int 0) 0 p2) p3) (.Name "stand" p4) p5) p6) env) :: (false, _) :: [])) _ _ s
  refine spliced_cons (UnaryOp_ (Subscript_ (Subscript_ (wpAny_Name (wpAny_loadName_free hk h1 h2 hc ?_)))))
  refine wpAny_Constant_int ?_
  refine item_listR la (Int.le_refl _) (by decide) (by simpa using e0) ?_
  refine wpAny_Name (wpAny_loadName_local hk h3 hn hm ?_)
  refine item_listR lr j0 j1 (by simpa using ej) ?_
  refine neg_int ?_
  refine spliced_cons (wpAny_Name (wpAny_loadName_local hk h3 hn hm ?_))
  refine spliced_nil ⟨by show 2 ≤ _; decide, _, _, rfl, fun b o e => Heap.get?_push_of_some _ e, ?_⟩
  exact .tuple (Heap.get?_push_size _ rfl) rfl rfl (.cons (.int _ _) (.cons (.int _ _) .nil))
/-- the lambda called -/
theorem ordLam_call {f c' cl a r : Addr} {qual : Str} {pm ctv : Value} {cls : List (Str × Addr)} {rows its : List Value} {j d : Int} {t td : Tok} {p1 p2 p3 p4 p5 p6 p7 p8 q : Pos} (hroom : A.depth < recursionLimit)
    (ho : s.heap.get? f = some (kla_obj "<lambda>" qual (ordLA q) (ordTup p1 p2 p3 p4 p5 p6 p7 p8) ordLS cls pm c' ctv)) (hcd : s.heap.CodeRec (.ref c') qual) (hl : s.heap.NoLimit) (h2 : cls.lookup ("span" : Str) = some cl)
    (hc : s.heap.IsCell cl (some (.ref a))) (la : s.heap.IsList a rows.toArray) (e0 : rows[0]? = some (.ref r)) (lr : s.heap.IsList r its.toArray) (j0 : 0 ≤ j) (j1 : j < 2 ^ 63)
    (ej : its[j.toNat]? = some (.int d td)) : wpAny (model prog w) A (call (.ref f) [.int j t]) (KeyPure (.tuple [.int (-d), .int j]) s) (fun _ _ => False) s := by
  refine wpAny_call (kla_callFunE hroom ho rfl rfl rfl rfl hcd ?_)
  show wpAny _ _ (bindArgs (kla_fn "<lambda>" qual (ordLA q) (ordTup p1 p2 p3 p4 p5 p6 p7 p8) ordLS cls pm (.ref c') ctv) ⟨[.int j t], []⟩) _ _ s
  have hb : bindArgs (kla_fn "<lambda>" qual (ordLA q) (ordTup p1 p2 p3 p4 p5 p6 p7 p8) ordLS cls pm (.ref c') ctv) ⟨[.int j t], []⟩ = pure [(("stand" : Str), .int j t)] := by kernel_rfl
  rw [hb]
  refine wpAny_pure (wpAny_newFunctionEnv (show ∀ x ∈ ordLS.names, x.2 ≠ .cell by decide) (fun x hx => by rw [List.mem_singleton.mp hx]; rfl) (fun h₁ hns hsb => ?_) rfl)
  have kp : ∀ b o, s.heap.get? b = some o → h₁.get? b = some o := fun b o e => hsb.extBut b o (Nat.ne_of_lt (Heap.lt_size e)) (Heap.get?_push_of_some _ e)
  refine ⟨hl.keeps kp, kla_codeExpr ?_⟩
  have hcl : h₁.IsCell cl (some (.ref a)) := by obtain ⟨o, ho, hd⟩ := hc; exact ⟨o, kp _ _ ho, hd⟩
  have hla : h₁.IsList a rows.toArray := by obtain ⟨o, ho, hd⟩ := la; exact ⟨o, kp _ _ ho, hd⟩
  have hlr : h₁.IsList r its.toArray := by obtain ⟨o, ho, hd⟩ := lr; exact ⟨o, kp _ _ ho, hd⟩
  refine wpAny_mono (ordTup_run (s := { s with heap := h₁, toks := s.toks + ([(("stand" : Str), Value.int j t)] : List (Str × Value)).length }) (m := fun x => ([(("stand" : Str), Value.int j t)] : List (Str × Value)).reverse.lookup x) rfl rfl h2 hcl rfl hns rfl hla e0 hlr j0 j1 ej) (fun v s' hv => ?_) fun _ _ z => z
  obtain ⟨h', tk, rfl, k, rd⟩ := hv
  exact ⟨h', tk, rfl, fun b o e => k b o (kp b o e), rd⟩
/-- by depth, the deepest first, then the lesser one -/
def ordLe (ds : List Int) (p q : Int) : Bool := decide (-(ds.getD p.toNat 0) < -(ds.getD q.toNat 0) ∨ (-(ds.getD p.toNat 0) = -(ds.getD q.toNat 0) ∧ p ≤ q))
def ordL (ds : List Int) (n : Nat) : List Int := ((List.range n).map Int.ofNat).mergeSort (ordLe ds)
def ordK (ds : List Int) (p : Int) : PyData := .tuple [.int (-(ds.getD p.toNat 0)), .int p]
theorem alike_ordK (ds : List Int) (x y : Int) : alike (ordK ds x) (ordK ds y) = true := by unfold ordK; simp [alike, alikeAll]
theorem args_sorted_key (a v : Value) : argsOk "sorted" ⟨[a], [(Str.ofString "key", v)]⟩ := by unfold argsOk; kernel_rfl
theorem args_list_sort_key (a v : Value) : argsOk "list.sort" ⟨[a], [(Str.ofString "key", v)]⟩ := by unfold argsOk; kernel_rfl
theorem each_range {acc : List Value} {n : Nat} (h : acc.length = n) (hv : ∀ (j : Nat) (v : Value), acc[j]? = some v → ∃ t, v = .int (0 + (j : Int) * 1) t) : EachIs (fun v (x : Int) => ∃ t, v = .int x t) acc ((List.range n).map Int.ofNat) := by
  refine EachIs.of_zip (by simp [h]) fun p hp => ?_
  obtain ⟨i, hi, e⟩ := List.mem_iff_getElem.mp hp
  rw [List.getElem_zip] at e
  subst e
  simp only [List.length_zip, List.length_map, List.length_range] at hi
  have hi1 : i < acc.length := by omega
  obtain ⟨t, ht⟩ := hv i acc[i] (List.getElem?_eq_getElem hi1)
  refine ⟨t, ?_⟩
  simp only [ht, List.getElem_map, List.getElem_range]
  congr 1
  simp
theorem ord_sorted {rg f c' cl a r : Addr} {qual : Str} {pm ctv : Value} {cls : List (Str × Addr)} {rows its : List Value} {ds : List Int} {p1 p2 p3 p4 p5 p6 p7 p8 q : Pos} {t0 t1 t2 : Tok} {n : Nat} {Q : Value → Shared → Prop} (hh : A.handled = none) (hu : A.units + 8 < cLine) (hroom : A.depth < recursionLimit)
    (hrg : IsRange s.heap rg 0 n 1 t0 t1 t2) (hn : n ≤ sizeLine) (hnd : n ≤ its.length) (rd : IntsAre its ds)
    (ho : s.heap.get? f = some (kla_obj "<lambda>" qual (ordLA q) (ordTup p1 p2 p3 p4 p5 p6 p7 p8) ordLS cls pm c' ctv)) (hcd : s.heap.CodeRec (.ref c') qual) (hl : s.heap.NoLimit) (h2 : cls.lookup ("span" : Str) = some cl)
    (hc : s.heap.IsCell cl (some (.ref a))) (la : s.heap.IsList a rows.toArray) (e0 : rows[0]? = some (.ref r)) (lr : s.heap.IsList r its.toArray)
    (h : ∀ (out : List Value) (h1 h' : Heap) (tk c : Nat), (∀ b o, s.heap.get? b = some o → h1.get? b = some o) → (∀ b o, h1.get? b = some o → h'.get? b = some o) → h'.get? h1.objs.size = some (seqObj "list" out.toArray c) → out.length = n → EachIs (fun v (x : Int) => ∃ t, v = .int x t) out (ordL ds n) →
      Q (.ref h1.objs.size) { s with heap := h', toks := tk }) :
    wpAny (model prog w) A (call (.builtin "sorted") [.ref rg] [(Str.ofString "key", .ref f)]) Q E s := by
  refine call_function_entry_kw kind_sorted plain_sorted entry_sorted (args_sorted_key _ _) ?_
  unfold Builtin.«sorted»
  refine wpAny_bind (m := checkCount "sorted" 1 1 _) (wpAny_pure ?_)
  have hz := sizeLine_eq
  refine wpAny_bind (L2.collect_range (A := A.in1) hh hrg (small_one (by decide) (by decide) (by omega) (by omega)) (n := n) (by rw [rangeSize_nat]; simp) (by omega) fun h1 tk acc hk hi => ?_)
  have hal : acc.toList.length = n := by rw [Array.length_toList]; exact hi.1
  refine wpAny_bind (wpAny_newList ?_ (by omega))
  have hoL : (h1.push { cls := .type "list", data := .seq acc.toList.toArray }).get? h1.objs.size = some (seqObj "list" acc.toList.toArray 0) := Heap.get?_push_size _ rfl
  have k1 : ∀ b o, s.heap.get? b = some o → (h1.push { cls := .type "list", data := .seq acc.toList.toArray }).get? b = some o := fun b o e => Heap.get?_push_of_some _ (hk b o e)
  have lt1 : ∀ b o, s.heap.get? b = some o → b ≠ h1.objs.size := fun b o e => Nat.ne_of_lt (Heap.lt_size (hk b o e))
  refine wpAny_bind (wpAny_holding (list_sort_key_data (s := { s with heap := h1.push { cls := .type "list", data := .seq acc.toList.toArray }, toks := tk }) (ordK ds) hoL (each_range hal fun j v e => hi.2 j v (by rw [← Array.getElem?_toList]; exact e)) (fun d hd d' hd' => ?_) (.inl fun d hd => ?_) (by simpa using hn) (fun x hx => ?_) (args_list_sort_key _ _) (ksk_t1 _ _) (fun v x hv hx g tk2 kp => ?_) fun out c h' tk2 kp hD hlen he => ?_))
  · obtain ⟨x, _, rfl⟩ := List.mem_map.mp hd
    obtain ⟨y, _, rfl⟩ := List.mem_map.mp hd'
    exact alike_ordK ds x y
  · obtain ⟨x, _, rfl⟩ := List.mem_map.mp hd
    exact ⟨_, _, rfl⟩
  · have : (ordK ds x).depth ≤ 4 := by unfold ordK; simp [PyData.depth, PyData.depthAll]
    show A.units + 1 + 1 + _ < cLine
    omega
  · obtain ⟨t, rfl⟩ := hv
    obtain ⟨i, hi1, rfl⟩ := List.mem_map.mp hx
    have hin : i < n := List.mem_range.mp hi1
    have kg : ∀ b o, s.heap.get? b = some o → g.get? b = some o := fun b o e => kp b o (lt1 b o e) (k1 b o e)
    obtain ⟨m, td, e1, e2⟩ := rd.at i its[i] (List.getElem?_eq_getElem (by omega))
    have em : ds.getD i 0 = m := by rw [List.getD_eq_getElem?_getD, e2]; rfl
    have htd : its[i]? = some (.int (ds.getD i 0) td) := by rw [em, ← e1]; exact List.getElem?_eq_getElem (by omega)
    have up : ∀ {b : Addr} {vs : Array Value}, s.heap.IsList b vs → g.IsList b vs := fun ⟨o, e, z⟩ => ⟨o, kg _ _ e, z⟩
    obtain ⟨c0, oc, vs0, tq, z1, z2, z3⟩ := hcd
    refine ordLam_call (A := A.in1.in1) (s := { s with heap := g, toks := tk2 }) (cl := cl) (a := a) (r := r) (rows := rows) (its := its) (j := Int.ofNat i) (d := ds.getD i 0) (td := td) hroom (kg _ _ ho) ⟨c0, oc, vs0, tq, z1, kg _ _ z2, z3⟩ (hl.keeps kg) h2 (by obtain ⟨o, e, z⟩ := hc; exact ⟨o, kg _ _ e, z⟩) (up la) e0 (up lr) (by simp) (by simp; omega) htd
  · refine wpAny_pure ?_
    refine ⟨_, rfl, ?_⟩
    exact h out h1 h' tk2 c hk (fun b o e => kp b o (Nat.ne_of_lt (Heap.lt_size e)) (Heap.get?_push_of_some _ e)) hD (by simpa using hlen) (by
      have q : dataLe false (ordK ds) = ordLe ds := dataLe_ii _ _
      rw [q] at he
      exact he)
end
end Bv
set_option maxRecDepth 100000
set_option maxHeartbeats 2000000
/-! sorted(range(len(span)), key=lambda stand: (-span[0][stand], stand)) -/
namespace Bv
open PySem PyProof.Rows L2 LamX
def ordCall (p1 p2 p3 p4 p5 p6 p7 p8 q q1 q2 q3 q4 q5 q6 q7 q8 q9 : Pos) : Expr :=
  .Call (.Name "sorted" q1) [.Call (.Name "range" q2) [.Call (.Name "len" q3) [.Name "span" q4] [] q5] [] q6] [⟨some "key", .Lambda (ordLA q) (ordTup p1 p2 p3 p4 p5 p6 p7 p8) ordLS q7, q8⟩] q9
def tOrd (T : List (Addr × Str)) (X : Cx) (i : Nat) : TE := fun σ H Q => ∃ a rows r ds, σ[i]? = some (some (.ref a)) ∧ SqL X.K H a rows ∧ rows[0]? = some (.ref r) ∧ SqL X.K H r (ds.map V.int) ∧ rows.length ≤ ds.length ∧ Tabs T H ∧
  ∀ (H1 : Hp) (p : Addr), ExtN H H1 → (∀ b ps, X.H_0 b = some (.tbl ps) → ∃ more, H1 b = some (.tbl (ps ++ more))) → Tabs T H1 → H1 p = none → Q (.ref p) (upd H1 p (.lst ((ordL ds rows.length).map V.int)))
theorem each_vals : ∀ {out : List Value} {xs : List Int}, PySem.W.EachIs (fun v (x : Int) => ∃ t, v = .int x t) out xs → Vals (xs.map V.int) out
  | _, _, .nil => .nil
  | _, _, .cons h r => .cons h (each_vals r)
theorem sql_ext {K : PySem.W.Frag} {H H1 : Hp} {a : Addr} {xs : List V} (e : ExtN H H1) (h : SqL K H a xs) : SqL K H1 a xs := by
  rcases h with (h | ⟨o, h⟩) | h
  · exact .inl (.inl (e _ _ h fun _ z => by cases z))
  · exact .inl (.inr ⟨o, e _ _ h fun _ z => by cases z⟩)
  · exact .inr h
theorem pe_rng1 {X : Cx} {a : Expr} {ta : TE} {p pos : Pos} (hg : Gl X "range") (hm : X.mg "range" = none) (ha : PE X a ta) (na : starEach [a] X.env = (false, eval a X.env) :: starEach [] X.env := by rfl) :
    PE X (.Call (.Name "range" p) [a] [] pos) (fun σ H Q => ta σ H fun x H1 => ∃ n, x = .int n ∧ ∀ p, H1 p = none → Q (.ref p) (upd H1 p (.rng 0 n))) := by
  refine ⟨fun pins s σ H Q I h => ?_⟩
  refine Call_ (ld_blt I hg hm boot_range (PyProof.Rows.callWith_type1 (one_arg ha I h (fun v s2 x H2 I2 r q => ?_) na) na))
  obtain ⟨n, rfl, q⟩ := q
  obtain ⟨t, rfl⟩ := r
  refine call_range_1 ⟨.ref _, _, I2.laid (a := s2.heap.objs.size) (o := .rng 0 n) (fun b u e => Heap.get?_push_of_some _ e) (Nat.le_refl _) ?_, rfl, q _ (I2.hok.fresh (Nat.le_refl _))⟩
  exact ⟨_, _, _, IsRange.new _ _ _ _ _ _ _⟩
theorem pe_ord {X : Cx} {T : List (Addr × Str)} {c P : Addr} {i : Nat} {p1 p2 p3 p4 p5 p6 p7 p8 q q1 q2 q3 q4 q5 q6 q7 q8 q9 : Pos} (hN : X.N[i]? = some ("span" : Str)) (hv : X.env.scope.names.lookup ("span" : Str) = some .cell)
    (hg1 : Gl X "sorted") (hm1 : X.mg "sorted" = none) (hg2 : Gl X "range") (hm2 : X.mg "range" = none) (hg3 : Gl X "len") (hm3 : X.mg "len" = none) (TB : TabB X.base X.mg c P) (hcode : X.env.code = .ref c) (hr : Room 1 X.A)
    (hm : (P, X.env.qual ++ "<lambda>") ∈ T) (hu : ∀ p ∈ T, p.1 = P → p.2 = X.env.qual ++ "<lambda>") : PE X (ordCall p1 p2 p3 p4 p5 p6 p7 p8 q q1 q2 q3 q4 q5 q6 q7 q8 q9) (tOrd T X i) := by
  refine ⟨fun pins s σ H Q I h => ?_⟩
  obtain ⟨a, rows, r, ds, e1, hS, e0, hS2, hle, hT, hQ⟩ := h
  have hfree : ∀ y ∈ ordLS.names, y.2 = .free → ∃ c, X.env.cells.lookup y.1 = some c := fun y hy e => by
    have : y.1 = "span" := by
      rcases List.mem_cons.mp hy with rfl | hy
      · cases e
      · rw [List.mem_singleton.mp hy]
    rw [this]
    exact I.ok.has _ (.inl hv)
  unfold ordCall
  refine wpAny_Call_Name_kw (ld_blt I hg1 hm1 (by rfl) ?_)
  refine PyProof.Rows.callWith_kw ?_
  show wpAny _ _ (spliced ((false, eval _ X.env) :: [])) _ _ _
  have hlenE : PE X (.Call (.Name "len" q3) [.Name "span" q4] [] q5) (tCB (fun xs H Q => ∃ x n, xs = [x] ∧ LenV X.K x H n ∧ Q (.int n) H) (tCons (tVar i) tNil)) := pe_callB (id := "len") call_len hg3 hm3 (by rfl) (pa_cons (pe_var hN (.inr (.inl hv))) pa_nil)
  refine Calls.spliced_cons (thn ((pe_rng1 hg2 hm2 hlenE).run pins s σ H (fun x H1 => ∃ rg, x = .ref rg ∧ H rg = none ∧ H1 = upd H rg (.rng 0 rows.length)) I ?_) fun v s1 ⟨x, H1, I1, rx, rg, ex, hrg, eH⟩ => ?_)
  · exact ⟨.ref a, e1, .ref a, rows.length, rfl, .inl ⟨rows, hS, rfl⟩, _, rfl, fun p hp => ⟨p, rfl, hp, rfl⟩⟩
  subst ex eH
  obtain rfl : v = .ref rg := rx
  refine Calls.spliced_nil (kws_cons ?_)
  have e1N : ExtN H (upd H rg (.rng 0 rows.length)) := fun b o e _ => by rw [upd_ne (ne_of_none e hrg)]; exact e
  have T1 : Tabs T (upd H rg (.rng 0 rows.length)) := hT.ext fun b o e => by rw [upd_ne (ne_of_none e hrg)]; exact e
  refine lam_make2 I1 TB hcode hm hu T1 (by rfl) hfree fun f c' pm ctv H2 s2 I2 eN T2 hf hfn hfr hco => ?_
  refine kws_nil ?_
  have hx : ExtN H H2 := e1N.trans eN
  have hrg2 : H2 rg = some (.rng 0 rows.length) := eN _ _ upd_same fun _ z => by cases z
  obtain ⟨t0, t1, t2, grg⟩ := I2.hok rg _ hrg2
  obtain ⟨rowsV, rv1, pl1, hz1⟩ := I2.list (sql_ext hx hS)
  obtain ⟨its, rv2, pl2, hz2⟩ := I2.list (sql_ext hx hS2)
  obtain ⟨u0, hu0, ru0⟩ := rv1.get e0
  obtain rfl : u0 = .ref r := ru0
  obtain ⟨⟨oc, vs, tq, z1, z2, z3⟩, _, _⟩ := I2.hok c' _ hco
  obtain ⟨m, hns, hlk⟩ := I2.loc
  obtain ⟨u1, ru1, lk⟩ := hlk i "span" (.ref a) hN e1 (.inr (.inl hv))
  obtain rfl : u1 = .ref a := ru1
  have kc : X.env.kindOf "span" = some .cell := hv
  obtain ⟨cl, hcl, hcell⟩ : ∃ c, X.env.cells.lookup ("span" : Str) = some c ∧ s2.heap.IsCell c (some (.ref a)) := by
    rcases lk with ⟨k, _⟩ | ⟨_, z⟩
    · rw [kc] at k; cases k
    · exact z
  have hlen2 : its.length = ds.length := by rw [← rv2.length]; simp
  refine ord_sorted (A := X.A) (n := rows.length) (rg := rg) (f := f) (c' := c') (cl := cl) (a := a) (r := r) (rows := rowsV) (its := its) (ds := ds) hr.hd (by have := hr.un; omega) (by have := hr.dp; omega) grg hz1 (by omega) rv2.ints hf ⟨c', oc, vs, tq, rfl, z1, z2, z3⟩ I2.nolimit
    (NdefX.clo_has hfree (by decide) hcl) hcell pl1.isList hu0 pl2.isList fun out h1 h' tk c0 k1 k2 hD hl he => ?_
  have I3 : Inv X pins σ H2 { s2 with heap := h1, toks := s2.toks } := I2.kept k1
  have hv3 := each_vals he
  have hz3 : ((ordL ds rows.length).map V.int).length ≤ sizeLine := by rw [hv3.length, hl]; exact hz1
  exact ⟨.ref h1.objs.size, _, I3.laid (a := h1.objs.size) (o := .lst ((ordL ds rows.length).map V.int)) (t' := tk) k2 (Nat.le_refl _) ⟨hz3, out, c0, hv3, hD⟩, rfl, hQ H2 _ hx (fun b ps e => I2.base.tbls b ps e) T2 (I3.hok.fresh (Nat.le_refl _))⟩
/-- what the def answers -/
def ordT : List T → Option (List Int)
  | .nod .lst d :: ts => match ints? d with
    | some ds => if (T.nod .lst d :: ts).length ≤ ds.length then some (ordL ds (T.nod .lst d :: ts).length) else none
    | none => none
  | _ => none
def ownG : G → Bool
  | .nod true _ _ => true
  | _ => false
def ordC : List G → CRes
  | [g] => if ownG g then .stk else match lstItems g with
    | some ts => (match ordT ts with
      | some is => .ok (.nod true .lst (is.map fun i => .val (.int i))) []
      | none => .stk)
    | none => .stk
  | _ => .stk
theorem ordC_inv {gs : List G} {r : G} {gs' : List G} (h : ordC gs = .ok r gs') : ∃ g d ts' ds, gs = [g] ∧ ownG g = false ∧ lstItems g = some (.nod .lst d :: ts') ∧ ints? d = some ds ∧ (T.nod .lst d :: ts').length ≤ ds.length ∧
    r = .nod true .lst ((ordL ds (T.nod .lst d :: ts').length).map fun i => .val (.int i)) ∧ gs' = [] := by
  unfold ordC at h
  split at h
  · rename_i g
    split at h
    · cases h
    · rename_i hog
      split at h
      · rename_i ts hts
        split at h
        · rename_i is his
          cases h
          unfold ordT at his
          split at his
          · rename_i d ts'
            split at his
            · rename_i ds hds
              split at his
              · rename_i hle
                cases his
                exact ⟨g, d, ts', ds, rfl, by simpa using hog, hts, hds, hle, rfl, rfl⟩
              · cases his
            · cases his
          · cases his
        · cases h
      · cases h
  · cases h
/-- the def that orders stands at fa -/
def OrdIs [TC] (K : PySem.W.Frag) (mg : Str → Option Value) (f : Str) (fa : Addr) (fdt : FuncData) : Prop :=
  ∃ (nm : Str) (oc : Value) (od : Option Addr) (kV doc pm : Value) (an : Option Addr) (c P : Addr) (ct : Value) (osl : Array (Option Value)) (params : Arguments) (sc : Scope) (p1 p2 p3 p4 p5 p6 p7 p8 q q1 q2 q3 q4 q5 q6 q7 q8 q9 qr : Pos),
    fdt = PySem.W.fnOf nm f params [.Return (some (ordCall p1 p2 p3 p4 p5 p6 p7 p8 q q1 q2 q3 q4 q5 q6 q7 q8 q9)) qr] sc .none kV doc pm an (.ref c) ct ∧ K.lookup fa = some ⟨oc, od, .func fdt, osl⟩ ∧ PySem.W.codeIn K (.ref c) f = true ∧
    (c, P) ∈ TC.cs ∧ (P, f ++ ".<locals>." ++ "<lambda>") ∈ TC.T ∧ (∀ p ∈ TC.T, p.1 = P → p.2 = f ++ ".<locals>." ++ "<lambda>") ∧ FnScope ["span"] ["span"] sc ∧ sc.names.lookup ("span" : Str) = some .cell ∧
    sc.names.lookup ("sorted" : Str) = some .globalImplicit ∧ sc.names.lookup ("range" : Str) = some .globalImplicit ∧ sc.names.lookup ("len" : Str) = some .globalImplicit ∧ mg "sorted" = none ∧ mg "range" = none ∧ mg "len" = none
section
variable [TC] {cA : CA} {P : Program} {w : World} {mg : Str → Option Value} {base : Heap} {Φ : Fns}
theorem ord_ok {f : Str} {fa : Addr} {fdt : FuncData} (O : OrdIs cA.K mg f fa fdt) (TB : ∀ p ∈ TC.cs, TabB base mg p.1 p.2) (hΦ : ∀ gs, Φ.call f gs = ordC gs) : FnOk P w cA.K mg base CX0 2 fa fdt ["span"] (spOf cA Φ f 1) := by
  obtain ⟨nm, oc, od, kV, doc, pm, an, c, Pt, ct, osl, params, sc, p1, p2, p3, p4, p5, p6, p7, p8, q, q1, q2, q3, q4, q5, q6, q7, q8, q9, qr, rfl, lk, hcd, hc1, hT1, hT2, hS, n0, n1, n2, n3, m1, m2, m3⟩ := O
  refine ⟨fun vs H Q E h => h.1, fun A outer s H args us vs Q E hr e0 hb rv h => ?_⟩
  refine run_ofS lk hcd hS hr e0 hb rv h.1 fun hr' => ?_
  let X := cxOf CX0 P w cA.K mg base ["span"] f sc fa (.ref c) A outer s H E
  have PE1 : PE X (ordCall p1 p2 p3 p4 p5 p6 p7 p8 q q1 q2 q3 q4 q5 q6 q7 q8 q9) (tOrd TC.T X 0) := pe_ord rfl n0 n1 m1 n2 m2 n3 m3 (TB _ hc1) rfl hr' hT1 hT2
  refine ⟨_, pss_one (ps_ret PE1), ?_⟩
  obtain ⟨hl, tb, HP, gs, L, eP, rg, nL, fL, h5⟩ := h
  rw [hΦ] at h5
  cases hq : ordC gs with
  | exc x _ => exact absurd hq (by unfold ordC; repeat' split <;> first | (intro z; cases z; done) | skip)
  | stk => rw [hq] at h5; exact h5.elim
  | ok r1 gs' =>
    rw [hq] at h5
    obtain ⟨g, d, ts', ds, rfl, hog, hts, hds, hle, rfl, rfl⟩ := ordC_inv hq
    obtain ⟨v, r0, O1, O2, e1, rg1, ⟨e2, e3⟩, e4⟩ := rg
    subst e1 e2
    have eM : Ex (mn H L) H := .of fun p u e => by
      unfold mn at e
      split at e
      · cases e
      · exact e
    obtain ⟨a, rows, rfl, sq, rts⟩ := rg1.lstI eP eM hts
    have hd := ints_eq hds
    obtain ⟨v0, rr, e5, rt0, rts'⟩ := rts
    subst e5
    obtain ⟨r, dv, rfl, at_, rtd⟩ := rt0
    have hdv : dv = ds.map V.int := by
      rw [hd] at rtd
      clear hle hds h5 hts hd at_ hq
      induction ds generalizing dv with
      | nil => exact rtd
      | cons x xs ih =>
        obtain ⟨v1, r1, e6, e7, e8⟩ := rtd
        rw [e6, e7, ih _ e8]; rfl
    have sq2 : SqL cA.K H r (ds.map V.int) := by
      rw [← hdv]
      exact SqL.ex eP at_
    have hlen : (V.ref r :: rr).length = (T.nod .lst d :: ts').length := by
      rw [List.length_cons, List.length_cons, rts'.len]
    refine ⟨a, V.ref r :: rr, r, ds, rfl, sq, rfl, sq2, by rw [hlen]; exact hle, tb, fun H1 p xN tbl T2 hp => ?_⟩
    have exH : Ex H H1 := ⟨fun b o n e => xN b o e n, fun b ps e => by
      obtain ⟨more, z⟩ := tbl b ps e
      exact ⟨_, z⟩⟩
    have exU : Ex H (upd H1 p (.lst ((ordL ds (V.ref r :: rr).length).map V.int))) := exH.trans (Ex.new hp)
    have og : ownOf [g] [V.ref a] = [] := by
      cases g with
      | val t => rfl
      | nod o k gs => cases o with
        | false => rfl
        | true => simp [ownG] at hog
    have intsR : ∀ (is : List Int) (HB H2 : Hp), RGs cA HP HB H2 (is.map fun i => G.val (.int i)) (is.map V.int) [] := by
      intro is HB H2
      induction is with
      | nil => exact ⟨rfl, rfl⟩
      | cons i is ih => exact ⟨.int i, is.map V.int, [], [], rfl, ⟨rfl, rfl⟩, ih, rfl⟩
    refine h5.2 (.ref p) HP _ [p] [] ⟨p, _, [], rfl, upd_same, by rw [hlen]; exact intsR _ _ _, rfl⟩ (by rw [og]; exact ⟨rfl, rfl⟩) (by simp) (fun q hq => ?_) ⟨eM.trans exU, fun _ => tbs_new hp T2, Ex.refl _, fun _ z => .inl z, eP.trans exU⟩
    have : q = p := by simpa using hq
    subst this
    have hq0 := exH.none hp
    exact ⟨.inl hq0, eP.none hq0⟩
end
end Bv
set_option maxRecDepth 100000
set_option maxHeartbeats 2000000
/-! Part 18: defs and a whole program. -/
namespace Bv
open PySem L2
structure Fd where
  N : List Str
  ps : List Str
  body : List S
  ord : Bool := false
/-- what is known of the classes -/
structure CTab where
  meth : List ((Str × Str) × (Str × Nat))
  init : List (Str × (Str × Nat))
  fld : List (Str × Str)
  sub : List ((Str × Str) × Bool)
  xcl : List Str := []
  xsub : List ((Str × Str) × Bool) := []
  xin : List (Str × Str) := []
  isd : List Str := []
  xin2 : List (Str × (Str × Str)) := []
  xkd : List (Str × List Str) := []
structure Prog where
  fs : List (Str × Fd)
  pl : List (Str × Nat)
  cls : List Str
  ct : CTab
  xcs : List Str := []
def fnsOf (ct : CTab) (call : Str → List G → CRes) : Fns := ⟨call, fun C m => ct.meth.lookup (C, m), fun C => ct.init.lookup C, fun C f => ct.fld.contains (C, f), fun C D => ct.sub.lookup (C, D), fun C => ct.xcl.contains C, fun C D => ct.xsub.lookup (C, D), fun C => ct.xin.lookup C, fun g => ct.isd.contains g, fun C => ct.xin2.lookup C, fun g => ct.xkd.lookup g⟩
def isOwnB : G → Bool
  | .nod true _ _ => true
  | _ => false
mutual
/-- nothing owned in it -/
def G.still : G → Bool
  | .val _ => true
  | .nod o _ gs => !o && G.stills gs
def G.stills : List G → Bool
  | [] => true
  | g :: gs => g.still && G.stills gs
end
def callN (pr : Prog) (gl : Str → Option T) : Nat → Str → List G → CRes
  | 0, _, _ => .stk
  | d + 1, f, gs => match pr.fs.lookup f with
    | some fd => if fd.ord = true then ordC gs else if gs.length = fd.ps.length then runF (fnsOf pr.ct (callN pr gl d)) gl fd.N.length fd.body gs else .stk
    | none => .stk
/-- the table of a def -/
def tbOf (pr : Prog) (gls bls : List Str) (fd : Fd) : Tb := ⟨fd.N, pr.pl, gls, bls, pr.cls, pr.xcs⟩
/-- an own class that an exception may be asked for -/
structure XoOk (K : PySem.W.Frag) (C : Addr) : Prop where
  sb : PySem.W.subIn K (.ref C) (.type "BaseException") = some true
  hd : PySem.W.hasDictIn K C = true
  ty : PySem.W.typeIn K (.ref C) = some (.type "type")
theorem xs_own {cA : CA} {c : Addr} {D : Str} {b : Bool} (hD : (D == ("ValueError" : Str)) = false) (q : PySem.W.kitOne cA.K (.ref c) (.ref (cA.ad D)) = some b) (o : XoOk cA.K (cA.ad D)) (r : PySem.W.subIn cA.K (.ref c) (.ref (cA.ad D)) = some b) (e : ExcC cA.K c) : XsOk cA.K c (xval cA D) b := by
  have ev : xval cA D = .ref (cA.ad D) := if_neg fun z => by rw [beq_iff_eq.mpr z] at hD; cases hD
  rw [ev]
  exact ⟨q, fun a _ => PySem.W.exm_ref o.sb o.hd o.ty r, e⟩
theorem xs_val {cA : CA} {c : Addr} {b : Bool} (q : PySem.W.kitOne cA.K (.ref c) (.type "ValueError") = some b) (e : ExcC cA.K c) : XsOk cA.K c (xval cA "ValueError") b := ⟨q, (fun a z => nomatch z), e⟩
/-- the static facts of a program -/
structure Stat [TC] (K : PySem.W.Frag) (mg : Str → Option Value) (pr : Prog) (gls bls : List Str) (gl : Str → Option T) (ad fad : Str → Addr) : Prop where
  fn : ∀ f fd, pr.fs.lookup f = some fd → ∃ fdt, (∀ us : List Value, us.length = fd.ps.length → bindArgs fdt ⟨us, []⟩ = pure (fd.ps.zip us)) ∧ PySem.W.keepIn K (.ref (fad f)) = true ∧
    ((fd.ord = false ∧ ∃ st ow n nm, Fun K nm f st (fad f) fdt ∧ FnScope fd.N fd.ps (defScope st) ∧ toBody (tbOf pr gls bls fd) (defScope st) ow n (defBody st) = some fd.body) ∨ (fd.ord = true ∧ fd.ps = [("span" : Str)] ∧ OrdIs K mg f (fad f) fdt))
  pl : ∀ f n, pr.pl.lookup f = some n → mg f = some (.ref (fad f)) ∧ ∃ fd, pr.fs.lookup f = some fd ∧ fd.ps.length = n
  cv : ∀ C, pr.cls.contains C = true → mg C = some (.ref (ad C))
  mt : ∀ C m f n, pr.ct.meth.lookup (C, m) = some (f, n) → Cls K (ad C) ∧ Meth K (ad C) m (fad f) ∧ ∃ fd, pr.fs.lookup f = some fd ∧ fd.ps.length = n
  mi : ∀ C f n, pr.ct.init.lookup C = some (f, n) → Mk K (ad C) (fad f) ∧ ∃ fd, pr.fs.lookup f = some fd ∧ fd.ps.length = n
  fl : ∀ C f, pr.ct.fld.contains (C, f) = true → Cls K (ad C) ∧ NoAttr K (ad C) f
  su : ∀ C D b, pr.ct.sub.lookup (C, D) = some b → InsA K (ad C) ∧ PySem.W.kitOne K (.ref (ad C)) (.ref (ad D)) = some b
  xv : ∀ C, pr.xcs.contains C = true → mg C = some (.ref (ad C))
  xc : ∀ C, pr.ct.xcl.contains C = true → XcOk K (ad C)
  xs : ∀ C D b, pr.ct.xsub.lookup (C, D) = some b → XsOk K (ad C) (xval ⟨K, ad⟩ D) b
  xi : ∀ C f, pr.ct.xin.lookup C = some f → ∃ fI fdt, XiOk K mg (ad C) fI f fdt
  hd : ∀ g, pr.ct.isd.contains g = true → ∃ fa fdt, IsdOk K mg g fa fdt
  xi2 : ∀ C f g, pr.ct.xin2.lookup C = some (f, g) → ∃ fI fdt, XiOk2 K mg (ad C) fI f g fdt
  xk : ∀ g Cs, pr.ct.xkd.lookup g = some Cs → XkOk K mg ad g Cs
  bl : ∀ x, bls.contains x = true → mg x = none
  gv : ∀ x t, gls.contains x = true → gl x = some t → flatT t = true ∧ ∃ u, mg x = some u ∧ RelV (toV t) u
section
variable [TC] {cA : CA} {pr : Prog} {gl : Str → Option T} {gls bls : List Str}
theorem stills_mn {HP HB H : Hp} : ∀ {gs : List G} {vs : List V} {O : List Addr}, G.stills gs = true → RGs cA HP HB H gs vs O → O = [] := by
  have main : ∀ (g : G) (v : V) (O : List Addr), g.still = true → RG cA HP HB H g v O → O = [] := by
    intro g
    induction g using G.rec (motive_2 := fun gs => ∀ (vs : List V) (O : List Addr), G.stills gs = true → RGs cA HP HB H gs vs O → O = []) with
    | val t => intro v O _ h; exact h.2
    | nod o k gs ih =>
      intro v O hs h
      cases o with
      | true => simp [G.still] at hs
      | false =>
        obtain ⟨p, vs, _, _, h3⟩ := h
        exact ih vs O (by simpa [G.still] using hs) h3
    | nil => rename_i h; exact h.2
    | cons g gs ih1 ih2 =>
      rename_i hs h
      obtain ⟨v, r, O1, O2, h1, h2, h3, h4⟩ := h
      unfold G.stills at hs
      rw [Bool.and_eq_true] at hs
      rw [h4, ih1 v O1 hs.1 h2, ih2 r O2 hs.2 h3]
      rfl
  intro gs
  induction gs with
  | nil => intro vs O _ h; exact h.2
  | cons g gs ih =>
    intro vs O hs h
    obtain ⟨v, r, O1, O2, h1, h2, h3, h4⟩ := h
    unfold G.stills at hs
    rw [Bool.and_eq_true] at hs
    rw [h4, main g v O1 hs.1 h2, ih hs.2 h3]
    rfl
theorem ownOf_stills : ∀ {gs : List G} {vs : List V}, G.stills gs = true → ownOf gs vs = []
  | [], vs, _ => by cases vs <;> rfl
  | .val _ :: gs, [], _ => rfl
  | .val _ :: gs, v :: vs, h => by
    unfold G.stills at h
    rw [Bool.and_eq_true] at h
    show ownOf gs vs = []
    exact ownOf_stills h.2
  | .nod true _ _ :: gs, vs, h => by simp [G.stills, G.still] at h
  | .nod false _ _ :: gs, [], _ => rfl
  | .nod false _ _ :: gs, v :: vs, h => by
    unfold G.stills at h
    rw [Bool.and_eq_true] at h
    show ownOf gs vs = []
    exact ownOf_stills h.2
theorem rs_start {HP HB H : Hp} : ∀ {gs : List G} {vs : List V} {O : List Addr} (m : Nat), RGs cA HP HB H gs vs O → RS cA HP HB H (gs.map some ++ List.replicate m none) (vs.map some ++ List.replicate m none) O
  | [], _, _, m, h => by
    obtain ⟨rfl, rfl⟩ := h
    show RS cA HP HB H (List.replicate m none) (List.replicate m none) []
    induction m with
    | zero => exact ⟨rfl, rfl⟩
    | succ m ih => exact ⟨none, _, rfl, ih⟩
  | _ :: _, _, _, m, ⟨v, r, O1, O2, h1, h2, h3, h4⟩ => by
    subst h1
    exact ⟨v, _, O1, O2, rfl, h2, rs_start m h3, h4⟩
/-- the lent ones, read off the slots -/
theorem lent_ok {HP HB H : Hp} {σ0 σ1 : St} : ∀ {gs : List G} {vs : List V} {n : Nat} {env : Env} {O : List Addr} {gs' : List G}, gs.length = vs.length → (∀ j v, vs[j]? = some v → σ0[n + j]? = some (some v)) → RS cA HP HB H env σ1 O → (∀ i ∈ lentIx n gs, σ1[i]? = σ0[i]?) →
    lentOut env (lentIx n gs) = some gs' → ∃ O1 O2, RGs cA HP HB H gs' (ownOf gs vs) O1 ∧ O.Perm (O1 ++ O2) := by
  have low : ∀ (gs : List G) (n i : Nat), i ∈ lentIx n gs → n ≤ i := by
    intro gs
    induction gs with
    | nil => intro n i h; cases h
    | cons g gs ih =>
      intro n i h
      unfold lentIx at h
      split at h
      · rename_i e; cases e
      · rename_i e; cases e
        rcases List.mem_cons.mp h with rfl | h
        · exact Nat.le_refl _
        · exact Nat.le_of_succ_le (ih _ _ h)
      · rename_i e; cases e
        exact Nat.le_of_succ_le (ih _ _ h)
  have outE : ∀ (is : List Nat) (env : Env) (i : Nat), (∀ j ∈ is, i < j) → lentOut (env.set i none) is = lentOut env is := by
    intro is
    induction is with
    | nil => intro env i _; rfl
    | cons j is ih =>
      intro env i h
      unfold lentOut
      rw [List.getElem?_set_ne (Nat.ne_of_lt (h j List.mem_cons_self)), ih env i fun k hk => h k (List.mem_cons_of_mem _ hk)]
  intro gs
  induction gs with
  | nil =>
    intro vs n env O gs' hl h0 rs hp h
    cases h
    exact ⟨[], O, ⟨by cases vs <;> rfl, rfl⟩, .refl _⟩
  | cons g gs ih =>
    intro vs n env O gs' hl h0 rs hp h
    cases vs with
    | nil => cases hl
    | cons v vs =>
      have hl' : gs.length = vs.length := by simpa using hl
      have h0' : ∀ j v, vs[j]? = some v → σ0[n + 1 + j]? = some (some v) := fun j w e => by
        have := h0 (j + 1) w (by simpa using e)
        rw [← this]; congr 1; omega
      have plain : lentIx n (g :: gs) = lentIx (n + 1) gs → ownOf (g :: gs) (v :: vs) = ownOf gs vs → ∃ O1 O2, RGs cA HP HB H gs' (ownOf (g :: gs) (v :: vs)) O1 ∧ O.Perm (O1 ++ O2) := fun e1 e2 => by
        rw [e1] at hp h
        rw [e2]
        exact ih hl' h0' rs hp h
      cases g with
      | val t => exact plain rfl rfl
      | nod o k xs =>
        cases o with
        | false => exact plain rfl rfl
        | true =>
          have hp' : ∀ i ∈ n :: lentIx (n + 1) gs, σ1[i]? = σ0[i]? := hp
          have h : lentOut env (n :: lentIx (n + 1) gs) = some gs' := h
          unfold lentOut at h
          split at h
          · rename_i k' xs' e
            cases q : lentOut env (lentIx (n + 1) gs) with
            | none => rw [q] at h; cases h
            | some gs2 =>
              rw [q] at h
              cases h
              obtain ⟨w, O1, O2, a, b, c, d⟩ := rs.hide e
              have ew : w = v := by
                have z := hp' n List.mem_cons_self
                have z0 : σ0[n]? = some (some v) := h0 0 v rfl
                rw [a, z0] at z
                exact Option.some.inj (Option.some.inj z)
              subst ew
              obtain ⟨O3, O4, r, pm⟩ := ih hl' h0' c (fun i hi => hp' i (List.mem_cons_of_mem _ hi)) (by rw [outE _ _ _ fun j hj => low _ _ _ hj]; exact q)
              exact ⟨O1 ++ O3, O4, ⟨w, _, O1, O3, rfl, b, r, rfl⟩, by rw [List.append_assoc]; exact d.trans (List.Perm.append_left O1 pm)⟩
          · cases h
theorem toSs_ok {X : Cx} {CX : CXT} {XE : XK} {tb : Tb} {sc : Scope} {Φ : Fns} (C : Cst X CX XE tb sc Φ gl cA) {ow : List Nat} {n : Nat} : ∀ (sts : List Stmt) (as : List S), toSs (toS tb sc ow n) sts = some as → ∀ P, SndSts X Φ gl cA P sts as := by
  intro sts
  induction sts with
  | nil => intro as h P; cases h; exact sndSts_nil
  | cons a sts ihs =>
    intro as h P
    unfold toSs at h
    cases q : toS tb sc ow n a with
    | none => rw [q] at h; cases h
    | some x =>
      cases q2 : toSs (toS tb sc ow n) sts with
      | none => rw [q, q2] at h; cases h
      | some xs =>
        rw [q, q2] at h
        cases h
        exact sndSts_cons (toS_ok C _ _ _ q P) (ihs _ q2 P)
theorem _root_.L2.FnOk.any {P : Program} {w : World} {K : PySem.W.Frag} {mg : Str → Option Value} {base : Heap} {CY : CXT} {k : Nat} {f : Addr} {fd : FuncData} {ps : List Str} {sp : Sp} (F : FnOk P w K mg base CX0 k f fd ps sp) : FnOk P w K mg base CY k f fd ps sp :=
  ⟨F.len, fun A outer s H args us vs Q E hr e0 hb rv h => codeAny_mono (F.run A outer s H args us vs Q E hr e0 hb rv h) fun r s' hq => by
    cases r with
    | error e => exact hq.elim
    | ok fl => cases fl <;> exact hq⟩
theorem body_ok {X : Cx} {CX : CXT} {XE : XK} {tb : Tb} {sc : Scope} {Φ : Fns} (C : Cst X CX XE tb sc Φ gl cA) {ow : List Nat} {n : Nat} {st : List Stmt} {as : List S} (h : toBody tb sc ow n st = some as) (P : List Nat) : SndSts X Φ gl cA P st as := by
  unfold toBody at h
  split at h
  · rename_i x q
    cases h
    unfold toRep at q
    split at q
    · split at q
      · rename_i i as' e1 e2
        cases q
        split at e1
        · rename_i hl
          exact head_ok C hl e1 (tail_ok C e2)
        · cases e1
      · cases q
    · cases q
  · exact toSs_ok C _ _ h P
theorem fn_all {P : Program} {w : World} {mg : Str → Option Value} {base : Heap} {fad : Str → Addr} (S : Stat cA.K mg pr gls bls gl cA.ad fad) (TB : ∀ p ∈ TC.cs, LamX.TabB base mg p.1 p.2) : ∀ (d : Nat) (f : Str) (fd : Fd), pr.fs.lookup f = some fd →
    ∀ fdt, (∀ us : List Value, us.length = fd.ps.length → bindArgs fdt ⟨us, []⟩ = pure (fd.ps.zip us)) →
    ((fd.ord = false ∧ ∃ st ow n nm, Fun cA.K nm f st (fad f) fdt ∧ FnScope fd.N fd.ps (defScope st) ∧ toBody (tbOf pr gls bls fd) (defScope st) ow n (defBody st) = some fd.body) ∨ (fd.ord = true ∧ fd.ps = [("span" : Str)] ∧ OrdIs cA.K mg f (fad f) fdt)) →
    FnOk P w cA.K mg base (L2N.CX P w) (2 * d + 1) (fad f) fdt fd.ps (spOf cA (fnsOf pr.ct (callN pr gl d)) f fd.ps.length) := by
  intro d
  induction d with
  | zero =>
    intro f fd hf fdt hb _
    refine ⟨fun vs H Q E h => h.1, fun A outer s H args us vs Q E _ _ _ _ h => ?_⟩
    obtain ⟨_, _, HP, gs, L, _, _, _, _, h5⟩ := h
    exact h5.elim
  | succ d ih =>
    intro f fd hf fdt hb hord
    rcases hord with ⟨ho, st, ow, n, nm, F, hS, ht⟩ | ⟨ho, hps, OI⟩
    case inr =>
      have := ((ord_ok (P := P) (w := w) (base := base) (Φ := fnsOf pr.ct (callN pr gl (d + 1))) OI TB (fun gs => by
        show callN pr gl (d + 1) f gs = ordC gs
        unfold callN
        rw [hf]
        simp [ho])).any (CY := L2N.CX P w)).mono (k := 2 * (d + 1) + 1) (by omega)
      rw [hps]
      exact this
    refine okN (k := 2 * d + 1 + 1) F hS (fun vs H Q E h => h.1) fun cdv A outer s H vs Q E hr h => ?_
    obtain ⟨hl, tb0, HP, gs, L, eP, rg, nL, fL, h5⟩ := h
    refine ⟨_, pssS, ?_⟩
    have h5 : match callN pr gl (d + 1) f gs with
      | .ok r gs' => r.free = true ∧ ∀ v HP1 H1 O O', RG cA HP1 (mn H L) H1 r v O → RGs cA HP1 (mn H L) H1 gs' (ownOf gs vs) O' → (O ++ O').Nodup → (∀ p ∈ O ++ O', (H p = none ∨ p ∈ L) ∧ HP1 p = none) → StepL HP H L HP1 H1 → Q v H1
      | .exc x _ => ∀ cls dd HP1 H1, XVal cA HP1 H1 x cls dd → StepL HP H L HP1 H1 → E cls dd H1
      | .stk => False := h5
    unfold callN at h5
    rw [hf] at h5
    simp only [ho, Bool.false_eq_true, if_false] at h5
    by_cases hc : gs.length = fd.ps.length
    · rw [if_pos hc] at h5
      have hlen : fd.ps.length ≤ fd.N.length := by
        have e := congrArg List.length hS.pre
        rw [List.length_take] at e
        omega
      have fnA : ∀ g fdg, pr.fs.lookup g = some fdg → ∃ fdt', (∀ us : List Value, us.length = fdg.ps.length → bindArgs fdt' ⟨us, []⟩ = pure (fdg.ps.zip us)) ∧ PySem.W.keepIn cA.K (.ref (fad g)) = true ∧ FnOk P w cA.K mg base (L2N.CX P w) (2 * d + 1) (fad g) fdt' fdg.ps (spOf cA (fnsOf pr.ct (callN pr gl d)) g fdg.ps.length) := fun g fdg e1 => by
        obtain ⟨fdt', a2, a3, a4⟩ := S.fn g fdg e1
        exact ⟨fdt', a2, a3, ih g fdg e1 fdt' a2 a4⟩
      have C : Cst (cxOf (L2N.CX P w) P w cA.K mg base fd.N f (defScope st) (fad f) cdv A outer s H E) (L2N.CX P w) E0 (tbOf pr gls bls fd) (defScope st) (fnsOf pr.ct (callN pr gl d)) gl cA := by
        refine ⟨⟨rfl, rfl, hS.nd, rfl, (by have := hr.un; show (A.deeper _).units + 65 < cLine; omega), fun g m hg => ?_, fun _ => passE, rfl, fun x hx => S.bl x hx, fun x t hx e => S.gv x t hx e, fun c hc => S.cv c hc, fun c m g nn hm => ?_, fun c g nn hm => ?_, fun c g hm => S.fl c g hm, fun c D b hm => S.su c D b hm, fun c hc => S.xv c hc, fun c hc => S.xc c hc, fun c D b hm => S.xs c D b hm, fun c f hm => by
          obtain ⟨fI, fdt', T⟩ := S.xi c f hm
          exact ⟨fI, fdt', T, hr.mono (by omega)⟩, fun g hm => by
          obtain ⟨fa, fdt', T⟩ := S.hd g hm
          exact ⟨fa, fdt', T, hr.mono (by omega)⟩, fun c f g hm => by
          obtain ⟨fI, fdt', T⟩ := S.xi2 c f g hm
          exact ⟨fI, fdt', T, hr.mono (by omega)⟩, fun g Cs hm => ⟨S.xk g Cs hm, hr.mono (by omega)⟩⟩, fun _ => rfl, passes_of rfl, rfl, rfl, rfl, hS.kind⟩
        · obtain ⟨e0, fdg, e1, e2⟩ := S.pl g m hg
          obtain ⟨fdt', a2, a3, F'⟩ := fnA g fdg e1
          rw [e2] at F'
          exact ⟨fad g, fdt', fdg.ps, 2 * d + 1, e2, e0, a3, .all a2, F', hr.mono (Nat.le_succ _)⟩
        · obtain ⟨c1, c2, fdg, e1, e2⟩ := S.mt c m g nn hm
          obtain ⟨fdt', a2, a3, F'⟩ := fnA g fdg e1
          rw [e2] at F'
          exact ⟨fad g, fdt', fdg.ps, 2 * d + 1, e2, c1, c2, .all a2, F', hr.mono (Nat.le_succ _)⟩
        · obtain ⟨c1, fdg, e1, e2⟩ := S.mi c g nn hm
          obtain ⟨fdt', a2, a3, F'⟩ := fnA g fdg e1
          rw [e2] at F'
          exact ⟨fad g, fdt', fdg.ps, 2 * d + 1, e2, c1, .all a2, F', hr⟩
      let k : Fk := ⟨HP, H, L, fun _ => none⟩
      have hn : fd.N.length - gs.length = fd.N.length - vs.length := by rw [hl, hc]
      have rs := rs_start (fd.N.length - gs.length) rg
      have exmn : Ex (mn H L) H := .of fun p u e => by
        unfold mn at e
        split at e
        · cases e
        · exact e
      have sr : SR cA k HP H (gs.map some ++ List.replicate (fd.N.length - gs.length) none) (L2.start fd.N vs) L := by
        unfold L2.start
        rw [← hn]
        exact ⟨rs, tb0, nL, (fun p hp => ⟨.inr hp, fL p hp, rfl⟩), eP, exmn, .of (fun _ _ z => nomatch z), Ex.refl _, fun _ z => .inl z⟩
      have h0 : ∀ j v, vs[j]? = some v → (L2.start fd.N vs)[0 + j]? = some (some v) := fun j v e => by
        unfold L2.start
        rw [Nat.zero_add, List.getElem?_append_left (by rw [List.length_map]; exact (List.getElem?_eq_some_iff.mp e).1), List.getElem?_map, e]
        rfl
      refine body_ok C ht (lentIx 0 gs) k _ _ HP H L _ sr ?_
      unfold runF at h5
      have hgl : gs.length = vs.length := hc.trans hl.symm
      cases q : execs (fnsOf pr.ct (callN pr gl d)) gl (lentIx 0 gs) fd.body (gs.map some ++ List.replicate (fd.N.length - gs.length) none) with
      | nx env1 =>
        rw [q] at h5
        simp only at h5
        intro σ1 HP1 H1 O1 s1 pins
        cases ql : lentOut env1 (lentIx 0 gs) with
        | none => rw [ql] at h5; exact h5.elim
        | some gs' =>
          rw [ql] at h5
          obtain ⟨O2, O3, r2, pm⟩ := lent_ok hgl h0 s1.rs pins ql
          have sub : ∀ p ∈ O2, p ∈ O1 := fun p hp => pm.mem_iff.mpr (List.mem_append_left _ hp)
          exact h5.2 .non HP1 H1 [] O2 ⟨rfl, rfl⟩ r2 (List.nodup_append.mp (pm.nodup_iff.mp s1.nd)).1 (fun p hp => ⟨(s1.own0 p (sub p hp)).1, (s1.own0 p (sub p hp)).2.1⟩) ⟨s1.eB, fun _ => s1.tb, s1.ex0, fun p hp => (s1.new0 p hp).imp id fun z => z.1, s1.eP⟩
      | ret g env1 =>
        rw [q] at h5
        simp only at h5
        intro v σ1 HP1 H1 Og O1 rg1 s1 pins nd m
        cases ql : lentOut env1 (lentIx 0 gs) with
        | none => rw [ql] at h5; exact h5.elim
        | some gs' =>
          rw [ql] at h5
          obtain ⟨O2, O3, r2, pm⟩ := lent_ok hgl h0 s1.rs pins ql
          have sub : ∀ p ∈ O2, p ∈ O1 := fun p hp => pm.mem_iff.mpr (List.mem_append_left _ hp)
          refine h5.2 v HP1 H1 Og O2 rg1 r2 ?_ (fun p hp => ?_) ⟨s1.eB, fun _ => s1.tb, s1.ex0, fun p hp => (s1.new0 p hp).imp id fun z => z.1, s1.eP⟩
          · have n1 := List.nodup_append.mp nd
            refine List.nodup_append.mpr ⟨n1.1, (List.nodup_append.mp (pm.nodup_iff.mp s1.nd)).1, fun a ha b hb e => n1.2.2 a ha b (sub b hb) e⟩
          · rcases List.mem_append.mp hp with hp | hp
            · exact ⟨(m p hp).1, (m p hp).2.1⟩
            · exact ⟨(s1.own0 p (sub p hp)).1, (s1.own0 p (sub p hp)).2.1⟩
      | brk env1 => rw [q] at h5; exact h5.elim
      | cnt env1 => rw [q] at h5; exact h5.elim
      | exc x env1 =>
        rw [q] at h5
        simp only at h5
        intro cls dd σ1 HP1 H1 O1 s1 pins xv
        exact wpX_of (L2N.takes_of rfl rfl rfl rfl) (h5 cls dd HP1 H1 xv ⟨s1.eB, fun _ => s1.tb, s1.ex0, fun p hp => (s1.new0 p hp).imp id fun z => z.1, s1.eP⟩)
      | stk => rw [q] at h5; exact h5.elim
    · rw [if_neg hc] at h5
      exact h5.elim
end
end Bv
set_option maxRecDepth 100000
set_option maxHeartbeats 2000000
/-! Part 19: a law's end. -/
namespace Bv
open PySem L2
theorem lookup_mem {κ α : Type} [BEq κ] [LawfulBEq κ] {f : κ} {fd : α} : ∀ {pr : List (κ × α)}, pr.lookup f = some fd → (f, fd) ∈ pr
  | [], h => by cases h
  | (x, e) :: pr, h => by
    simp only [List.lookup_cons] at h
    cases q : f == x with
    | true => rw [q] at h; cases h; rw [beq_iff_eq.mp q]; exact List.mem_cons_self
    | false => rw [q] at h; exact List.mem_cons_of_mem _ (lookup_mem h)
/-- a def's data stands at fa: nm its name, f its qualified name -/
def FnIs (K : PySem.W.Frag) (nm f : Str) (st : Stmt) (fa : Addr) : Prop := ∃ (oc : Value) (od : Option Addr) (kV doc pm : Value) (an : Option Addr) (cdv ct : Value) (osl : Array (Option Value)),
  K.lookup fa = some ⟨oc, od, .func (PySem.W.fnOf nm f (defArgs st) (defBody st) (defScope st) .none kV doc pm an cdv ct), osl⟩ ∧ PySem.W.codeIn K cdv f = true ∧ PySem.W.keepIn K (.ref fa) = true
theorem fnIs_mk {K : PySem.W.Frag} {nm f : Str} {st : Stmt} {fa : Addr} {oc : Value} {od : Option Addr} {kV doc pm : Value} {an : Option Addr} {cdv ct : Value} {osl : Array (Option Value)}
    (l : K.lookup fa = some ⟨oc, od, .func (PySem.W.fnOf nm f (defArgs st) (defBody st) (defScope st) .none kV doc pm an cdv ct), osl⟩) (c : PySem.W.codeIn K cdv f = true) (k : PySem.W.keepIn K (.ref fa) = true) : FnIs K nm f st fa :=
  ⟨oc, od, kV, doc, pm, an, cdv, ct, osl, l, c, k⟩
section
variable [TC] {K : PySem.W.Frag} {h : Heap} {mg : Str → Option Value}
theorem fn_is {nm f : Str} {st : Stmt} {fa : Addr} {fd : Fd} {pr : Prog} {gls bls : List Str} {ow : List Nat} {n : Nat} {mg0 : Str → Option Value} (I : FnIs K nm f st fa) (ho : fd.ord = false) (sc : FnScope fd.N fd.ps (defScope st)) (ck : toBody (tbOf pr gls bls fd) (defScope st) ow n (defBody st) = some fd.body)
    (hb : ∀ (kV doc pm : Value) (an : Option Addr) (cdv ct : Value) (us : List Value), us.length = fd.ps.length → bindArgs (PySem.W.fnOf nm f (defArgs st) (defBody st) (defScope st) .none kV doc pm an cdv ct) ⟨us, []⟩ = pure (fd.ps.zip us)) :
    ∃ fdt, (∀ us : List Value, us.length = fd.ps.length → bindArgs fdt ⟨us, []⟩ = pure (fd.ps.zip us)) ∧ PySem.W.keepIn K (.ref fa) = true ∧
    ((fd.ord = false ∧ ∃ st ow n nm, Fun K nm f st fa fdt ∧ FnScope fd.N fd.ps (defScope st) ∧ toBody (tbOf pr gls bls fd) (defScope st) ow n (defBody st) = some fd.body) ∨ (fd.ord = true ∧ fd.ps = [("span" : Str)] ∧ OrdIs K mg0 f fa fdt)) := by
  obtain ⟨oc, od, kV, doc, pm, an, cdv, ct, osl, h2, h3, h4⟩ := I
  have F := fun_mk (x := nm) (qual := f) (st := st) h2 h3 h4
  exact ⟨_, hb kV doc pm an cdv ct, h4, .inl ⟨ho, st, ow, n, nm, F, sc, ck⟩⟩
/-- the ordering def stands at fa, its code object at c, the table of this at P -/
def OrdD (K : PySem.W.Frag) (nm f : Str) (st : Stmt) (fa c : Addr) : Prop := ∃ (oc : Value) (od : Option Addr) (kV doc pm : Value) (an : Option Addr) (ct : Value) (osl : Array (Option Value)),
  K.lookup fa = some ⟨oc, od, .func (PySem.W.fnOf nm f (defArgs st) (defBody st) (defScope st) .none kV doc pm an (.ref c) ct), osl⟩ ∧ PySem.W.codeIn K (.ref c) f = true ∧ PySem.W.keepIn K (.ref fa) = true
theorem ordD_mk {K : PySem.W.Frag} {nm f : Str} {st : Stmt} {fa c : Addr} {oc : Value} {od : Option Addr} {kV doc pm : Value} {an : Option Addr} {ct : Value} {osl : Array (Option Value)}
    (l : K.lookup fa = some ⟨oc, od, .func (PySem.W.fnOf nm f (defArgs st) (defBody st) (defScope st) .none kV doc pm an (.ref c) ct), osl⟩) (cc : PySem.W.codeIn K (.ref c) f = true) (k : PySem.W.keepIn K (.ref fa) = true) : OrdD K nm f st fa c :=
  ⟨oc, od, kV, doc, pm, an, ct, osl, l, cc, k⟩
theorem ord_is {nm f : Str} {st : Stmt} {fa c P : Addr} {fd : Fd} {pr : Prog} {gls bls : List Str} {mg0 : Str → Option Value} {p1 p2 p3 p4 p5 p6 p7 p8 q q1 q2 q3 q4 q5 q6 q7 q8 q9 qr : Pos} (I : OrdD K nm f st fa c) (ho : fd.ord = true) (hps : fd.ps = [("span" : Str)])
    (hbd : defBody st = [.Return (some (ordCall p1 p2 p3 p4 p5 p6 p7 p8 q q1 q2 q3 q4 q5 q6 q7 q8 q9)) qr]) (hc : (c, P) ∈ TC.cs) (h1 : (P, f ++ ".<locals>." ++ "<lambda>") ∈ TC.T) (h2 : ∀ p ∈ TC.T, p.1 = P → p.2 = f ++ ".<locals>." ++ "<lambda>")
    (hS : FnScope ["span"] ["span"] (defScope st)) (n0 : (defScope st).names.lookup ("span" : Str) = some .cell) (n1 : (defScope st).names.lookup ("sorted" : Str) = some .globalImplicit) (n2 : (defScope st).names.lookup ("range" : Str) = some .globalImplicit) (n3 : (defScope st).names.lookup ("len" : Str) = some .globalImplicit)
    (m1 : mg0 "sorted" = none) (m2 : mg0 "range" = none) (m3 : mg0 "len" = none)
    (hb : ∀ (kV doc pm : Value) (an : Option Addr) (cdv ct : Value) (us : List Value), us.length = fd.ps.length → bindArgs (PySem.W.fnOf nm f (defArgs st) (defBody st) (defScope st) .none kV doc pm an cdv ct) ⟨us, []⟩ = pure (fd.ps.zip us)) :
    ∃ fdt, (∀ us : List Value, us.length = fd.ps.length → bindArgs fdt ⟨us, []⟩ = pure (fd.ps.zip us)) ∧ PySem.W.keepIn K (.ref fa) = true ∧
    ((fd.ord = false ∧ ∃ st ow n nm, Fun K nm f st fa fdt ∧ FnScope fd.N fd.ps (defScope st) ∧ toBody (tbOf pr gls bls fd) (defScope st) ow n (defBody st) = some fd.body) ∨ (fd.ord = true ∧ fd.ps = [("span" : Str)] ∧ OrdIs K mg0 f fa fdt)) := by
  obtain ⟨oc, od, kV, doc, pm, an, ct, osl, l, cc, k⟩ := I
  exact ⟨_, hb kV doc pm an (.ref c) ct, k, .inr ⟨ho, hps, nm, oc, od, kV, doc, pm, an, c, P, ct, osl, defArgs st, defScope st, p1, p2, p3, p4, p5, p6, p7, p8, q, q1, q2, q3, q4, q5, q6, q7, q8, q9, qr, by rw [hbd], l, cc, hc, h1, h2, hS, n0, n1, n2, n3, m1, m2, m3⟩⟩
/-- a class stands at c -/
def ClsIs (K : PySem.W.Frag) (C : Str) (c : Addr) : Prop := PySem.W.nsIn K mainGlobals C = some (some (.ref c)) ∧ Cls K c
theorem clsIs_mk {K : PySem.W.Frag} {C : Str} {c : Addr} (a : PySem.W.nsIn K mainGlobals C = some (some (.ref c))) (pg : PySem.W.plainGet K c Str.empty = true) (hd : PySem.W.hasDictIn K c = true) (po : PySem.W.plainOver K c = true) (sa : PySem.W.findIn K (.ref c) "__setattr__" = some (some (.builtin "object.__setattr__"))) : ClsIs K C c := ⟨a, pg, hd, po, sa⟩
/-- what isinstance asks besides -/
def InsB (K : PySem.W.Frag) (c : Addr) : Prop := PySem.W.findIn K (.ref c) "__class__" = some (some (.builtin "object.__class__")) ∧ PySem.W.mroIn K c (.type "object") = some true
def InsG (K : PySem.W.Frag) : Prop := PySem.W.specialIn K (.builtin "object.__class__") "__get__" = some (some (.builtin "getset_descriptor.__get__")) ∧ PySem.W.takesIn K (.builtin "object.__class__") = some true
theorem oexC_mk {K : PySem.W.Frag} {C : Addr} {nm q : Str} {N : Addr} {bs bm : List Value} {sn : List Str} {sub : List Value} {ab : Bool} {col : Option Bool} {dd : Option Addr} {k0 k1 k2 k3 k5 : Option Value}
    (l : K.lookup C = some (excClassObj nm q C N bs bm true sn sub ab col dd k0 k1 k2 k3 k5 "ValueError.__new__")) (r : PySem.HandSPX.refsVE bm = true) (sa : PySem.W.findIn K (.ref C) "__setattr__" = some (some (.builtin "object.__setattr__"))) (x : PySem.W.subIn K (.ref C) (.type "BaseException") = some true) (t : PySem.W.typeIn K (.ref C) = some (.type "type")) (k : PySem.W.keepIn K (.ref C) = true) : OexC K C :=
  ⟨⟨nm, q, N, bs, bm, sn, sub, ab, col, dd, k0, k1, k2, k3, k5, l, r⟩, sa, x, t, k⟩
/-- an exception class made by one value -/
theorem xi_is {C fI B : Addr} {f b qual nm self x m : Str} {st : Stmt} {j : Nat} {p1 p2 p3 p4 p5 p6 p7 p8 p9 p10 : Pos} (I : FnIs K nm qual st fI) (oc : OexC K C) (iC : PySem.W.findIn K (.ref C) "__init__" = some (some (.ref fI))) (tI : PySem.W.typeIn K (.ref fI) = some (.type "function")) (no : PySem.W.findIn K (.ref C) f = some none)
    (sc : FnScope [self, x] [self, x] (defScope st)) (ck : defBody st = xiBody b self x m f j p1 p2 p3 p4 p5 p6 p7 p8 p9 p10) (hm : mg b = some (.ref B)) (hg : glB (defScope st) b = true) (h1 : sane b = true) (h2 : sane self = true) (h3 : sane x = true) (rd : ClX.CRead K B (.type "type")) (vV : PySem.W.findCls K (.ref B) (.type "type") "__init__" = some (.val (.builtin "ValueError.__init__")))
    (v1 : visB (defScope st) self = true) (v2 : visB (defScope st) x = true) (hl : (p2.endLine == p5.line) = true)
    (hb : ∀ (kV doc pm : Value) (an : Option Addr) (cdv ct : Value) (us : List Value), us.length = 2 → bindArgs (PySem.W.fnOf nm qual (defArgs st) (defBody st) (defScope st) .none kV doc pm an cdv ct) ⟨us, []⟩ = pure ([self, x].zip us)) : ∃ fI fdt, XiOk K mg C fI f fdt := by
  obtain ⟨oc', od, kV, doc, pm, an, cdv, ct, osl, l2, l3, l4⟩ := I
  have F := fun_mk (x := nm) (qual := qual) (st := st) l2 l3 l4
  exact ⟨fI, _, oc, iC, tI, no, B, b, qual, nm, self, x, m, st, j, p1, p2, p3, p4, p5, p6, p7, p8, p9, p10, F, sc, ck, hm, hg, h1, h2, h3, rd, vV, hb kV doc pm an cdv ct, v1, v2, hl⟩
/-- an exception class made by two values -/
theorem xi2_is {C fI B : Addr} {f g b qual nm self x y m : Str} {st : Stmt} {j : Nat} {p1 p2 p3 p4 p5 p6 p7 p8 p9 p10 q7 q8 q9 q10 : Pos} (I : FnIs K nm qual st fI) (oc : OexC K C) (iC : PySem.W.findIn K (.ref C) "__init__" = some (some (.ref fI))) (tI : PySem.W.typeIn K (.ref fI) = some (.type "function")) (no : PySem.W.findIn K (.ref C) f = some none) (no2 : PySem.W.findIn K (.ref C) g = some none)
    (sc : FnScope [self, x, y] [self, x, y] (defScope st)) (ck : defBody st = xi2Body b self x y m f g j p1 p2 p3 p4 p5 p6 p7 p8 p9 p10 q7 q8 q9 q10) (hm : mg b = some (.ref B)) (hg : glB (defScope st) b = true) (h1 : sane b = true) (h2 : sane self = true) (h3 : sane x = true) (h4 : sane y = true) (rd : ClX.CRead K B (.type "type")) (vV : PySem.W.findCls K (.ref B) (.type "type") "__init__" = some (.val (.builtin "ValueError.__init__")))
    (v1 : visB (defScope st) self = true) (v2 : visB (defScope st) x = true) (v3 : visB (defScope st) y = true) (hl : (p2.endLine == p5.line) = true)
    (hb : ∀ (kV doc pm : Value) (an : Option Addr) (cdv ct : Value) (us : List Value), us.length = 3 → bindArgs (PySem.W.fnOf nm qual (defArgs st) (defBody st) (defScope st) .none kV doc pm an cdv ct) ⟨us, []⟩ = pure ([self, x, y].zip us)) : ∃ fI fdt, XiOk2 K mg C fI f g fdt := by
  obtain ⟨oc', od, kV, doc, pm, an, cdv, ct, osl, l2, l3, l4⟩ := I
  have F := fun_mk (x := nm) (qual := qual) (st := st) l2 l3 l4
  exact ⟨fI, _, oc, iC, tI, no, no2, B, b, qual, nm, self, x, y, m, st, j, p1, p2, p3, p4, p5, p6, p7, p8, p9, p10, q7, q8, q9, q10, F, sc, ck, hm, hg, h1, h2, h3, h4, rd, vV, hb kV doc pm an cdv ct, v1, v2, v3, hl⟩
/-- a def that asks of which class an exception is -/
theorem xk_is {g nm x k : Str} {Cs : List Str} {ad : Str → Addr} {fa : Addr} {st : Stmt} (I : FnIs K nm g st fa) (hm : mg g = some (.ref fa)) (sc : FnScope [x, k] [x] (defScope st)) (ck : kdBody (defScope st) x k (defBody st) = some Cs) (hl : Cs.length ≤ 100)
    (g1 : glB (defScope st) "isinstance" = true) (g2 : glB (defScope st) "ValueError" = true) (m1 : mg "isinstance" = none) (m2 : mg "ValueError" = none) (hc : ∀ C ∈ Cs, mg C = some (.ref (ad C))) (hn : (Cs.all fun C => !(C == ("ValueError" : Str))) = true) (s1 : sane x = true) (s2 : sane k = true) (v1 : visB (defScope st) x = true) (lk : (defScope st).names.lookup k = some .local)
    (hb : ∀ (kV doc pm : Value) (an : Option Addr) (cdv ct : Value) (us : List Value), us.length = 1 → bindArgs (PySem.W.fnOf nm g (defArgs st) (defBody st) (defScope st) .none kV doc pm an cdv ct) ⟨us, []⟩ = pure ([x].zip us)) : XkOk K mg ad g Cs := by
  obtain ⟨oc', od, kV, doc, pm, an, cdv, ct, osl, l2, l3, l4⟩ := I
  have F := fun_mk (x := nm) (qual := g) (st := st) l2 l3 l4
  refine ⟨fa, _, nm, x, k, st, F, sc, ck, hl, hm, l4, g1, g2, m1, m2, fun C hC => ⟨hc C hC, fun z => ?_⟩, s1, s2, v1, lk, hb kV doc pm an cdv ct⟩
  have := List.all_eq_true.mp hn C hC
  rw [z] at this
  cases this
/-- a def that asks for a number -/
theorem isd_is {g nm a b : Str} {fa : Addr} {st : Stmt} {p1 p2 p3 p4 p5 p6 p7 p8 p9 p10 p11 p12 p13 p14 : Pos} (I : FnIs K nm g st fa) (hm : mg g = some (.ref fa)) (sc : FnScope [a, b] [a, b] (defScope st)) (ck : defBody st = isdBody a b p1 p2 p3 p4 p5 p6 p7 p8 p9 p10 p11 p12 p13 p14)
    (g1 : glB (defScope st) "isinstance" = true) (g2 : glB (defScope st) "int" = true) (g3 : glB (defScope st) "bool" = true) (m1 : mg "isinstance" = none) (m2 : mg "int" = none) (m3 : mg "bool" = none) (s1 : sane a = true) (s2 : sane b = true) (v1 : visB (defScope st) a = true) (v2 : visB (defScope st) b = true)
    (hb : ∀ (kV doc pm : Value) (an : Option Addr) (cdv ct : Value) (us : List Value), us.length = 2 → bindArgs (PySem.W.fnOf nm g (defArgs st) (defBody st) (defScope st) .none kV doc pm an cdv ct) ⟨us, []⟩ = pure ([a, b].zip us)) : ∃ fa fdt, IsdOk K mg g fa fdt := by
  obtain ⟨oc', od, kV, doc, pm, an, cdv, ct, osl, l2, l3, l4⟩ := I
  have F := fun_mk (x := nm) (qual := g) (st := st) l2 l3 l4
  exact ⟨fa, _, hm, l4, nm, a, b, st, p1, p2, p3, p4, p5, p6, p7, p8, p9, p10, p11, p12, p13, p14, F, sc, ck, g1, g2, g3, m1, m2, m3, s1, s2, v1, v2, hb kV doc pm an cdv ct⟩
/-- the body of a class -/
def cbody : Stmt → List Stmt
  | .ClassDef _ _ _ b _ _ _ _ _ _ _ => b
  | _ => []
/-- where a def, a class stands -/
def adOf (l : List (Str × Addr)) (f : Str) : Addr := (l.lookup f).getD 0
/-- a module's constant -/
def GlIs (K : PySem.W.Frag) (x : Str) (t : T) : Prop := ∃ u : Value, PySem.W.nsIn K mainGlobals x = some (some u) ∧ RelV (toV t) u
theorem glIs_mk {K : PySem.W.Frag} {x : Str} {t : T} {u : Value} (g : PySem.W.nsIn K mainGlobals x = some (some u)) (y : RelV (toV t) u) : GlIs K x t := ⟨u, g, y⟩
theorem gl_is (X : K.In h) (G : h.Ns mainGlobals mg) {gl : Str → Option T} {x : Str} {t t' : T} (I : GlIs K x t) (e : gl x = some t) (hf : flatT t = true) (h' : gl x = some t') : flatT t' = true ∧ ∃ u, mg x = some u ∧ RelV (toV t') u := by
  rw [e] at h'; cases h'
  obtain ⟨u, h1, h2⟩ := I
  exact ⟨hf, u, PySem.W.mg_of X G h1, h2⟩
end
/-- the end: from what the small language tells of the law -/
theorem law_walk [TC] {l : PySem.W.OpenLaw} {q : Program} {loose : List Str} {XP : (Str → Option Value) → Heap → Prop} {YP : World → Heap → Prop} {d' : DefRec} {K : Params → PySem.W.Frag} {pr : Prog} {gls bls : List Str} {gl : Str → Option T} {d : Nat} {f x : Str} {fdl : Fd}
    (hn : l.most = some 63) (hdf : d'.params.defaults = []) (hf : pr.fs.lookup f = some fdl) (hpl : pr.pl.lookup f = some 1) (hps : (d'.name, fdl.ps) = (f, [x])) (hr : Room (2 * d + 1) callerA) (hY : ∀ (w : World) (h : Heap), YP w h → (K w.params).In h)
    (hTc : ∀ p ∈ TC.T, ∃ c, (c, p.1) ∈ TC.cs) (hTab : ∀ (w : World) (h : Heap), YP w h → (K w.params).In h → ∀ p ∈ TC.cs, h.get? p.2 = some { cls := .none, data := .fields #[] } ∧ (K w.params).lookup p.2 = none ∧ PySem.W.CodeHd h p.1 p.2)
    (law : ∀ ns : List Int, ns.length ≤ 63 → (∀ z ∈ ns, Builtin.Int.intBits z ≤ 1048576) → callN pr gl d f [.val (.nod .lst (ns.map .int))] = .ok (.val (.bl true)) [])
    (F : ∀ (w : World) (mg : Str → Option Value) (fa : Addr) (h : Heap), (K w.params).In h → h.Ns mainGlobals mg → mg d'.name = some (.ref fa) → ∃ ad fad, Stat (K w.params) mg pr gls bls gl ad fad) :
    PySem.W.WalkO q loose XP YP l.row.toRowW d' [] (fun f vs => PySem.call f vs) := by
  obtain ⟨e1, e2⟩ := Prod.mk.inj hps
  refine LamX.walk_ofTs (n := 63) (k := 2 * d + 1) (x := x) (CX := fun w => L2N.CX l.prog w) (K := K) hn (by decide) hdf hr hY (fun w mg fa h Y KX G hmg => ?_) fun _ _ _ _ _ z => by
    obtain ⟨_, _, _, _, _, _, _, _, _, _, _, _, z⟩ := z
    exact z
  obtain ⟨ad, fad, S⟩ := F w mg fa h KX G hmg
  obtain ⟨fdt, a2, a3, a4⟩ := S.fn f fdl hf
  obtain ⟨a1, _⟩ := S.pl f 1 hpl
  rw [e1] at hmg
  rw [hmg] at a1
  have a1 : fa = fad f := by cases a1; rfl
  refine ⟨fdt, TC.cs, spOf ⟨K w.params, ad⟩ (fnsOf pr.ct (callN pr gl d)) f 1, fun p hp => (hTab w h Y KX p hp).1, fun p hp => (hTab w h Y KX p hp).2.1, fun p hp => (hTab w h Y KX p hp).2.2, fun s u => ?_, fun H a ns hl hb hH hS => ?_, fun base _ _ TB => ?_⟩
  · have := a2 [u] (by rw [e2]; rfl)
    rw [e2] at this
    exact .of_eq this
  · have tb : Tbs H := fun p hp => by
      obtain ⟨c, hc⟩ := hTc p hp
      exact LamX.TabS.nil (hH _ hc)
    refine ⟨rfl, tb, H, [.val (.nod .lst (ns.map .int))], [], Ex.refl _, ?_, List.nodup_nil, (fun _ z => nomatch z), ?_⟩
    · have hints : ∀ (ms : List Int), RTs ⟨K w.params, ad⟩ H (ms.map .int) (ms.map V.int) := by
        intro ms
        induction ms with
        | nil => rfl
        | cons m ms ih => exact ⟨.int m, ms.map V.int, rfl, rfl, ih⟩
      exact ⟨.ref a, [], [], [], rfl, ⟨⟨a, ns.map V.int, rfl, hS, hints ns⟩, rfl⟩, ⟨rfl, rfl⟩, rfl⟩
    · show match callN pr gl d f [.val (.nod .lst (ns.map .int))] with | .ok r gs' => _ | .exc x _ => _ | .stk => False
      rw [law ns hl hb]
      exact ⟨rfl, fun v HP1 H1 O O' r _ _ _ _ => r.1⟩
  · have := fn_all (P := l.prog) (w := w) (base := base) (cA := ⟨K w.params, ad⟩) S TB d f fdl hf fdt a2 a4
    rw [e2] at this
    rw [a1]
    exact this
end Bv
set_option maxRecDepth 100000
/-! Part 20: reckoning with the small language: each step as a rewriting that waits for its parts. -/
namespace Bv
open PySem L2
@[simp] theorem Res.bind_ok {α β : Type} (a : α) (f : α → Res β) : (Res.ok a).bind f = f a := rfl
@[simp] theorem Res.bind_exc {α β : Type} (x : Exn) (f : α → Res β) : (Res.exc x : Res α).bind f = .exc x := rfl
@[simp] theorem Res.bind_stk {α β : Type} (f : α → Res β) : (Res.stk : Res α).bind f = .stk := rfl
section
variable {Φ : Fns} {gl : Str → Option T} {env : Env} {P : List Nat} {mv : Bool}
/-! the waiting forms -/
def varR : Option (Option G) → Res G
  | some (some g) => .ok g.bor
  | _ => .stk
def glbR : Option T → Res G
  | some t => .ok (.val t)
  | none => .stk
def lcR (Φ : Fns) (gl : Str → Option T) (env : Env) (tg : Tg) (k : IK) (c : List E) (e : E) (r : Res (List G)) : Res G := r.bind fun gs => (itG k gs).bind fun ts => if ts.length ≤ sizeLine then
      (lcT (tgSet [] 0 tg) (fun env1 => evAnd Φ gl env1 c) (fun env1 => ev Φ gl env1 e) (wipeE (tgIs tg) env) ts).bind fun rs => .ok (.nod true .lst rs) else .stk
/-- a comprehension, once its items are there -/
def lcG (Φ : Fns) (gl : Str → Option T) (env : Env) (tg : Tg) (c : List E) (e : E) (r : Res (List T)) : Res G := r.bind fun ts => if ts.length ≤ sizeLine then
      (lcT (tgSet [] 0 tg) (fun env1 => evAnd Φ gl env1 c) (fun env1 => ev Φ gl env1 e) (wipeE (tgIs tg) env) ts).bind fun rs => .ok (.nod true .lst rs) else .stk
def negR : Res G → Res G := fun r => r.bind fun g => (asInt g).bind fun i => .ok (.val (.int (-i)))
def notR : Res G → Res G := fun r => r.bind fun g => (asBool g).bind fun b => .ok (.val (.bl (!b)))
def binR (o : BOp) (a b : Res G) : Res G := a.bind fun x => b.bind fun y => binG o x y
def bolR (r : Res Bool) : Res G := r.bind fun r => .ok (.val (.bl r))
def cmpR (o : COp) (a b : Res G) : Res G := a.bind fun x => b.bind fun y => bolR (cmpT o x.toT y.toT)
def idxR (a b : Res G) : Res G := a.bind fun g => b.bind fun k => (asInt k).bind fun i => idxG g i
def slcR (a : Res G) (lo hi : Res (Option Int)) : Res G := a.bind fun g => lo.bind fun l => hi.bind fun h => slcG g l h
def optR (a : Res G) : Res (Option Int) := a.bind fun g => (asInt g).bind fun i => .ok (some i)
def tupR (r : Res (List G)) : Res G := r.bind fun gs => match G.vals? gs with | some ts => if ts.length ≤ sizeLine then .ok (.val (.nod .tup ts)) else .stk | none => if gs.length ≤ sizeLine then .ok (.nod true .tup gs) else .stk
def lstR' (r : Res (List G)) : Res G := r.bind fun gs => if gs.length ≤ sizeLine then .ok (.nod true .lst gs) else .stk
def consR (a : Res G) (b : Res (List G)) : Res (List G) := a.bind fun g => b.bind fun gs => .ok (g :: gs)
def fldR (Φ : Fns) (f : Str) (r : Res G) : Res G := r.bind fun g => fldG Φ g f
def methR (Φ : Fns) (m : Str) (a : Res G) (r : Res (List G)) : Res G := a.bind fun g => r.bind fun gs => methG Φ m g gs
def mkR (Φ : Fns) (C : Str) (r : Res (List G)) : Res G := r.bind fun gs => mkG Φ C gs
def callR (Φ : Fns) (f : Str) (r : Res (List G)) : Res G := r.bind fun gs => backR (Φ.call f (G.args gs))
def bifR (b : Bf) (r : Res (List G)) : Res G := r.bind fun gs => bifG b gs
def isiR (Φ : Fns) (r : Res G) (c : Ty) : Res G := r.bind fun g => bolR (isiX Φ g.toT c)
def andR (Φ : Fns) (gl : Str → Option T) (env : Env) (es : List E) (r : Res G) : Res Bool := r.bind fun g => (asBool g).bind fun b => if b then evAnd Φ gl env es else .ok false
def orR (Φ : Fns) (gl : Str → Option T) (env : Env) (es : List E) (r : Res G) : Res Bool := r.bind fun g => (asBool g).bind fun b => if b then .ok true else evOr Φ gl env es
def keepR (env : Env) (r : Res G) : Res (G × Env) := r.bind fun g => if g.free then .ok (g, env) else .stk
def svarR (P : List Nat) (mv : Bool) (env : Env) (i : Nat) : Option (Option G) → Res (G × Env)
  | some (some (.val t)) => .ok (.val t, env)
  | some (some (.nod o k gs)) => if (G.nod o k gs).free && !P.contains i then (if mv then .ok (.nod o k gs, env.set i none) else .ok (G.frz (.nod o k gs), env.set i (some (G.frz (.nod o k gs))))) else .stk
  | _ => .stk
def stupR (r : Res (List G × Env)) : Res (G × Env) := r.bind fun p => if p.1.length ≤ sizeLine then (match G.vals? p.1 with | some ts => .ok (.val (.nod .tup ts), p.2) | none => .ok (.nod true .tup p.1, p.2)) else .stk
def slstR (r : Res (List G × Env)) : Res (G × Env) := r.bind fun p => if p.1.length ≤ sizeLine then .ok (.nod true .lst p.1, p.2) else .stk
def sconsR (Φ : Fns) (gl : Str → Option T) (P : List Nat) (mv : Bool) (es : List E) (r : Res (G × Env)) : Res (List G × Env) := r.bind fun p => (evSs Φ gl P mv p.2 es).bind fun q => .ok (p.1 :: q.1, q.2)
def seqO (Φ : Fns) (gl : Str → Option T) (P : List Nat) (ss : List S) : Out → Out
  | .nx env1 => execs Φ gl P ss env1
  | o => o
def asgO (P : List Nat) (i : Nat) (o : Ow) (env : Env) : Res (G × Env) → Out
  | .ok (g, env1) => if i ∉ P ∧ i < env1.length then .nx (env1.set i (some (owG o g))) else .stk
  | .exc _ => .stk
  | .stk => .stk
def iteO (Φ : Fns) (gl : Str → Option T) (P : List Nat) (a b : List S) (env : Env) : Res Bool → Out
  | .ok true => execs Φ gl P a env
  | .ok false => execs Φ gl P b env
  | .exc _ => .stk
  | .stk => .stk
def forO (Φ : Fns) (gl : Str → Option T) (P : List Nat) (tg : Tg) (body : List S) (env : Env) : Res (List T × Option (Nat × G)) → Out
  | .ok (ts, h) => (loopT (tgSet (pinOf h P) 0 tg) (execs Φ gl (pinOf h P) body) ts (hide h env)).unhide h
  | .exc _ => .stk
  | .stk => .stk
def retO (env : Env) : Res (G × Env) → Out
  | .ok (g, env1) => .ret g env1
  | .exc _ => .stk
  | .stk => .stk
def unpO (P : List Nat) (is : List Nat) (env : Env) : Res G → Out
  | .ok g => if g.free then unpT P is env g.toT else .stk
  | .exc _ => .stk
  | .stk => .stk
/-- a place found -/
def plR (P : List Nat) (Φ : Fns) (gl : Str → Option T) (mv : Bool) (e : E) (env : Env) : Res (Nat × List Nat) → Out
  | .ok p => (match evS Φ gl (p.1 :: P) mv env e with
    | .ok (g, env1) => chgO p.1 p.2 env1 (appF (mvG mv g))
    | .exc _ => .stk
    | .stk => .stk)
  | .exc _ => .stk
  | .stk => .stk
def appO (mv : Bool) (i : Nat) (js : List Nat) (env : Env) : Res (G × Env) → Out
  | .ok (g, env1) => chgO i js env1 (appF (mvG mv g))
  | .exc _ => .stk
  | .stk => .stk
def setO (Φ : Fns) (gl : Str → Option T) (mv : Bool) (pl : Pl) (k : E) (env : Env) : Res (G × Env) → Out
  | .ok (g, env1) => (match evPl Φ gl env1 pl with
    | .ok (i, js) => (match (ev Φ gl env1 k).bind asInt with
      | .ok n => chgO i js env1 (setF n (mvG mv g))
      | .exc _ => .stk
      | .stk => .stk)
    | .exc _ => .stk
    | .stk => .stk)
  | .exc _ => .stk
  | .stk => .stk
def putO (mv : Bool) (env1 : Env) (g : G) : Res (Nat × List Nat) → Res Int → Out
  | .ok p, .ok n => chgO p.1 p.2 env1 (setF n (mvG mv g))
  | .ok _, .exc _ => .stk
  | .ok _, .stk => .stk
  | .exc _, _ => .stk
  | .stk, _ => .stk
def ixPl (Φ : Fns) (gl : Str → Option T) (env : Env) (k : E) : Res (Nat × List Nat) → Res (Nat × List Nat) := fun r => r.bind fun q => match env[q.1]? with
    | some (some g0) => match g0.at q.2 with
      | some (.nod true .lst gs) => plIx q gs (ev Φ gl env k)
      | some (.nod true .tup gs) => plIx q gs (ev Φ gl env k)
      | _ => .stk
    | _ => .stk
def lmO (m : LM) (env : Env) : Res (Nat × List Nat) → Out
  | .ok p => chgO p.1 p.2 env (lmF m)
  | .exc _ => .stk
  | .stk => .stk
def setfO (Φ : Fns) (i : Nat) (f : Str) (env : Env) : Res (G × Env) → Out
  | .ok (g, env1) => chgA i [] env1 (fldF Φ f g)
  | .exc _ => .stk
  | .stk => .stk
def backC (is : List Nat) : Out → CRes
  | .ret g env => endR g (lentOut env is)
  | .nx env => endR (.val .non) (lentOut env is)
  | .exc x _ => .exc x []
  | _ => .stk
/-! the rewritings -/
@[simp] theorem ev_var (i : Nat) : ev Φ gl env (.var i) = varR env[i]? := by
  conv => lhs; unfold ev
  all_goals rfl
@[simp] theorem ev_con (t : T) : ev Φ gl env (.con t) = if flatT t then .ok (.val t) else .stk := by
  conv => lhs; unfold ev
  all_goals rfl
@[simp] theorem ev_glb (x : Str) : ev Φ gl env (.glb x) = glbR (gl x) := by
  conv => lhs; unfold ev
  all_goals rfl
@[simp] theorem ev_neg (a : E) : ev Φ gl env (.neg a) = negR (ev Φ gl env a) := by
  conv => lhs; unfold ev
  all_goals rfl
@[simp] theorem ev_not (a : E) : ev Φ gl env (.not a) = notR (ev Φ gl env a) := by
  conv => lhs; unfold ev
  all_goals rfl
@[simp] theorem ev_bin (o : BOp) (a b : E) : ev Φ gl env (.bin o a b) = binR o (ev Φ gl env a) (ev Φ gl env b) := by
  conv => lhs; unfold ev
  all_goals rfl
@[simp] theorem ev_cmp (o : COp) (a b : E) : ev Φ gl env (.cmp o a b) = cmpR o (ev Φ gl env a) (ev Φ gl env b) := by
  conv => lhs; unfold ev
  all_goals rfl
@[simp] theorem ev_and (es : List E) : ev Φ gl env (.and es) = bolR (evAnd Φ gl env es) := by
  conv => lhs; unfold ev
  all_goals rfl
@[simp] theorem ev_or (es : List E) : ev Φ gl env (.or es) = bolR (evOr Φ gl env es) := by
  conv => lhs; unfold ev
  all_goals rfl
@[simp] theorem ev_idx (a b : E) : ev Φ gl env (.idx a b) = idxR (ev Φ gl env a) (ev Φ gl env b) := by
  conv => lhs; unfold ev
  all_goals rfl
@[simp] theorem ev_slc (a : E) (lo hi : Option E) : ev Φ gl env (.slc a lo hi) = slcR (ev Φ gl env a) (evOpt Φ gl env lo) (evOpt Φ gl env hi) := by
  conv => lhs; unfold ev
  all_goals rfl
@[simp] theorem ev_tup (es : List E) : ev Φ gl env (.tup es) = tupR (evs Φ gl env es) := by
  conv => lhs; unfold ev
  all_goals rfl
@[simp] theorem ev_lst (es : List E) : ev Φ gl env (.lst es) = lstR' (evs Φ gl env es) := by
  conv => lhs; unfold ev
  all_goals rfl
@[simp] theorem ev_call (f : Str) (es : List E) : ev Φ gl env (.call f es) = callR Φ f (evs Φ gl env es) := by
  conv => lhs; unfold ev
  all_goals rfl
@[simp] theorem ev_bif (b : Bf) (es : List E) : ev Φ gl env (.bif b es) = bifR b (evs Φ gl env es) := by
  conv => lhs; unfold ev
  all_goals rfl
@[simp] theorem ev_isi (a : E) (c : Ty) : ev Φ gl env (.isi a c) = isiR Φ (ev Φ gl env a) c := by
  conv => lhs; unfold ev
  all_goals rfl
@[simp] theorem ev_lc (tg : Tg) (k : IK) (as c : List E) (e : E) : ev Φ gl env (.lc tg k as c e) = lcR Φ gl env tg k c e (evs Φ gl env as) := by
  conv => lhs; unfold ev
  all_goals rfl
@[simp] theorem ev_dct : ev Φ gl env .dct = .ok (.nod true (.dct []) []) := by
  conv => lhs; unfold ev
@[simp] theorem ev_fld (a : E) (f : Str) : ev Φ gl env (.fld a f) = fldR Φ f (ev Φ gl env a) := by
  conv => lhs; unfold ev
  all_goals rfl
@[simp] theorem ev_meth (a : E) (m : Str) (es : List E) : ev Φ gl env (.meth a m es) = methR Φ m (ev Φ gl env a) (evs Φ gl env es) := by
  conv => lhs; unfold ev
  all_goals rfl
@[simp] theorem ev_mk (C : Str) (es : List E) : ev Φ gl env (.mk C es) = mkR Φ C (evs Φ gl env es) := by
  conv => lhs; unfold ev
  all_goals rfl
@[simp] theorem evs_nil  : evs Φ gl env [] = .ok [] := by
  conv => lhs; unfold evs
  all_goals rfl
@[simp] theorem evs_cons (e : E) (es : List E) : evs Φ gl env (e :: es) = consR (ev Φ gl env e) (evs Φ gl env es) := by
  conv => lhs; unfold evs
  all_goals rfl
@[simp] theorem evOpt_none  : evOpt Φ gl env none = .ok none := by
  conv => lhs; unfold evOpt
  all_goals rfl
@[simp] theorem evOpt_some (e : E) : evOpt Φ gl env (some e) = optR (ev Φ gl env e) := by
  conv => lhs; unfold evOpt
  all_goals rfl
@[simp] theorem evAnd_nil  : evAnd Φ gl env [] = .ok true := by
  conv => lhs; unfold evAnd
  all_goals rfl
@[simp] theorem evAnd_cons (e : E) (es : List E) : evAnd Φ gl env (e :: es) = andR Φ gl env es (ev Φ gl env e) := by
  conv => lhs; unfold evAnd
  all_goals rfl
@[simp] theorem evOr_nil  : evOr Φ gl env [] = .ok false := by
  conv => lhs; unfold evOr
  all_goals rfl
@[simp] theorem evOr_cons (e : E) (es : List E) : evOr Φ gl env (e :: es) = orR Φ gl env es (ev Φ gl env e) := by
  conv => lhs; unfold evOr
  all_goals rfl
@[simp] theorem evS_var (i : Nat) : evS Φ gl P mv env (.var i) = svarR P mv env i env[i]? := by
  conv => lhs; unfold evS
  all_goals rfl
@[simp] theorem evS_tup (es : List E) : evS Φ gl P mv env (.tup es) = stupR (evSs Φ gl P mv env es) := by
  conv => lhs; unfold evS
  all_goals rfl
@[simp] theorem evS_lst (es : List E) : evS Φ gl P mv env (.lst es) = slstR (evSs Φ gl P mv env es) := by
  conv => lhs; unfold evS
  all_goals rfl
@[simp] theorem evSs_nil  : evSs Φ gl P mv env [] = .ok ([], env) := by
  conv => lhs; unfold evSs
  all_goals rfl
@[simp] theorem evSs_cons (e : E) (es : List E) : evSs Φ gl P mv env (e :: es) = sconsR Φ gl P mv es (evS Φ gl P mv env e) := by
  conv => lhs; unfold evSs
  all_goals rfl
@[simp] theorem evS_con (t : T) : evS Φ gl P mv env (.con t) = keepR env (ev Φ gl env (.con t)) := evS_plain rfl env
@[simp] theorem evS_glb (x : Str) : evS Φ gl P mv env (.glb x) = keepR env (ev Φ gl env (.glb x)) := evS_plain rfl env
@[simp] theorem evS_neg (a : E) : evS Φ gl P mv env (.neg a) = keepR env (ev Φ gl env (.neg a)) := evS_plain rfl env
@[simp] theorem evS_not (a : E) : evS Φ gl P mv env (.not a) = keepR env (ev Φ gl env (.not a)) := evS_plain rfl env
@[simp] theorem evS_bin (o : BOp) (a b : E) : evS Φ gl P mv env (.bin o a b) = keepR env (ev Φ gl env (.bin o a b)) := evS_plain rfl env
@[simp] theorem evS_cmp (o : COp) (a b : E) : evS Φ gl P mv env (.cmp o a b) = keepR env (ev Φ gl env (.cmp o a b)) := evS_plain rfl env
@[simp] theorem evS_and (a : List E) : evS Φ gl P mv env (.and a) = keepR env (ev Φ gl env (.and a)) := evS_plain rfl env
@[simp] theorem evS_or (a : List E) : evS Φ gl P mv env (.or a) = keepR env (ev Φ gl env (.or a)) := evS_plain rfl env
@[simp] theorem evS_idx (a b : E) : evS Φ gl P mv env (.idx a b) = keepR env (ev Φ gl env (.idx a b)) := evS_plain rfl env
@[simp] theorem evS_slc (a : E) (l h : Option E) : evS Φ gl P mv env (.slc a l h) = keepR env (ev Φ gl env (.slc a l h)) := evS_plain rfl env
@[simp] theorem evS_call (f : Str) (a : List E) : evS Φ gl P mv env (.call f a) = keepR env (ev Φ gl env (.call f a)) := evS_plain rfl env
@[simp] theorem evS_bif (f : Bf) (a : List E) : evS Φ gl P mv env (.bif f a) = keepR env (ev Φ gl env (.bif f a)) := evS_plain rfl env
@[simp] theorem evS_lc (tg : Tg) (k : IK) (as c : List E) (e : E) : evS Φ gl P mv env (.lc tg k as c e) = keepR env (ev Φ gl env (.lc tg k as c e)) := evS_plain rfl env
@[simp] theorem evS_isi (a : E) (c : Ty) : evS Φ gl P mv env (.isi a c) = keepR env (ev Φ gl env (.isi a c)) := evS_plain rfl env
@[simp] theorem evS_dct : evS Φ gl P mv env .dct = keepR env (ev Φ gl env .dct) := evS_plain rfl env
@[simp] theorem evS_fld (a : E) (f : Str) : evS Φ gl P mv env (.fld a f) = keepR env (ev Φ gl env (.fld a f)) := evS_plain rfl env
@[simp] theorem evS_meth (a : E) (m : Str) (es : List E) : evS Φ gl P mv env (.meth a m es) = keepR env (ev Φ gl env (.meth a m es)) := evS_plain rfl env
@[simp] theorem evS_mk (C : Str) (es : List E) : evS Φ gl P mv env (.mk C es) = keepR env (ev Φ gl env (.mk C es)) := evS_plain rfl env
@[simp] theorem ex_nil  : execs Φ gl P [] env = .nx env := by
  conv => lhs; unfold execs
  all_goals rfl
@[simp] theorem ex_cons (s : S) (ss : List S) : execs Φ gl P (s :: ss) env = seqO Φ gl P ss (exec Φ gl P s env) := by
  conv => lhs; unfold execs
  all_goals rfl
@[simp] theorem ex_asg (i : Nat) (o : Ow) (e : E) : exec Φ gl P (.asg i o e) env = asgO P i o env (evS Φ gl P false env e) := by
  conv => lhs; unfold exec
  all_goals rfl
@[simp] theorem ex_unp (is : List Nat) (e : E) : exec Φ gl P (.unp is e) env = unpO P is env (ev Φ gl env e) := by
  conv => lhs; unfold exec
  all_goals rfl
@[simp] theorem ex_app (pl : Pl) (mv : Bool) (e : E) : exec Φ gl P (.app pl mv e) env = plR P Φ gl mv e env (evPl Φ gl env pl) := by
  conv => lhs; unfold exec
  cases evPl Φ gl env pl <;> rfl
@[simp] theorem ex_seti (pl : Pl) (k : E) (mv : Bool) (e : E) : exec Φ gl P (.seti pl k mv e) env = setO Φ gl mv pl k env (evS Φ gl (plVar pl :: P) mv env e) := by
  conv => lhs; unfold exec
  cases evS Φ gl (plVar pl :: P) mv env e <;> rfl
@[simp] theorem ex_setf (i : Nat) (f : Str) (e : E) : exec Φ gl P (.setf i f e) env = setfO Φ i f env (evS Φ gl (i :: P) false env e) := by
  conv => lhs; unfold exec
  cases evS Φ gl (i :: P) false env e <;> rfl
@[simp] theorem ex_lm (pl : Pl) (m : LM) : exec Φ gl P (.lm pl m) env = lmO m env (evPl Φ gl env pl) := by
  conv => lhs; unfold exec
  cases evPl Φ gl env pl <;> rfl
@[simp] theorem ex_ite (c : E) (a b : List S) : exec Φ gl P (.ite c a b) env = iteO Φ gl P a b env (evB Φ gl env c) := by
  conv => lhs; unfold exec
  all_goals rfl
@[simp] theorem ex_for (tg : Tg) (it : It) (body : List S) : exec Φ gl P (.for_ tg it body) env = forO Φ gl P tg body env (evIt Φ gl env it) := by
  conv => lhs; unfold exec
  all_goals rfl
@[simp] theorem ex_ret (e : E) : exec Φ gl P (.ret e) env = retO env (evS Φ gl P true env e) := by
  conv => lhs; unfold exec
  all_goals rfl
@[simp] theorem ex_retN  : exec Φ gl P .retN env = .ret (.val .non) env := by
  conv => lhs; unfold exec
  all_goals rfl
@[simp] theorem ex_brk  : exec Φ gl P .brk env = .brk env := by
  conv => lhs; unfold exec
  all_goals rfl
@[simp] theorem ex_cnt  : exec Φ gl P .cnt env = .cnt env := by
  conv => lhs; unfold exec
  all_goals rfl
/-! the waiting forms, once their parts are there -/
variable (x y g : G) (gs : List G) (t : T) (ts : List T) (b : Bool) (o : BOp) (c : COp) (i : Int) (f : Str) (e : Exn) (l h : Option Int) (es : List E) (ss : List S) (env1 : Env)
@[simp] theorem varR_ok : varR (some (some g)) = .ok g.bor := rfl
@[simp] theorem glbR_ok : glbR (some t) = .ok (.val t) := rfl
@[simp] theorem negR_ok : negR (.ok (.val (.int i))) = .ok (.val (.int (-i))) := rfl
@[simp] theorem notR_ok : notR (.ok (.val (.bl b))) = .ok (.val (.bl (!b))) := rfl
@[simp] theorem binR_ok : binR o (.ok x) (.ok y) = binG o x y := rfl
@[simp] theorem bolR_ok : bolR (.ok b) = .ok (.val (.bl b)) := rfl
@[simp] theorem cmpR_ok : cmpR c (.ok x) (.ok y) = bolR (cmpT c x.toT y.toT) := rfl
@[simp] theorem idxR_ok : idxR (.ok x) (.ok (.val (.int i))) = idxG x i := rfl
@[simp] theorem slcR_ok : slcR (.ok x) (.ok l) (.ok h) = slcG x l h := rfl
@[simp] theorem lcR_ok (tg : Tg) (k : IK) (cc : List E) (ee : E) : lcR Φ gl env tg k cc ee (.ok gs) = lcG Φ gl env tg cc ee (itG k gs) := rfl
theorem lcG_ok (tg : Tg) (cc : List E) (ee : E) : lcG Φ gl env tg cc ee (.ok ts) = if ts.length ≤ sizeLine then
      (lcT (tgSet [] 0 tg) (fun env1 => evAnd Φ gl env1 cc) (fun env1 => ev Φ gl env1 ee) (wipeE (tgIs tg) env) ts).bind fun rs => .ok (.nod true .lst rs) else .stk := rfl
@[simp] theorem optR_ok : optR (.ok (.val (.int i))) = .ok (some i) := rfl
@[simp] theorem tupR_ok : tupR (.ok gs) = match G.vals? gs with | some ts => if ts.length ≤ sizeLine then .ok (.val (.nod .tup ts)) else .stk | none => if gs.length ≤ sizeLine then .ok (.nod true .tup gs) else .stk := rfl
@[simp] theorem lstR_ok : lstR' (.ok gs) = if gs.length ≤ sizeLine then .ok (.nod true .lst gs) else .stk := rfl
@[simp] theorem consR_ok : consR (.ok g) (.ok gs) = .ok (g :: gs) := rfl
@[simp] theorem backR_ok : backR (.ok g gs) = if g.free then .ok g else .stk := rfl
@[simp] theorem callR_ok : callR Φ f (.ok gs) = backR (Φ.call f (G.args gs)) := rfl
@[simp] theorem bifR_ok (bf : Bf) : bifR bf (.ok gs) = bifG bf gs := rfl
@[simp] theorem isiR_ok (ty : Ty) : isiR Φ (.ok g) ty = bolR (isiX Φ g.toT ty) := rfl
@[simp] theorem isiX_ty (n : String) : isiX Φ t (.ty n) = isiT t (.ty n) := rfl
@[simp] theorem fldR_ok : fldR Φ f (.ok g) = fldG Φ g f := rfl
@[simp] theorem methR_ok : methR Φ f (.ok g) (.ok gs) = methG Φ f g gs := rfl
@[simp] theorem mkR_ok : mkR Φ f (.ok gs) = mkG Φ f gs := rfl
@[simp] theorem lmO_ok (m : LM) (p : Nat × List Nat) : lmO m env (.ok p) = chgO p.1 p.2 env (lmF m) := rfl
@[simp] theorem setfO_ok (k : Nat) : setfO Φ k f env (.ok (g, env1)) = chgA k [] env1 (fldF Φ f g) := rfl
@[simp] theorem andR_t : andR Φ gl env es (.ok (.val (.bl true))) = evAnd Φ gl env es := rfl
@[simp] theorem andR_f : andR Φ gl env es (.ok (.val (.bl false))) = .ok false := rfl
@[simp] theorem orR_t : orR Φ gl env es (.ok (.val (.bl true))) = .ok true := rfl
@[simp] theorem orR_f : orR Φ gl env es (.ok (.val (.bl false))) = evOr Φ gl env es := rfl
@[simp] theorem keepR_ok : keepR env (.ok g) = if g.free then .ok (g, env) else .stk := rfl
@[simp] theorem svarR_val (k : Nat) : svarR P mv env k (some (some (.val t))) = .ok (.val t, env) := rfl
theorem svarR_nod (k : Nat) (w : Bool) (kd : Kd) : svarR P mv env k (some (some (.nod w kd gs))) = if (G.nod w kd gs).free && !P.contains k then (if mv then .ok (.nod w kd gs, env.set k none) else .ok (G.frz (.nod w kd gs), env.set k (some (G.frz (.nod w kd gs))))) else .stk := rfl
@[simp] theorem stupR_ok (p : List G × Env) : stupR (.ok p) = if p.1.length ≤ sizeLine then (match G.vals? p.1 with | some ts => .ok (.val (.nod .tup ts), p.2) | none => .ok (.nod true .tup p.1, p.2)) else .stk := rfl
@[simp] theorem slstR_ok (p : List G × Env) : slstR (.ok p) = if p.1.length ≤ sizeLine then .ok (.nod true .lst p.1, p.2) else .stk := rfl
@[simp] theorem sconsR_ok (p : G × Env) : sconsR Φ gl P mv es (.ok p) = (evSs Φ gl P mv p.2 es).bind fun q => .ok (p.1 :: q.1, q.2) := rfl
@[simp] theorem seqO_nx : seqO Φ gl P ss (.nx env1) = execs Φ gl P ss env1 := rfl
@[simp] theorem seqO_ret : seqO Φ gl P ss (.ret g env1) = .ret g env1 := rfl
@[simp] theorem seqO_brk : seqO Φ gl P ss (.brk env1) = .brk env1 := rfl
@[simp] theorem seqO_cnt : seqO Φ gl P ss (.cnt env1) = .cnt env1 := rfl
@[simp] theorem seqO_exc : seqO Φ gl P ss (.exc e env1) = .exc e env1 := rfl
@[simp] theorem seqO_stk : seqO Φ gl P ss .stk = .stk := rfl
@[simp] theorem asgO_ok (k : Nat) (w : Ow) : asgO P k w env (.ok (g, env1)) = if k ∉ P ∧ k < env1.length then .nx (env1.set k (some (owG w g))) else .stk := rfl
@[simp] theorem iteO_t (p q : List S) : iteO Φ gl P p q env (.ok true) = execs Φ gl P p env := rfl
@[simp] theorem iteO_f (p q : List S) : iteO Φ gl P p q env (.ok false) = execs Φ gl P q env := rfl
theorem iteO_if (p q : List S) : iteO Φ gl P p q env (.ok b) = if b = true then execs Φ gl P p env else execs Φ gl P q env := by cases b <;> rfl
@[simp] theorem forO_ok (tg : Tg) (body : List S) (w : Option (Nat × G)) : forO Φ gl P tg body env (.ok (ts, w)) = (loopT (tgSet (pinOf w P) 0 tg) (execs Φ gl (pinOf w P) body) ts (hide w env)).unhide w := rfl
@[simp] theorem retO_ok : retO env (.ok (g, env1)) = .ret g env1 := rfl
@[simp] theorem unpO_ok (is : List Nat) : unpO P is env (.ok g) = if g.free then unpT P is env g.toT else .stk := rfl
@[simp] theorem unpT_tup (is : List Nat) : unpT P is env (.nod .tup ts) = if (∀ i ∈ is, i ∉ P ∧ i < env.length) ∧ ts.length = is.length then (match setAll is ts env with | some env1 => .nx env1 | none => .stk) else .stk := rfl
@[simp] theorem plR_ok (mv : Bool) (ee : E) (k : Nat) (js : List Nat) : plR P Φ gl mv ee env (.ok (k, js)) = appO mv k js env (evS Φ gl (k :: P) mv env ee) := by
  show (match evS Φ gl (k :: P) mv env ee with | .ok (g, env1) => chgO k js env1 (appF (mvG mv g)) | .exc _ => .stk | .stk => .stk) = _
  cases evS Φ gl (k :: P) mv env ee <;> rfl
@[simp] theorem appO_ok (k : Nat) (js : List Nat) : appO mv k js env (.ok (g, env1)) = chgO k js env1 (appF (mvG mv g)) := rfl
@[simp] theorem setO_ok (pl : Pl) (k : E) : setO Φ gl mv pl k env (.ok (g, env1)) = putO mv env1 g (evPl Φ gl env1 pl) ((ev Φ gl env1 k).bind asInt) := by
  show (match evPl Φ gl env1 pl with | .ok (i, js) => (match (ev Φ gl env1 k).bind asInt with | .ok n => chgO i js env1 (setF n (mvG mv g)) | .exc _ => .stk | .stk => .stk) | .exc _ => .stk | .stk => .stk) = _
  cases evPl Φ gl env1 pl with
  | ok p => cases (ev Φ gl env1 k).bind asInt <;> rfl
  | exc x => rfl
  | stk => rfl
@[simp] theorem putO_ok (k : Nat) (js : List Nat) : putO mv env1 g (.ok (k, js)) (.ok i) = chgO k js env1 (setF i (mvG mv g)) := rfl
@[simp] theorem pl_var (k : Nat) : evPl Φ gl env (.var k) = .ok (k, []) := rfl
@[simp] theorem pl_ix (p : Pl) (k : E) : evPl Φ gl env (.ix p k) = ixPl Φ gl env k (evPl Φ gl env p) := rfl
@[simp] theorem backC_ret : backC [] (.ret g env1) = .ok g [] := rfl
@[simp] theorem backC_nx : backC [] (.nx env1) = .ok (.val .non) [] := rfl
@[simp] theorem lent_nil (n : Nat) : lentIx n [] = [] := rfl
@[simp] theorem lent_val (n : Nat) : lentIx n (.val t :: gs) = lentIx (n + 1) gs := rfl
@[simp] theorem lent_bor (n : Nat) (k : Kd) (xs : List G) : lentIx n (.nod false k xs :: gs) = lentIx (n + 1) gs := rfl
@[simp] theorem lent_own (n : Nat) (k : Kd) (xs : List G) : lentIx n (.nod true k xs :: gs) = n :: lentIx (n + 1) gs := rfl
@[simp] theorem unh_none (w : Out) : w.unhide none = w := by cases w <;> rfl
@[simp] theorem hide_none : hide none env = env := rfl
@[simp] theorem pin_none : pinOf none P = P := rfl
theorem run_eq (n : Nat) (body : List S) : runF Φ gl n body gs = backC (lentIx 0 gs) (execs Φ gl (lentIx 0 gs) body (gs.map some ++ List.replicate (n - gs.length) none)) := by
  unfold runF backC
  cases execs Φ gl (lentIx 0 gs) body (gs.map some ++ List.replicate (n - gs.length) none) <;> rfl
end
/-! operations on plain trees -/
section
variable (i j : Int) (x y : Str) (b c : Bool) (ts us : List T) (t : T) (k : Kd) (gs : List G) (o : Bool) (g : G)
@[simp] theorem bor_val : (G.val t).bor = .val t := by unfold G.bor; rfl
@[simp] theorem bor_nod : (G.nod o k gs).bor = .nod false k (G.bors gs) := by conv => lhs; unfold G.bor
@[simp] theorem bors_nil : G.bors [] = [] := by unfold G.bors; rfl
@[simp] theorem bors_cons : G.bors (g :: gs) = g.bor :: G.bors gs := by conv => lhs; unfold G.bors
@[simp] theorem args_nil : G.args [] = [] := rfl
@[simp] theorem args_cons : G.args (g :: gs) = g.arg :: G.args gs := rfl
@[simp] theorem arg_val : (G.val t).arg = .val t := rfl
@[simp] theorem arg_nod : (G.nod o k gs).arg = if (G.nod o k gs).free then .val (G.nod o k gs).toT else (G.nod o k gs).bor := rfl
@[simp] theorem toT_val : (G.val t).toT = t := by unfold G.toT; rfl
@[simp] theorem toT_nod : (G.nod o k gs).toT = .nod k (G.toTs gs) := by conv => lhs; unfold G.toT
@[simp] theorem toTs_nil : G.toTs [] = [] := by unfold G.toTs; rfl
@[simp] theorem toTs_cons : G.toTs (g :: gs) = g.toT :: G.toTs gs := by conv => lhs; unfold G.toTs
@[simp] theorem toTs_vals : G.toTs (ts.map .val) = ts := toTs_map ts
@[simp] theorem free_val : (G.val t).free = true := by unfold G.free; rfl
@[simp] theorem free_nod : (G.nod o k gs).free = (o && G.frees gs) := by conv => lhs; unfold G.free
@[simp] theorem frees_nil : G.frees [] = true := by unfold G.frees; rfl
@[simp] theorem frees_cons : G.frees (g :: gs) = (g.free && G.frees gs) := by conv => lhs; unfold G.frees
@[simp] theorem frees_vals : G.frees (ts.map .val) = true := by
  induction ts with
  | nil => simp
  | cons t ts ih => simp [ih]
@[simp] theorem still_val : (G.val t).still = true := by unfold G.still; rfl
@[simp] theorem still_nod : (G.nod o k gs).still = (!o && G.stills gs) := by conv => lhs; unfold G.still
@[simp] theorem stills_nil : G.stills [] = true := by unfold G.stills; rfl
@[simp] theorem stills_cons : G.stills (g :: gs) = (g.still && G.stills gs) := by conv => lhs; unfold G.stills
@[simp] theorem stills_vals : G.stills (ts.map .val) = true := by
  induction ts with
  | nil => simp
  | cons t ts ih => simp [ih]
@[simp] theorem bors_vals : G.bors (ts.map .val) = ts.map .val := by
  induction ts with
  | nil => simp
  | cons t ts ih => simp [ih]
@[simp] theorem vals_nil : G.vals? [] = some [] := rfl
@[simp] theorem vals_cons_val : G.vals? (.val t :: gs) = (G.vals? gs).map (t :: ·) := by
  show (match (G.val t).val?, G.vals? gs with | some t, some ts => some (t :: ts) | _, _ => none) = _
  cases G.vals? gs <;> rfl
@[simp] theorem vals_vals : G.vals? (ts.map .val) = some ts := vals_map ts
@[simp] theorem own_eq : G.own k ts = .nod true k (ts.map .val) := rfl
@[simp] theorem frz_eq : g.frz = .val g.toT := rfl
@[simp] theorem asInt_int : asInt (.val (.int i)) = .ok i := rfl
@[simp] theorem asBool_bl : asBool (.val (.bl b)) = .ok b := rfl
theorem evB_eq {Φ : Fns} {gl : Str → Option T} {env : Env} (e : E) : evB Φ gl env e = (ev Φ gl env e).bind asBool := rfl
@[simp] theorem flat_int : flatT (.int i) = true := rfl
@[simp] theorem flat_str : flatT (.str x) = true := rfl
@[simp] theorem flat_bl : flatT (.bl b) = true := rfl
@[simp] theorem flat_non : flatT .non = true := rfl
@[simp] theorem bin_add : binG .add (.val (.int i)) (.val (.int j)) = .ok (.val (.int (i + j))) := rfl
@[simp] theorem bin_sub : binG .sub (.val (.int i)) (.val (.int j)) = .ok (.val (.int (i - j))) := rfl
@[simp] theorem bin_mul : binG .mul (.val (.int i)) (.val (.int j)) = if mulOk i j then .ok (.val (.int (i * j))) else .stk := rfl
@[simp] theorem bin_div : binG .fdiv (.val (.int i)) (.val (.int j)) = if divOk j then .ok (.val (.int (i / j))) else .stk := rfl
@[simp] theorem bin_mod : binG .mod (.val (.int i)) (.val (.int j)) = if 0 < j then .ok (.val (.int (i % j))) else .stk := rfl
@[simp] theorem bin_pow : binG .pow (.val (.int i)) (.val (.int j)) = if powOk i j then .ok (.val (.int (i ^ j.toNat))) else .stk := rfl
@[simp] theorem bin_adds : binG .add (.val (.str x)) (.val (.str y)) = if x.length + y.length ≤ sizeLine then .ok (.val (.str (x ++ y))) else .stk := rfl
@[simp] theorem bin_muls : binG .mul (.val (.str x)) (.val (.int i)) = if strMulOk x i then .ok (.val (.str (Txt.mul x i))) else .stk := rfl
@[simp] theorem bin_addt : binG .add (.val (.nod .tup ts)) (.val (.nod .tup us)) = if ts.length + us.length ≤ sizeLine then .ok (.val (.nod .tup (ts ++ us))) else .stk := rfl
@[simp] theorem parts_nod : (G.nod o k gs).parts = some (k, gs) := rfl
@[simp] theorem parts_val : (G.val (.nod k ts)).parts = some (k, ts.map .val) := rfl
@[simp] theorem items_lst : (G.nod o .lst gs).items = G.vals? gs := rfl
@[simp] theorem items_vlst : (G.val (.nod .lst ts)).items = some ts := vals_map ts
@[simp] theorem items_tup : (G.nod o .tup gs).items = G.vals? gs := rfl
@[simp] theorem items_vtup : (G.val (.nod .tup ts)).items = some ts := vals_map ts
@[simp] theorem cmp_eq (a b : T) : cmpT .eq a b = eqT a b := rfl
@[simp] theorem cmp_ne (a b : T) : cmpT .ne a b = (eqT a b).bind fun r => .ok (!r) := rfl
@[simp] theorem cmp_lt : cmpT .lt (.int i) (.int j) = .ok (decide (i < j)) := rfl
@[simp] theorem cmp_le : cmpT .le (.int i) (.int j) = .ok (decide (i ≤ j)) := rfl
@[simp] theorem cmp_gt : cmpT .gt (.int i) (.int j) = .ok (decide (j < i)) := rfl
@[simp] theorem cmp_ge : cmpT .ge (.int i) (.int j) = .ok (decide (j ≤ i)) := rfl
@[simp] theorem cmp_lts : cmpT .lt (.str x) (.str y) = .ok (decide (x.cps.toList < y.cps.toList)) := rfl
@[simp] theorem cmp_gts : cmpT .gt (.str x) (.str y) = .ok (decide (y.cps.toList < x.cps.toList)) := rfl
@[simp] theorem cmp_ins : cmpT .in_ (.str x) (.str y) = .ok (inStr x y) := rfl
@[simp] theorem cmp_nins : cmpT .nin (.str x) (.str y) = .ok (!inStr x y) := rfl
@[simp] theorem slc_str (lo hi : Option Int) : slcG (.val (.str x)) lo hi = if x.length ≤ sizeLine then .ok (.val (.str (cutS x lo hi))) else .stk := rfl
@[simp] theorem slc_tup (lo hi : Option Int) : slcG (.val (.nod .tup ts)) lo hi = .ok (.val (.nod .tup (cutL ts lo hi))) := rfl
@[simp] theorem slc_vlst (lo hi : Option Int) : slcG (.val (.nod .lst ts)) lo hi = .ok (.own .lst (cutL ts lo hi)) := by
  show (match G.vals? (ts.map .val) with | some ts => Res.ok (G.own .lst (cutL ts lo hi)) | none => .stk) = _
  rw [vals_map]
@[simp] theorem slc_nlst (lo hi : Option Int) : slcG (.nod o .lst (ts.map .val)) lo hi = .ok (.own .lst (cutL ts lo hi)) := by
  show (match G.vals? (ts.map .val) with | some ts => Res.ok (G.own .lst (cutL ts lo hi)) | none => .stk) = _
  rw [vals_map]
@[simp] theorem len_str : lenT (.str x) = if x.length ≤ sizeLine then .ok (x.length : Int) else .stk := rfl
@[simp] theorem len_lst : lenT (.nod .lst ts) = .ok (ts.length : Int) := rfl
@[simp] theorem len_tup : lenT (.nod .tup ts) = .ok (ts.length : Int) := rfl
@[simp] theorem bif_len : bifG .len [g] = (lenT g.toT).bind fun n => .ok (.val (.int n)) := rfl
theorem div_ok : divOk i = (decide (0 < i) && decide (i.natAbs.log2 < 9000)) := rfl
theorem bin_addl (as bs : List T) : binG .add (.nod true .lst (as.map .val)) (.nod true .lst (bs.map .val)) = if as.length + bs.length ≤ sizeLine then .ok (.own .lst (as ++ bs)) else .stk := by
  show (match (G.nod true .lst (as.map .val)).items, (G.nod true .lst (bs.map .val)).items with
    | some xs, some ys => if xs.length + ys.length ≤ sizeLine then Res.ok (G.own .lst (xs ++ ys)) else .stk
    | _, _ => .stk) = _
  simp
end
def tstR : Res G → Res Bool := fun r => r.bind asBool
@[simp] theorem evB_tst {Φ : Fns} {gl : Str → Option T} {env : Env} (e : E) : evB Φ gl env e = tstR (ev Φ gl env e) := rfl
@[simp] theorem tstR_ok (b : Bool) : tstR (.ok (.val (.bl b))) = .ok b := rfl
def rngR (r : Res G) : Res (List T × Option (Nat × G)) := r.bind fun g => (asInt g).bind fun n => if smallI n then .ok (rngT 0 n.toNat, none) else .stk
def rng2R (r q : Res G) : Res (List T × Option (Nat × G)) := r.bind fun g => (asInt g).bind fun i => q.bind fun g2 => (asInt g2).bind fun j => if smallI i && smallI j then .ok (rngT i (j - i).toNat, none) else .stk
@[simp] theorem it_rng1 {Φ : Fns} {gl : Str → Option T} {env : Env} (e : E) : evIt Φ gl env (.rng1 e) = rngR (ev Φ gl env e) := rfl
@[simp] theorem it_rng2 {Φ : Fns} {gl : Str → Option T} {env : Env} (e f : E) : evIt Φ gl env (.rng2 e f) = rng2R (ev Φ gl env e) (ev Φ gl env f) := rfl
@[simp] theorem rngR_ok {n : Int} (h : smallI n = true) : rngR (.ok (.val (.int n))) = .ok (rngT 0 n.toNat, none) := by
  show (if smallI n then Res.ok (rngT 0 n.toNat, none) else .stk) = _
  rw [if_pos h]
@[simp] theorem rng2R_ok {i j : Int} (h : smallI i = true) (h2 : smallI j = true) : rng2R (.ok (.val (.int i))) (.ok (.val (.int j))) = .ok (rngT i (j - i).toNat, none) := by
  show (if smallI i && smallI j then Res.ok (rngT i (j - i).toNat, none) else .stk) = _
  rw [h, h2]
  rfl
def ownR (i : Nat) : Option (Option G) → Option (Nat × G)
  | some (some (.nod true k gs)) => some (i, .nod true k gs)
  | _ => none
def borR : Option (Option G) → Option G
  | some (some (.nod false k gs)) => some (.nod false k gs)
  | _ => none
def itW (o : Option (Nat × G)) (b : Option G) (r : Res G) : Res (List T × Option (Nat × G)) := match o with
  | some (i, g) => match g.items with
    | some ts => .ok (ts, some (i, g))
    | none => .stk
  | none => match b with
   | some g => (match g.items with | some ts => .ok (ts, none) | none => .stk)
   | none => r.bind fun g => if g.free then (match itItems (.val g.toT) with | some ts => .ok (ts, none) | none => .stk) else .stk
def enW (o : Option (Nat × G)) (b : Option G) (r : Res G) : Res (List T × Option (Nat × G)) := match o with
  | some (i, .nod true .lst gs) => match G.vals? gs with
    | some ts => .ok (enmT ts, some (i, .nod true .lst gs))
    | none => .stk
  | some _ => .stk
  | none => match b with
   | some g => (match lstItems g with | some ts => .ok (enmT ts, none) | none => .stk)
   | none => r.bind fun g => if g.free then (match g.parts with | some (.lst, gs) => (match G.vals? gs with | some ts => .ok (enmT ts, none) | none => .stk) | _ => .stk) else .stk
section
variable {Φ : Fns} {gl : Str → Option T} {env : Env}
@[simp] theorem it_it (e : E) : evIt Φ gl env (.it e) = itW (ownAt env e) (borAt env e) (ev Φ gl env e) := rfl
@[simp] theorem it_enm (e : E) : evIt Φ gl env (.enm e) = enW (ownAt env e) (borAt env e) (ev Φ gl env e) := by
  unfold evIt enW
  rfl
@[simp] theorem own_var (i : Nat) : ownAt env (.var i) = ownR i env[i]? := rfl
@[simp] theorem bor'_var (i : Nat) : borAt env (.var i) = borR env[i]? := rfl
@[simp] theorem own_fld (a : E) (f : Str) : ownAt env (.fld a f) = none := rfl
@[simp] theorem bor'_fld (a : E) (f : Str) : borAt env (.fld a f) = none := rfl
@[simp] theorem own_lc (tg : Tg) (k : IK) (as c : List E) (e : E) : ownAt env (.lc tg k as c e) = none := rfl
@[simp] theorem bor'_lc (tg : Tg) (k : IK) (as c : List E) (e : E) : borAt env (.lc tg k as c e) = none := rfl
@[simp] theorem own_meth (a : E) (m : Str) (es : List E) : ownAt env (.meth a m es) = none := rfl
@[simp] theorem bor'_meth (a : E) (m : Str) (es : List E) : borAt env (.meth a m es) = none := rfl
@[simp] theorem own_bin (o : BOp) (a b : E) : ownAt env (.bin o a b) = none := rfl
@[simp] theorem bor'_bin (o : BOp) (a b : E) : borAt env (.bin o a b) = none := rfl
@[simp] theorem own_slc (a : E) (l h : Option E) : ownAt env (.slc a l h) = none := rfl
@[simp] theorem bor'_slc (a : E) (l h : Option E) : borAt env (.slc a l h) = none := rfl
@[simp] theorem own_call (f : Str) (a : List E) : ownAt env (.call f a) = none := rfl
@[simp] theorem bor'_call (f : Str) (a : List E) : borAt env (.call f a) = none := rfl
@[simp] theorem own_bif (f : Bf) (a : List E) : ownAt env (.bif f a) = none := rfl
@[simp] theorem bor'_bif (f : Bf) (a : List E) : borAt env (.bif f a) = none := rfl
@[simp] theorem own_idx (a b : E) : ownAt env (.idx a b) = none := rfl
@[simp] theorem bor'_idx (a b : E) : borAt env (.idx a b) = none := rfl
@[simp] theorem own_tup (a : List E) : ownAt env (.tup a) = none := rfl
@[simp] theorem bor'_tup (a : List E) : borAt env (.tup a) = none := rfl
@[simp] theorem own_lst (a : List E) : ownAt env (.lst a) = none := rfl
@[simp] theorem bor'_lst (a : List E) : borAt env (.lst a) = none := rfl
@[simp] theorem own_con (t : T) : ownAt env (.con t) = none := rfl
@[simp] theorem bor'_con (t : T) : borAt env (.con t) = none := rfl
@[simp] theorem own_glb (t : Str) : ownAt env (.glb t) = none := rfl
@[simp] theorem bor'_glb (t : Str) : borAt env (.glb t) = none := rfl
@[simp] theorem ownR_val (i : Nat) (t : T) : ownR i (some (some (.val t))) = none := rfl
@[simp] theorem ownR_own (i : Nat) (k : Kd) (gs : List G) : ownR i (some (some (.nod true k gs))) = some (i, .nod true k gs) := rfl
@[simp] theorem ownR_bor (i : Nat) (k : Kd) (gs : List G) : ownR i (some (some (.nod false k gs))) = none := rfl
@[simp] theorem borR_val (t : T) : borR (some (some (.val t))) = none := rfl
@[simp] theorem borR_own (k : Kd) (gs : List G) : borR (some (some (.nod true k gs))) = none := rfl
@[simp] theorem borR_bor (k : Kd) (gs : List G) : borR (some (some (.nod false k gs))) = some (.nod false k gs) := rfl
@[simp] theorem itW_own (i : Nat) (k : Kd) (gs : List G) (b : Option G) (r : Res G) : itW (some (i, .nod true k gs)) b r = match (G.nod true k gs).items with | some ts => .ok (ts, some (i, .nod true k gs)) | none => .stk := rfl
@[simp] theorem itW_bor (g : G) (r : Res G) : itW none (some g) r = match g.items with | some ts => .ok (ts, none) | none => .stk := rfl
@[simp] theorem itW_val (t : T) : itW none none (.ok (.val t)) = match itItems (.val t) with | some ts => .ok (ts, none) | none => .stk := by
  show (if (G.val t).free then (match itItems (.val (G.val t).toT) with | some ts => Res.ok (ts, none) | none => .stk) else .stk) = _
  rw [free_val, toT_val]
  rfl
@[simp] theorem itW_nod (o : Bool) (k : Kd) (gs : List G) : itW none none (.ok (.nod o k gs)) = if (G.nod o k gs).free then (match (G.val (.nod k (G.toTs gs))).items with | some ts => .ok (ts, none) | none => .stk) else .stk := by
  show (if (G.nod o k gs).free then (match itItems (.val (G.nod o k gs).toT) with | some ts => Res.ok (ts, none) | none => .stk) else .stk) = _
  rw [toT_nod]
  rfl
@[simp] theorem itI_str (z : Str) : itItems (.val (.str z)) = some (strItems z) := rfl
@[simp] theorem itI_nod (k : Kd) (ts : List T) : itItems (.val (.nod k ts)) = (G.val (.nod k ts)).items := rfl
@[simp] theorem enW_own (i : Nat) (ts : List T) (b : Option G) (r : Res G) : enW (some (i, .nod true .lst (ts.map .val))) b r = .ok (enmT ts, some (i, .nod true .lst (ts.map .val))) := by
  show (match G.vals? (ts.map .val) with | some us => Res.ok (enmT us, some (i, G.nod true .lst (ts.map .val))) | none => .stk) = _
  rw [vals_map]
@[simp] theorem enW_bor (ts : List T) (r : Res G) : enW none (some (.nod false .lst (ts.map .val))) r = .ok (enmT ts, none) := by
  show (match G.vals? (ts.map .val) with | some ts => Res.ok (enmT ts, none) | none => .stk) = _
  rw [vals_map]
@[simp] theorem enW_val (ts : List T) : enW none none (.ok (.val (.nod .lst ts))) = .ok (enmT ts, none) := by
  show (if (G.val (.nod .lst ts)).free then (match G.vals? (ts.map .val) with | some ts => Res.ok (enmT ts, none) | none => .stk) else .stk) = _
  rw [free_val, vals_map]
  rfl
end
section
variable (o : Bool) (ts us : List T) (z : Str) (n : Int)
@[simp] theorem itG_lst : itG .it [.nod o .lst (ts.map .val)] = .ok ts := by
  show (match G.vals? (ts.map .val) with | some ts => Res.ok ts | none => .stk) = _
  rw [vals_map]
@[simp] theorem itG_vlst : itG .it [.val (.nod .lst ts)] = .ok ts := by
  show (match G.vals? (ts.map .val) with | some ts => Res.ok ts | none => .stk) = _
  rw [vals_map]
@[simp] theorem itG_vtup : itG .it [.val (.nod .tup ts)] = .ok ts := by
  show (match G.vals? (ts.map .val) with | some ts => Res.ok ts | none => .stk) = _
  rw [vals_map]
@[simp] theorem itG_str : itG .it [.val (.str z)] = .ok (strItems z) := rfl
@[simp] theorem lstI_v : lstItems (.val (.nod .lst ts)) = some ts := vals_map ts
@[simp] theorem lstI_n : lstItems (.nod o .lst (ts.map .val)) = some ts := vals_map ts
theorem itG_rng1 (h : smallI n = true) : itG .rng1 [.val (.int n)] = .ok (rngT 0 n.toNat) := by
  show (if smallI n then Res.ok (rngT 0 n.toNat) else .stk) = _
  rw [if_pos h]
theorem lcT_map {st : T → Env → Option Env} {c : Env → Res Bool} {f : Env → Res G} {env : Env} (h : T → T) : ∀ {ts : List T}, (∀ t ∈ ts, ∃ e1, st t env = some e1 ∧ c e1 = .ok true ∧ f e1 = .ok (.val (h t))) → lcT st c f env ts = .ok ((ts.map h).map .val)
  | [], _ => rfl
  | t :: ts, H => by
    obtain ⟨e1, h1, h2, h3⟩ := H t List.mem_cons_self
    unfold lcT
    rw [h1]
    simp only [h2, h3, Res.bind, free_val, if_true]
    rw [lcT_map h fun t ht => H t (List.mem_cons_of_mem _ ht)]
    rfl
theorem lcT_filter {st : T → Env → Option Env} {c : Env → Res Bool} {f : Env → Res G} {env : Env} (h : T → T) (p : T → Bool) : ∀ {ts : List T}, (∀ t ∈ ts, ∃ e1, st t env = some e1 ∧ c e1 = .ok (p t) ∧ (p t = true → f e1 = .ok (.val (h t)))) → lcT st c f env ts = .ok (((ts.filter p).map h).map .val)
  | [], _ => rfl
  | t :: ts, H => by
    obtain ⟨e1, h1, h2, h3⟩ := H t List.mem_cons_self
    have ih := lcT_filter h p fun t ht => H t (List.mem_cons_of_mem _ ht)
    unfold lcT
    rw [h1]
    simp only [h2, Res.bind]
    cases q : p t with
    | true =>
      rw [if_pos rfl, h3 q]
      simp only [free_val, if_true]
      rw [ih, List.filter_cons_of_pos (by rw [q])]
      rfl
    | false =>
      rw [if_neg (by decide), ih, List.filter_cons_of_neg (by rw [q]; decide)]
/-- an owned list of plain items -/
abbrev gL (r : List T) : G := .nod true .lst (r.map .val)
theorem at_row {R : List (List T)} {j : Nat} {r : List T} (h : R[j]? = some r) : (G.nod true .lst (R.map gL)).at [j] = some (gL r) := by
  show (match (R.map gL)[j]? with | some x => x.at [] | none => none) = _
  rw [List.getElem?_map, h]
  rfl
theorem put_row {R : List (List T)} {j : Nat} {r r' : List T} (h : R[j]? = some r) : (G.nod true .lst (R.map gL)).put [j] (gL r') = .nod true .lst ((R.set j r').map gL) := by
  show (match (R.map gL)[j]? with | some x => G.nod true .lst ((R.map gL).set j (x.put [] (gL r'))) | none => .nod true .lst (R.map gL)) = _
  rw [List.getElem?_map, h, List.map_set]
  rfl
theorem chg_row {P : List Nat} {i j : Nat} {env : Env} {R : List (List T)} {r : List T} {x : T} (e : env[i]? = some (some (.nod true .lst (R.map gL)))) (h : R[j]? = some r) (hi : i ∉ P) (hz : r.length < sizeLine) :
    chgO i [j] env (appF (.val x)) = .nx (env.set i (some (.nod true .lst ((R.set j (r ++ [x])).map gL)))) := by
  unfold chgO
  rw [e]
  simp only [at_row h]
  unfold appF
  rw [if_pos (by rw [List.length_map]; exact hz)]
  simp only
  have : r.map G.val ++ [G.val x] = (r ++ [x]).map .val := by rw [List.map_append]; rfl
  rw [this, put_row h]
theorem ixPl_nat {Φ : Fns} {gl : Str → Option T} {env : Env} {i j : Nat} {k : E} {gs : List G} (e : env[i]? = some (some (.nod true .lst gs))) (hk : ev Φ gl env k = .ok (.val (.int j))) (hj : j < gs.length) : ixPl Φ gl env k (.ok (i, [])) = .ok (i, [j]) := by
  unfold ixPl
  simp only [Res.bind, e]
  have a0 : (G.nod true .lst gs).at [] = some (.nod true .lst gs) := rfl
  simp only [a0, hk]
  unfold plIx
  simp only [Res.bind, asInt_int]
  have : ixN gs.length (j : Int) = some j := by
    unfold ixN
    rw [if_pos (by omega), if_pos (by omega)]
    simp
  rw [this]
  rfl
/-- an append to an owned list by its name -/
theorem chg_app {P : List Nat} {i : Nat} {env : Env} {gs : List G} {g : G} (e : env[i]? = some (some (.nod true .lst gs))) (hi : i ∉ P) (hz : gs.length < sizeLine) : chgO i [] env (appF g) = .nx (env.set i (some (.nod true .lst (gs ++ [g])))) := by
  unfold chgO
  rw [e]
  have a0 : (G.nod true .lst gs).at [] = some (.nod true .lst gs) := rfl
  simp only [a0]
  unfold appF
  rw [if_pos hz]
  rfl
end
def chgF (i : Nat) (js : List Nat) (env : Env) (g0 : G) : Option (List G) → Out
  | some gs' => .nx (env.set i (some (g0.put js (.nod true .lst gs'))))
  | none => .stk
def chgN (i : Nat) (js : List Nat) (env : Env) (f : List G → Option (List G)) (g0 : G) : Option G → Out
  | some (.nod true .lst gs) => chgF i js env g0 (f gs)
  | _ => .stk
def chgR (i : Nat) (js : List Nat) (env : Env) (f : List G → Option (List G)) : Option (Option G) → Out
  | some (some g0) => chgN i js env f g0 (g0.at js)
  | _ => .stk
section
variable (i : Nat) (js : List Nat) (env : Env) (f : List G → Option (List G)) (g0 g : G) (gs : List G) (n : Int)
@[simp] theorem chgO_eq : chgO i js env f = chgR i js env f env[i]? := by
  unfold chgO chgR chgN chgF
  rfl
@[simp] theorem chgR_ok : chgR i js env f (some (some g0)) = chgN i js env f g0 (g0.at js) := rfl
@[simp] theorem chgN_ok : chgN i js env f g0 (some (.nod true .lst gs)) = chgF i js env g0 (f gs) := rfl
@[simp] theorem chgF_ok : chgF i js env g0 (some gs) = .nx (env.set i (some (g0.put js (.nod true .lst gs)))) := rfl
@[simp] theorem at_nil : g0.at [] = some g0 := rfl
@[simp] theorem put_nil : g0.put [] g = g := by unfold G.put; rfl
@[simp] theorem lmF_clear : lmF .clear gs = some [] := rfl
@[simp] theorem lmF_rev : lmF .rev gs = some gs.reverse := rfl
theorem lmF_pop : lmF .pop gs = if gs.isEmpty then none else some gs.dropLast := rfl
@[simp] theorem appF_eq : appF g gs = if gs.length < sizeLine then some (gs ++ [g]) else none := rfl
end
def ixQ (i : Nat) (js : List Nat) (r : Res G) : Option G → Res (Nat × List Nat)
  | some (.nod true .lst gs) => plIx (i, js) gs r
  | some (.nod true .tup gs) => plIx (i, js) gs r
  | _ => .stk
def ixM (i : Nat) (js : List Nat) (r : Res G) : Option (Option G) → Res (Nat × List Nat)
  | some (some g0) => ixQ i js r (g0.at js)
  | _ => .stk
@[simp] theorem ixPl_ok {Φ : Fns} {gl : Str → Option T} {env : Env} (i : Nat) (js : List Nat) (k : E) : ixPl Φ gl env k (.ok (i, js)) = ixM i js (ev Φ gl env k) env[i]? := by
  unfold ixPl ixM ixQ
  simp only [Res.bind]
@[simp] theorem ixM_ok (i : Nat) (js : List Nat) (r : Res G) (g0 : G) : ixM i js r (some (some g0)) = ixQ i js r (g0.at js) := rfl
@[simp] theorem ixQ_okT (i : Nat) (js : List Nat) (gs : List G) (n : Int) : ixQ i js (.ok (.val (.int n))) (some (.nod true .tup gs)) = match ixN gs.length n with | some j => .ok (i, js ++ [j]) | none => .stk := rfl
@[simp] theorem ixQ_ok (i : Nat) (js : List Nat) (gs : List G) (n : Int) : ixQ i js (.ok (.val (.int n))) (some (.nod true .lst gs)) = match ixN gs.length n with | some j => .ok (i, js ++ [j]) | none => .stk := rfl
theorem ixN_nat {n j : Nat} (h : j < n) : ixN n (j : Int) = some j := by
  unfold ixN
  rw [if_pos (by omega), if_pos (by omega)]
  simp
@[simp] theorem owG_frz (g : G) : owG .frz g = .val g.toT := rfl
@[simp] theorem owG_own (g : G) : owG .own g = g := rfl
@[simp] theorem owG_sh (g : G) : owG .sh g = g.shal := rfl
@[simp] theorem shal_nod (k : Kd) (gs : List G) : (G.nod true k gs).shal = .nod true k ((G.toTs gs).map .val) := rfl
@[simp] theorem shal_val (t : T) : (G.val t).shal = .val t := rfl
@[simp] theorem mvG_t (g : G) : mvG true g = g := rfl
@[simp] theorem mvG_f (g : G) : mvG false g = .val g.toT := rfl
/-! classes -/
def subR : Option Bool → Res Bool
  | some b => .ok b
  | none => .stk
@[simp] theorem subR_ok (b : Bool) : subR (some b) = .ok b := rfl
@[simp] theorem isiX_ins (Φ : Fns) (C D : Str) (ns : List Str) (ts : List T) : isiX Φ (.nod (.ins C ns) ts) (.cls D) = subR (Φ.sub C D) := by
  unfold isiX subR
  rfl
@[simp] theorem fns_call (ct : CTab) (c : Str → List G → CRes) : (fnsOf ct c).call = c := rfl
def chgA2 (i : Nat) (js : List Nat) (env : Env) (g0 : G) : Option (Kd × List G) → Out
  | some p => .nx (env.set i (some (g0.put js (.nod true p.1 p.2))))
  | none => .stk
def chgA1 (i : Nat) (js : List Nat) (env : Env) (f : Kd → List G → Option (Kd × List G)) (g0 : G) : Option G → Out
  | some (.nod true kd gs) => chgA2 i js env g0 (f kd gs)
  | _ => .stk
def chgA0 (i : Nat) (js : List Nat) (env : Env) (f : Kd → List G → Option (Kd × List G)) : Option (Option G) → Out
  | some (some g0) => chgA1 i js env f g0 (g0.at js)
  | _ => .stk
@[simp] theorem chgA_eq (i : Nat) (js : List Nat) (env : Env) (f : Kd → List G → Option (Kd × List G)) : chgA i js env f = chgA0 i js env f env[i]? := by
  unfold chgA chgA0 chgA1 chgA2
  rfl
@[simp] theorem chgA0_ok (i : Nat) (js : List Nat) (env : Env) (f : Kd → List G → Option (Kd × List G)) (g0 : G) : chgA0 i js env f (some (some g0)) = chgA1 i js env f g0 (g0.at js) := rfl
@[simp] theorem chgA1_ok (i : Nat) (js : List Nat) (env : Env) (f : Kd → List G → Option (Kd × List G)) (g0 : G) (kd : Kd) (gs : List G) : chgA1 i js env f g0 (some (.nod true kd gs)) = chgA2 i js env g0 (f kd gs) := rfl
@[simp] theorem chgA2_ok (i : Nat) (js : List Nat) (env : Env) (g0 : G) (p : Kd × List G) : chgA2 i js env g0 (some p) = .nx (env.set i (some (g0.put js (.nod true p.1 p.2)))) := rfl
@[simp] theorem backC_lent1 (g : G) (env : Env) (i : Nat) (is : List Nat) : backC (i :: is) (.nx env) = endR (.val .non) (lentOut env (i :: is)) := rfl
@[simp] theorem backC_lent2 (g : G) (env : Env) (i : Nat) (is : List Nat) : backC (i :: is) (.ret g env) = endR g (lentOut env (i :: is)) := rfl
def lentR (env : Env) (is : List Nat) : Option (Option G) → Option (List G)
  | some (some (.nod true k gs)) => (lentOut env is).map (.nod true k gs :: ·)
  | _ => none
@[simp] theorem lentOut_nil (env : Env) : lentOut env [] = some [] := rfl
@[simp] theorem lentOut_cons (env : Env) (i : Nat) (is : List Nat) : lentOut env (i :: is) = lentR env is env[i]? := by
  unfold lentOut lentR
  rfl
@[simp] theorem lentR_ok (env : Env) (is : List Nat) (k : Kd) (gs : List G) : lentR env is (some (some (.nod true k gs))) = (lentOut env is).map (.nod true k gs :: ·) := rfl
@[simp] theorem endR_ok (g : G) (gs : List G) : endR g (some gs) = .ok g gs := rfl
@[simp] theorem madeR_ok (g : G) : madeR (.ok (.val .non) [g]) = if g.free then .ok g else .stk := rfl
/-! calls that are lent a list -/
theorem lndR_go {Φ : Fns} {i : Nat} {f : Str} {env : Env} {kd : Kd} {gs : List G} {t2 : T} {n : Int} {g' : G} (hf : G.frees gs = true) (hc : Φ.call f [.nod true kd gs, .val t2] = .ok (.val (.int n)) [g']) (hg : g'.free = true) : lndR Φ i f env (some (some (.nod true kd gs))) (.ok (.val t2)) = .ok (n, env.set i (some g')) := by
  unfold lndR
  simp only [hf, hc, hg, if_true]
theorem lnd_asg {Φ : Fns} {gl : Str → Option T} {P : List Nat} {env : Env} {j i : Nat} {c : Option Int} {f : Str} {e : E} {kd : Kd} {gs : List G} {t2 : T} {n : Int} {g' : G} (he : env[i]? = some (some (.nod true kd gs))) (hv : ev Φ gl env e = .ok (.val t2)) (hf : G.frees gs = true) (hc : Φ.call f [.nod true kd gs, .val t2] = .ok (.val (.int n)) [g']) (hg : g'.free = true) (h1 : j ∉ P) (h2 : j < env.length) (h3 : j ≠ i) :
    exec Φ gl P (.lnd (.asg j) c i f e) env = .nx ((env.set i (some g')).set j (some (.nod true .lst [.val (.int (lndV c n))]))) := by
  unfold exec
  rw [he, hv, lndR_go hf hc hg]
  unfold lndX lndO
  simp only
  rw [if_pos ⟨h1, by rw [List.length_set]; exact h2, h3⟩]
theorem lnd_app {Φ : Fns} {gl : Str → Option T} {P : List Nat} {env : Env} {j i : Nat} {c : Option Int} {f : Str} {e : E} {kd : Kd} {gs : List G} {t2 : T} {n : Int} {g' : G} {xs : List G} (he : env[i]? = some (some (.nod true kd gs))) (hv : ev Φ gl env e = .ok (.val t2)) (hf : G.frees gs = true) (hc : Φ.call f [.nod true kd gs, .val t2] = .ok (.val (.int n)) [g']) (hg : g'.free = true) (hx : env[j]? = some (some (.nod true .lst xs))) (hl : xs.length < sizeLine) (h3 : j ≠ i) (h4 : j ∉ ([] : List Nat)) :
    exec Φ gl P (.lnd (.app j) c i f e) env = .nx ((env.set i (some g')).set j (some (.nod true .lst (xs ++ [.val (.int (lndV c n))])))) := by
  unfold exec
  rw [he, hv, lndR_go hf hc hg]
  unfold lndX lndO
  simp only
  rw [if_pos h3, chgO_eq, List.getElem?_set_ne (Ne.symm h3), hx, chgR_ok, at_nil, chgN_ok, appF_eq, if_pos hl, chgF_ok, put_nil]
@[simp] theorem ex_dead (Φ : Fns) (gl : Str → Option T) (P : List Nat) (env : Env) : exec Φ gl P .dead env = .stk := by
  unfold exec
  rfl
@[simp] theorem lndV_some (m n : Int) : lndV (some m) n = m + n := rfl
@[simp] theorem lndV_none (n : Int) : lndV none n = n := rfl
/-! list(range(x)), while -/
def lrgR (r : Res G) : Res G := r.bind fun g => (asInt g).bind fun n => if smallI n && decide (n.toNat ≤ sizeLine) then .ok (.own .lst (rngT 0 n.toNat)) else .stk
@[simp] theorem ev_lrg (Φ : Fns) (gl : Str → Option T) (env : Env) (a : E) : ev Φ gl env (.lrg a) = lrgR (ev Φ gl env a) := by
  conv => lhs; unfold ev
  rfl
@[simp] theorem evS_lrg (Φ : Fns) (gl : Str → Option T) (P : List Nat) (mv : Bool) (env : Env) (a : E) : evS Φ gl P mv env (.lrg a) = keepR env (ev Φ gl env (.lrg a)) := evS_plain rfl env
theorem lrgR_ok {n : Int} (h : smallI n = true) (h2 : n.toNat ≤ sizeLine) : lrgR (.ok (.val (.int n))) = .ok (.nod true .lst ((rngT 0 n.toNat).map .val)) := by
  show (if smallI n && decide (n.toNat ≤ sizeLine) then Res.ok (G.own .lst (rngT 0 n.toNat)) else .stk) = _
  rw [h, decide_eq_true h2]
  rfl
theorem ex_whl (Φ : Fns) (gl : Str → Option T) (P : List Nat) (env : Env) (c : E) (body : List S) : exec Φ gl P (.whl c body) env = loopW (fun env => evB Φ gl env c) (execs Φ gl P body) 100000 env := by
  unfold exec
  rfl
theorem whl_out {c : Env → Res Bool} {f : Env → Out} {Post : Out → Prop} {Iv : Nat → Env → Prop} (h : ∀ k env, Iv k env → (c env = .ok false ∧ Post (.nx env)) ∨ (c env = .ok true ∧ ∃ env2 j, j < k ∧ f env = .nx env2 ∧ Iv j env2)) : ∀ (n k : Nat) (env : Env), k < n → Iv k env → Post (loopW c f n env)
  | 0, _, _, hk, _ => absurd hk (Nat.not_lt_zero _)
  | n + 1, k, env, hk, iv => by
    unfold loopW
    rcases h k env iv with ⟨h1, h2⟩ | ⟨h1, env2, j, hj, h2, h3⟩
    · rw [h1]; exact h2
    · rw [h1]
      simp only [h2]
      exact whl_out h n j env2 (by omega) h3
@[simp] theorem cmp_inl (i : Int) (ns : List Int) : cmpT .in_ (.int i) (.nod .lst (ns.map .int)) = .ok (decide (i ∈ ns)) := by
  show (match ints? (ns.map T.int) with | some ns => Res.ok (decide (i ∈ ns)) | none => .stk) = _
  have : ints? (ns.map T.int) = some ns := by
    induction ns with
    | nil => rfl
    | cons n ns ih => rw [List.map_cons]; unfold ints?; rw [ih]; rfl
  rw [this]
@[simp] theorem cmp_ninl (i : Int) (ns : List Int) : cmpT .nin (.int i) (.nod .lst (ns.map .int)) = .ok (!decide (i ∈ ns)) := by
  show (match ints? (ns.map T.int) with | some ns => Res.ok (!decide (i ∈ ns)) | none => .stk) = _
  have : ints? (ns.map T.int) = some ns := by
    induction ns with
    | nil => rfl
    | cons n ns ih => rw [List.map_cons]; unfold ints?; rw [ih]; rfl
  rw [this]
/-! exceptions -/
@[simp] theorem ex_raise (Φ : Fns) (gl : Str → Option T) (P : List Nat) (env : Env) (C : Str) : exec Φ gl P (.raise C) env = if Φ.xcl C then .exc ⟨C, []⟩ env else .stk := by
  unfold exec
  rfl
def expR (Φ : Fns) (f : Str) (env : Env) : Res (List G) → Out
  | .ok gs => expO env (Φ.call f (G.args gs))
  | _ => .stk
@[simp] theorem ex_exp (Φ : Fns) (gl : Str → Option T) (P : List Nat) (env : Env) (f : Str) (es : List E) : exec Φ gl P (.exp f es) env = expR Φ f env (evs Φ gl env es) := by
  unfold exec expR
  rfl
@[simp] theorem expR_ok (Φ : Fns) (f : Str) (env : Env) (gs : List G) : expR Φ f env (.ok gs) = expO env (Φ.call f (G.args gs)) := rfl
def raise1V (C : Str) (t : T) (env : Env) : Option Str → Out
  | some f => if flatT t then .exc ⟨C, [(f, t)]⟩ env else .stk
  | none => .stk
def raise1W (Φ : Fns) (C : Str) (env : Env) : Res G → Out
  | .ok (.val t) => raise1V C t env (Φ.xin C)
  | _ => .stk
@[simp] theorem ex_raise1 (Φ : Fns) (gl : Str → Option T) (P : List Nat) (env : Env) (C : Str) (e : E) : exec Φ gl P (.raise1 C e) env = raise1W Φ C env (ev Φ gl env e) := by
  rw [exec]
  cases q : ev Φ gl env e with
  | ok g => cases g with
    | val t =>
      show (match Φ.xin C with | some f => _ | none => _) = raise1V C t env (Φ.xin C)
      cases Φ.xin C <;> rfl
    | nod o k gs => rfl
  | exc x => rfl
  | stk => rfl
@[simp] theorem raise1W_ok (Φ : Fns) (C : Str) (env : Env) (t : T) : raise1W Φ C env (.ok (.val t)) = raise1V C t env (Φ.xin C) := rfl
@[simp] theorem raise1V_int (C : Str) (i : Int) (env : Env) (f : Str) : raise1V C (.int i) env (some f) = .exc ⟨C, [(f, .int i)]⟩ env := rfl
@[simp] theorem expO_exc (env : Env) (x : Exn) (gs : List G) : expO env (.exc x gs) = .exc x env := rfl
@[simp] theorem expO_ok (env : Env) (r : G) (gs : List G) : expO env (.ok r gs) = if r.free then .nx env else .stk := rfl
theorem ex_try (Φ : Fns) (gl : Str → Option T) (P : List Nat) (env : Env) (body : List S) (C : Str) (i : Nat) (hs : List HS) : exec Φ gl P (.tryE body C i hs) env = if i ∉ P ∧ i < env.length then tryX Φ P C i hs (execs Φ gl P body env) else .stk := by
  unfold exec
  rfl
@[simp] theorem tryX_nx (Φ : Fns) (P : List Nat) (C : Str) (i : Nat) (hs : List HS) (env : Env) : tryX Φ P C i hs (.nx env) = .nx env := rfl
@[simp] theorem backC_exc (is : List Nat) (x : Exn) (env : Env) : backC is (.exc x env) = .exc x [] := rfl
end Bv
set_option maxRecDepth 100000
/-! Part 21: loops, texts, paths: plain lemmas. -/
namespace Bv
open PySem L2
theorem loop_out {st : T → Env → Option Env} {f : Env → Out} {Post : Out → Prop} : ∀ {ts : List T} {env : Env} {Iv : Nat → Env → Prop}, Iv 0 env →
    (∀ (i : Nat) t e, ts[i]? = some t → Iv i e → ∃ e1, st t e = some e1 ∧ match f e1 with | .nx e2 => Iv (i + 1) e2 | .cnt e2 => Iv (i + 1) e2 | .brk e2 => Post (.nx e2) | o => Post o) →
    (∀ e, Iv ts.length e → Post (.nx e)) → Post (loopT st f ts env)
  | [], env, Iv, h0, _, he => he env h0
  | t :: ts, env, Iv, h0, hs, he => by
    obtain ⟨e1, h1, h2⟩ := hs 0 t env rfl h0
    have again : ∀ e2, Iv 1 e2 → Post (loopT st f ts e2) := fun e2 h => loop_out (Iv := fun i => Iv (i + 1)) h (fun i t e ht => hs (i + 1) t e (by simpa using ht)) he
    unfold loopT
    rw [h1]
    simp only
    cases q : f e1 with
    | nx e2 => rw [q] at h2; exact again e2 h2
    | cnt e2 => rw [q] at h2; exact again e2 h2
    | brk e2 => rw [q] at h2; exact h2
    | ret g e2 => rw [q] at h2; exact h2
    | exc x e2 => rw [q] at h2; exact h2
    | stk => rw [q] at h2; exact h2
theorem execs_app {Φ : Fns} {gl : Str → Option T} {P : List Nat} : ∀ (a b : List S) (e : Bv.Env), execs Φ gl P (a ++ b) e = seqO Φ gl P b (execs Φ gl P a e) := by
  intro a
  induction a with
  | nil => intro b e; simp
  | cons s a ih =>
    intro b e
    simp only [List.cons_append, ex_cons]
    cases exec Φ gl P s e <;> simp [ih]
theorem rngT_get {lo : Int} {n i : Nat} {t : T} (h : (rngT lo n)[i]? = some t) : i < n ∧ t = .int (lo + i) := by
  unfold rngT at h
  rw [List.getElem?_map] at h
  cases q : (List.range n)[i]? with
  | none => rw [q] at h; cases h
  | some k =>
    rw [q] at h
    obtain ⟨h1, h2⟩ := List.getElem?_eq_some_iff.mp q
    rw [List.length_range] at h1
    rw [List.getElem_range] at h2
    subst h2
    exact ⟨h1, by cases h; rfl⟩
theorem rngT_len (lo : Int) (n : Nat) : (rngT lo n).length = n := by unfold rngT; rw [List.length_map, List.length_range]
/-! ### texts -/
/-- all of its signs are signs -/
def sOk (x : Str) : Prop := ∀ c ∈ x.cps.toList, c < 1114112
theorem sOk_iff (x : Str) : sOk x ↔ PyData.strOk x = true := by
  unfold sOk PyData.strOk
  rw [Array.all_eq_true_iff_forall_mem]
  constructor
  · intro h c hc; exact decide_eq_true (h c (Array.mem_toList_iff.mpr hc))
  · intro h c hc; exact of_decide_eq_true (h c (Array.mem_toList_iff.mp hc))
theorem cps_app (x y : Str) : (x ++ y).cps.toList = x.cps.toList ++ y.cps.toList := by
  show (x.cps ++ y.cps).toList = _
  simp
theorem sOk_app {x y : Str} (hx : sOk x) (hy : sOk y) : sOk (x ++ y) := by
  unfold sOk
  rw [cps_app]
  intro c hc
  rcases List.mem_append.mp hc with h | h
  · exact hx c h
  · exact hy c h
theorem len_app (x y : Str) : (x ++ y).length = x.length + y.length := strLen_append x y
theorem len_list (x : Str) : x.length = x.cps.toList.length := by unfold Str.length; simp
theorem sOk_cut {x : Str} (hx : sOk x) (lo hi : Option Int) : sOk (cutS x lo hi) := by
  unfold sOk cutS
  simp only
  intro c hc
  exact hx c (List.mem_of_mem_drop (List.mem_of_mem_take hc))
theorem len_cut (x : Str) (lo hi : Option Int) : (cutS x lo hi).length = (HT.sIx x.length x.length hi) - (HT.sIx x.length 0 lo) := by
  have h1 : HT.sIx x.length x.length hi ≤ x.length := HT.sIx_le _ _ (Nat.le_refl _) _
  rw [len_list]
  unfold cutS
  simp only [List.length_take, List.length_drop]
  rw [← len_list]
  omega
theorem atI_some {α : Type} {xs : List α} {i : Int} (h0 : 0 ≤ i) (h1 : i < xs.length) : ∃ c, atI xs i = some c ∧ c ∈ xs := by
  have e : i = ((i.toNat : Nat) : Int) := by omega
  have hl : i.toNat < xs.length := by omega
  obtain ⟨n, e2⟩ : ∃ n, n = i.toNat := ⟨_, rfl⟩
  rw [← e2] at e hl
  subst e
  exact ⟨xs[n], atI_nat (List.getElem?_eq_getElem hl), List.getElem_mem hl⟩
theorem idx_str {z : Str} {i : Int} (h0 : 0 ≤ i) (h1 : i < z.length) (hz : z.length ≤ sizeLine) (ok : sOk z) : ∃ s, idxG (.val (.str z)) i = .ok (.val (.str s)) ∧ sOk s ∧ s.length = 1 := by
  obtain ⟨c, e, hc⟩ := atI_some (xs := z.cps.toList) h0 (by rw [← len_list]; exact h1)
  refine ⟨⟨#[c]⟩, ?_, fun d hd => ?_, rfl⟩
  · unfold idxG
    simp only [G.parts]
    rw [e]
    simp only [if_pos hz]
  · have : d = c := by simpa using hd
    rw [this]; exact ok c hc
/-- plain signs alone -/
def aOk (x : Str) : Prop := ∀ c ∈ x.cps.toList, c < 128
theorem aOk.s {x : Str} (h : aOk x) : sOk x := fun c hc => Nat.lt_of_lt_of_le (h c hc) (by decide)
theorem aOk_app {x y : Str} (hx : aOk x) (hy : aOk y) : aOk (x ++ y) := by
  unfold aOk
  rw [cps_app]
  intro c hc
  rcases List.mem_append.mp hc with h | h
  · exact hx c h
  · exact hy c h
theorem aOk_cut {x : Str} (hx : aOk x) (lo hi : Option Int) : aOk (cutS x lo hi) := by
  unfold aOk cutS
  simp only
  intro c hc
  exact hx c (List.mem_of_mem_drop (List.mem_of_mem_take hc))
theorem idx_sign {z : Str} {i : Int} (h0 : 0 ≤ i) (h1 : i < z.length) (hz : z.length ≤ sizeLine) : ∃ c, idxG (.val (.str z)) i = .ok (.val (.str ⟨#[c]⟩)) ∧ c ∈ z.cps.toList := by
  obtain ⟨c, e, hc⟩ := atI_some (xs := z.cps.toList) h0 (by rw [← len_list]; exact h1)
  refine ⟨c, ?_, hc⟩
  unfold idxG
  simp only [G.parts]
  rw [e]
  simp only [if_pos hz]
theorem items_get {z : Str} {i : Nat} {t : T} (h : (strItems z)[i]? = some t) : ∃ c, z.cps.toList[i]? = some c ∧ t = .str ⟨#[c]⟩ := by
  unfold strItems at h
  rw [List.getElem?_map] at h
  cases q : z.cps.toList[i]? with
  | none => rw [q] at h; cases h
  | some c => rw [q] at h; exact ⟨c, rfl, by cases h; rfl⟩
theorem items_len (z : Str) : (strItems z).length = z.cps.toList.length := by unfold strItems; rw [List.length_map]
theorem all_take {p : Nat → Bool} {xs : List Nat} {i c : Nat} (h : xs[i]? = some c) : (xs.take (i + 1)).all p = ((xs.take i).all p && p c) := by
  rw [List.take_add_one, h, List.all_append]
  simp
/-! ### paths -/
def pathT (ps : List Str) : T := .nod .tup (ps.map .str)
def pOk (ps : List Str) : Prop := ∀ x ∈ ps, sOk x
theorem pds_strs : ∀ (ps : List Str), T.pds (ps.map .str) = some (ps.map .str)
  | [] => rfl
  | p :: ps => by
    show T.pds (.str p :: ps.map .str) = _
    unfold T.pds
    rw [pds_strs ps]
    rfl
theorem pd_path (ps : List Str) : (pathT ps).pd = some (.tuple (ps.map .str)) := by
  unfold pathT T.pd
  rw [pds_strs]
  rfl
theorem lay_strs : ∀ {ps : List Str}, pOk ps → PyData.canLayAll0 (ps.map .str) = true ∧ PyData.depthAll (ps.map .str) = 0
  | [], _ => ⟨rfl, rfl⟩
  | p :: ps, h => by
    obtain ⟨h1, h2⟩ := lay_strs (ps := ps) fun x hx => h x (List.mem_cons_of_mem _ hx)
    constructor
    · show PyData.canLayAll0 (.str p :: ps.map .str) = true
      simp only [PyData.canLayAll0, PyData.canLay0, h1, (sOk_iff p).mp (h p List.mem_cons_self), Bool.and_self]
    · show PyData.depthAll (.str p :: ps.map .str) = 0
      simp only [PyData.depthAll, PyData.depth, h2, Nat.max_self]
theorem shaped_path {ps : List Str} (h : pOk ps) : SeqAt.shaped (.tuple (ps.map .str)) = true := by
  obtain ⟨h1, h2⟩ := lay_strs h
  unfold SeqAt.shaped
  simp only [PyData.canLay0, PyData.depth, h1, h2, Bool.true_and]
  exact decide_eq_true (by omega)
theorem eqv_strs : ∀ (ps qs : List Str), PyData.eqvAll (ps.map .str) (qs.map .str) = decide (ps = qs)
  | [], [] => rfl
  | [], q :: qs => rfl
  | p :: ps, [] => rfl
  | p :: ps, q :: qs => by
    show PyData.eqvAll (.str p :: ps.map .str) (.str q :: qs.map .str) = _
    simp only [PyData.eqvAll, PyData.eqv, eqv_strs ps qs]
    by_cases e : p = q
    · subst e; simp
    · have : (p == q) = false := beq_eq_false_iff_ne.mpr e
      rw [this]
      simp [e]
theorem eqT_D {a b : T} (h : lenNe a b = false) : eqT a b = eqD a b := by unfold eqT; rw [h]; rfl
theorem eq_path {ps qs : List Str} (hp : pOk ps) (hq : pOk qs) : eqT (pathT ps) (pathT qs) = .ok (decide (ps = qs)) := by
  rw [eqT_D rfl]
  unfold eqD
  rw [pd_path, pd_path]
  simp only [shaped_path hp, shaped_path hq, Bool.and_self, if_true]
  simp only [PyData.eqv, eqv_strs]
theorem eq_str {x y : Str} (hx : sOk x) (hy : sOk y) : eqT (.str x) (.str y) = .ok (decide (x = y)) := by
  have sh : ∀ {z : Str}, sOk z → SeqAt.shaped (.str z) = true := fun {z} h => by
    unfold SeqAt.shaped
    simp only [PyData.canLay0, PyData.depth, (sOk_iff z).mp h, Bool.true_and]
    exact decide_eq_true (by omega)
  rw [eqT_D rfl]
  unfold eqD
  simp only [T.pd, sh hx, sh hy, Bool.and_self, if_true, PyData.eqv]
  by_cases e : x = y
  · subst e; simp
  · have : (x == y) = false := beq_eq_false_iff_ne.mpr e
    rw [this]; simp [e]
@[simp] theorem eq_int (i j : Int) : eqT (.int i) (.int j) = .ok (decide (i = j)) := by
  rw [eqT_D rfl]
  unfold eqD
  have sh : ∀ i : Int, SeqAt.shaped (.int i) = true := fun i => rfl
  simp only [T.pd, sh, Bool.and_self, if_true, PyData.eqv]
  by_cases e : i = j
  · subst e; simp
  · have : (i == j) = false := beq_eq_false_iff_ne.mpr e
    rw [this]; simp [e]
@[simp] theorem eq_bl (i j : Bool) : eqT (.bl i) (.bl j) = .ok (i == j) := by
  rw [eqT_D rfl]
  unfold eqD
  have sh : ∀ i : Bool, SeqAt.shaped (.bool i) = true := fun i => rfl
  simp only [T.pd, sh, Bool.and_self, if_true, PyData.eqv]
theorem cut_map {α β : Type} (f : α → β) (xs : List α) (lo hi : Option Int) : cutL (xs.map f) lo hi = (cutL xs lo hi).map f := by
  unfold cutL
  rw [List.length_map, ← List.map_drop, ← List.map_take]
@[simp] theorem len_path (ps : List Str) : lenT (pathT ps) = .ok (ps.length : Int) := by
  unfold pathT
  rw [len_tup, List.length_map]
@[simp] theorem slc_path (ps : List Str) (lo hi : Option Int) : slcG (.val (pathT ps)) lo hi = .ok (.val (pathT (cutL ps lo hi))) := by
  unfold pathT
  rw [slc_tup, cut_map]
theorem add_path {ps qs : List Str} (h : ps.length + qs.length ≤ sizeLine) : binG .add (.val (pathT ps)) (.val (pathT qs)) = .ok (.val (pathT (ps ++ qs))) := by
  unfold pathT
  rw [bin_addt, List.length_map, List.length_map, if_pos h, List.map_append]
theorem cut_mem {α : Type} {xs : List α} {lo hi : Option Int} {x : α} (h : x ∈ cutL xs lo hi) : x ∈ xs := List.mem_of_mem_drop (List.mem_of_mem_take h)
theorem cut_to {α : Type} (xs : List α) (n : Nat) : cutL xs none (some (n : Int)) = xs.take n := by
  unfold cutL
  rw [HT.sIx_none, HT.sIx_nat, List.drop_zero, Nat.sub_zero]
  by_cases h : n ≤ xs.length
  · rw [Nat.min_eq_left h]
  · rw [Nat.min_eq_right (by omega), List.take_length, List.take_of_length_le (by omega)]
theorem cut_from {α : Type} (xs : List α) (n : Nat) : cutL xs (some (n : Int)) none = xs.drop n := by
  unfold cutL
  rw [HT.sIx_none, HT.sIx_nat]
  by_cases h : n ≤ xs.length
  · rw [Nat.min_eq_left h]
    exact List.take_of_length_le (by rw [List.length_drop]; omega)
  · rw [Nat.min_eq_right (by omega), Nat.sub_self, List.take_zero, List.drop_of_length_le (by omega)]
/-! ### one of a tuple -/
theorem map_set' {α β : Type} (f : α → β) {xs : List α} {i : Nat} {x : α} (h : xs[i]? = some x) : (xs.map f)[i]? = some (f x) := by
  rw [List.getElem?_map, h]; rfl
theorem idx_tup {ts : List T} {i : Nat} {t : T} (h : ts[i]? = some t) : idxG (.val (.nod .tup ts)) (i : Int) = .ok (.val t) := by
  show (match atI (ts.map G.val) (i : Int) with | some x => Res.ok x | none => .stk) = _
  rw [atI_nat (map_set' G.val h)]
theorem idx_lst {ts : List T} {i : Nat} {t : T} (h : ts[i]? = some t) : idxG (.val (.nod .lst ts)) (i : Int) = .ok (.val t) := by
  show (match atI (ts.map G.val) (i : Int) with | some x => Res.ok x | none => .stk) = _
  rw [atI_nat (map_set' G.val h)]
theorem idx_nlst {o : Bool} {ts : List T} {i : Nat} {t : T} (h : ts[i]? = some t) : idxG (.nod o .lst (ts.map .val)) (i : Int) = .ok (.val t) := by
  show (match atI (ts.map G.val) (i : Int) with | some x => Res.ok x | none => .stk) = _
  rw [atI_nat (map_set' G.val h)]
theorem atI_last {α : Type} (xs : List α) (x : α) : atI (xs ++ [x]) (-1) = some x := by
  have e : ixN (xs ++ [x]).length (-1) = some xs.length := by
    unfold ixN
    simp
    omega
  unfold atI
  rw [e]
  simp
theorem idx_last (ts : List T) (t : T) : idxG (.val (.nod .tup (ts ++ [t]))) (-1) = .ok (.val t) := by
  show (match atI ((ts ++ [t]).map G.val) (-1) with | some x => Res.ok x | none => .stk) = _
  rw [List.map_append]
  simp only [List.map_cons, List.map_nil, atI_last]
theorem cut_init {α : Type} (xs : List α) (x : α) : cutL (xs ++ [x]) none (some (-1)) = xs := by
  unfold cutL HT.sIx
  simp
  have : ((-1 : Int) + (xs.length + 1)).toNat = xs.length := by omega
  rw [this, List.take_left']
  rfl
/-! ### isinstance -/
theorem isi_of {t : T} {m n : String} {b : Bool} (h : tyOf t = some m) (k : kitB m n = some b) : isiT t (.ty n) = .ok b := by
  unfold isiT
  rw [h]
  simp only [k]
@[simp] theorem isi_bl_bool (b : Bool) : isiT (.bl b) (.ty "bool") = .ok true := isi_of rfl (by decide +kernel)
@[simp] theorem isi_bl_str (b : Bool) : isiT (.bl b) (.ty "str") = .ok false := isi_of rfl (by decide +kernel)
@[simp] theorem isi_bl_tuple (b : Bool) : isiT (.bl b) (.ty "tuple") = .ok false := isi_of rfl (by decide +kernel)
@[simp] theorem isi_bl_int (b : Bool) : isiT (.bl b) (.ty "int") = .ok true := isi_of rfl (by decide +kernel)
@[simp] theorem isi_bl_list (b : Bool) : isiT (.bl b) (.ty "list") = .ok false := isi_of rfl (by decide +kernel)
@[simp] theorem isi_bl_dict (b : Bool) : isiT (.bl b) (.ty "dict") = .ok false := isi_of rfl (by decide +kernel)
@[simp] theorem isi_int_bool (i : Int) : isiT (.int i) (.ty "bool") = .ok false := isi_of rfl (by decide +kernel)
@[simp] theorem isi_int_str (i : Int) : isiT (.int i) (.ty "str") = .ok false := isi_of rfl (by decide +kernel)
@[simp] theorem isi_int_tuple (i : Int) : isiT (.int i) (.ty "tuple") = .ok false := isi_of rfl (by decide +kernel)
@[simp] theorem isi_int_int (i : Int) : isiT (.int i) (.ty "int") = .ok true := isi_of rfl (by decide +kernel)
@[simp] theorem isi_int_list (i : Int) : isiT (.int i) (.ty "list") = .ok false := isi_of rfl (by decide +kernel)
@[simp] theorem isi_int_dict (i : Int) : isiT (.int i) (.ty "dict") = .ok false := isi_of rfl (by decide +kernel)
@[simp] theorem isi_str_bool (s : Str) : isiT (.str s) (.ty "bool") = .ok false := isi_of rfl (by decide +kernel)
@[simp] theorem isi_str_str (s : Str) : isiT (.str s) (.ty "str") = .ok true := isi_of rfl (by decide +kernel)
@[simp] theorem isi_str_tuple (s : Str) : isiT (.str s) (.ty "tuple") = .ok false := isi_of rfl (by decide +kernel)
@[simp] theorem isi_str_int (s : Str) : isiT (.str s) (.ty "int") = .ok false := isi_of rfl (by decide +kernel)
@[simp] theorem isi_str_list (s : Str) : isiT (.str s) (.ty "list") = .ok false := isi_of rfl (by decide +kernel)
@[simp] theorem isi_str_dict (s : Str) : isiT (.str s) (.ty "dict") = .ok false := isi_of rfl (by decide +kernel)
@[simp] theorem isi_tup_bool (ts : List T) : isiT (.nod .tup ts) (.ty "bool") = .ok false := isi_of rfl (by decide +kernel)
@[simp] theorem isi_tup_str (ts : List T) : isiT (.nod .tup ts) (.ty "str") = .ok false := isi_of rfl (by decide +kernel)
@[simp] theorem isi_tup_tuple (ts : List T) : isiT (.nod .tup ts) (.ty "tuple") = .ok true := isi_of rfl (by decide +kernel)
@[simp] theorem isi_tup_int (ts : List T) : isiT (.nod .tup ts) (.ty "int") = .ok false := isi_of rfl (by decide +kernel)
@[simp] theorem isi_tup_list (ts : List T) : isiT (.nod .tup ts) (.ty "list") = .ok false := isi_of rfl (by decide +kernel)
@[simp] theorem isi_tup_dict (ts : List T) : isiT (.nod .tup ts) (.ty "dict") = .ok false := isi_of rfl (by decide +kernel)
@[simp] theorem isi_lst_bool (ts : List T) : isiT (.nod .lst ts) (.ty "bool") = .ok false := isi_of rfl (by decide +kernel)
@[simp] theorem isi_lst_str (ts : List T) : isiT (.nod .lst ts) (.ty "str") = .ok false := isi_of rfl (by decide +kernel)
@[simp] theorem isi_lst_tuple (ts : List T) : isiT (.nod .lst ts) (.ty "tuple") = .ok false := isi_of rfl (by decide +kernel)
@[simp] theorem isi_lst_int (ts : List T) : isiT (.nod .lst ts) (.ty "int") = .ok false := isi_of rfl (by decide +kernel)
@[simp] theorem isi_lst_list (ts : List T) : isiT (.nod .lst ts) (.ty "list") = .ok true := isi_of rfl (by decide +kernel)
@[simp] theorem isi_lst_dict (ts : List T) : isiT (.nod .lst ts) (.ty "dict") = .ok false := isi_of rfl (by decide +kernel)
@[simp] theorem isi_non_bool  : isiT (.non) (.ty "bool") = .ok false := isi_of rfl (by decide +kernel)
@[simp] theorem isi_non_str  : isiT (.non) (.ty "str") = .ok false := isi_of rfl (by decide +kernel)
@[simp] theorem isi_non_tuple  : isiT (.non) (.ty "tuple") = .ok false := isi_of rfl (by decide +kernel)
@[simp] theorem isi_non_int  : isiT (.non) (.ty "int") = .ok false := isi_of rfl (by decide +kernel)
@[simp] theorem isi_non_list  : isiT (.non) (.ty "list") = .ok false := isi_of rfl (by decide +kernel)
@[simp] theorem isi_non_dict  : isiT (.non) (.ty "dict") = .ok false := isi_of rfl (by decide +kernel)
/-! ### sizes of numbers -/
theorem small_ok {i : Int} (h0 : 0 ≤ i) (h1 : i ≤ 1000000000) : smallI i = true := by
  unfold smallI
  simp only [Bool.and_eq_true, decide_eq_true_eq]
  omega
theorem small_len {α : Type} {xs : List α} (h : xs.length ≤ 1000000000) : smallI (xs.length : Int) = true := small_ok (Int.natCast_nonneg _) (by omega)
/-- a number of few digits (kept shut, so that no tactic reckons the power) -/
def Few (k : Nat) (a : Int) : Prop := a.natAbs < 2 ^ k
theorem few_le {k m : Nat} {a : Int} (h : Few k a) (l : k ≤ m) : Few m a := Nat.lt_of_lt_of_le h (Nat.pow_le_pow_right (by omega) l)
theorem few_add {k : Nat} {a b : Int} (ha : Few k a) (hb : Few k b) : Few (k + 1) (a + b) := by
  unfold Few at *
  rw [Nat.pow_succ]
  omega
theorem few_sub {k : Nat} {a b : Int} (ha : Few k a) (hb : Few k b) : Few (k + 1) (a - b) := by
  unfold Few at *
  rw [Nat.pow_succ]
  omega
theorem few_mul {k m : Nat} {a b : Int} (ha : Few k a) (hb : Few m b) : Few (k + m) (a * b) := by
  unfold Few at *
  rw [Nat.pow_add, Int.natAbs_mul]
  exact Nat.mul_lt_mul'' ha hb
theorem few_of {k : Nat} {a : Int} (n : Nat) (h : a.natAbs < n) (hn : n ≤ 2 ^ k) : Few k a := Nat.lt_of_lt_of_le h hn
theorem log_mul {a b : Int} {k m : Nat} (ha : Few k a) (hb : Few m b) (h : k + m ≤ 99999999) : mulOk a b = true := by
  unfold mulOk
  have f : ∀ {x : Int} {n : Nat}, x.natAbs < 2 ^ n → x.natAbs.log2 ≤ n := fun {x n} h => by
    by_cases z : x.natAbs = 0
    · rw [z]; simp
    · exact Nat.le_of_lt ((Nat.log2_lt z).mpr h)
  have h1 := f ha
  have h2 := f hb
  exact decide_eq_true (by omega)
theorem few_div {a : Int} {k : Nat} {m : Int} (hm : 0 < m) (h : Few k a) : Few k (a / m) := by
  unfold Few at *
  have k1 : a / m * m ≤ a := Int.ediv_mul_le a (by omega)
  have h1 : a / m ≤ a.natAbs := by
    rcases Int.le_total 0 a with z | z
    · have := Int.ediv_le_self m z; omega
    · have : a / m ≤ 0 := by
        by_cases q : a / m ≤ 0
        · exact q
        · have := Int.mul_le_mul_of_nonneg_right (show (1 : Int) ≤ a / m by omega) (Int.le_of_lt hm)
          omega
      omega
  have h2 : -(a.natAbs : Int) ≤ a / m := by
    rcases Int.le_total 0 a with z | z
    · have := Int.ediv_nonneg z (Int.le_of_lt hm); omega
    · refine (Int.le_ediv_iff_mul_le hm).mpr ?_
      have e : (a.natAbs : Int) = -a := by omega
      rw [e, Int.neg_neg]
      have : a * m ≤ a * 1 := Int.mul_le_mul_of_nonpos_left z (by omega)
      omega
  omega
/-! ### lists of lists -/
@[simp] theorem vals_cons_nod (o : Bool) (k : Kd) (gs hs : List G) : G.vals? (.nod o k gs :: hs) = none := rfl
@[simp] theorem bif_list (ts : List T) : bifG .list [.val (.nod .lst ts)] = .ok (.nod true .lst (ts.map .val)) := by
  show (match (G.val (.nod .lst ts)).items with | some ts => Res.ok (G.own .lst ts) | none => .stk) = _
  rw [items_vlst]
  rfl
abbrev bL (r : List T) : G := .nod false .lst (r.map .val)
@[simp] theorem bors_rows (R : List (List T)) : G.bors (R.map gL) = R.map bL := by
  induction R with
  | nil => simp
  | cons r R ih => simp only [List.map_cons, bors_cons, ih, bor_nod, bors_vals]
@[simp] theorem frees_rows (R : List (List T)) : G.frees (R.map gL) = true := by
  induction R with
  | nil => simp
  | cons r R ih => simp [ih]
@[simp] theorem toTs_rows (R : List (List T)) : G.toTs (R.map gL) = R.map fun r => T.nod .lst r := by
  induction R with
  | nil => simp
  | cons r R ih => simp only [List.map_cons, toTs_cons, ih, toT_nod, toTs_vals]
theorem idx_row {R : List (List T)} {j : Nat} {r : List T} (h : R[j]? = some r) : idxG (.nod false .lst (R.map bL)) (j : Int) = .ok (bL r) := by
  show (match atI (R.map bL) (j : Int) with | some x => Res.ok x | none => .stk) = _
  rw [atI_nat (map_set' bL h)]
mutual
theorem pd_refl : ∀ {t : T} {d : PyData}, t.pd = some d → PyData.eqv d d = true
  | .non, _, h => by cases h; rfl
  | .bl b, _, h => by cases h; cases b <;> rfl
  | .int i, _, h => by cases h; simp [PyData.eqv]
  | .str s, _, h => by cases h; simp [PyData.eqv]
  | .nod .tup ts, _, h => by
    unfold T.pd at h
    cases q : T.pds ts with
    | none => rw [q] at h; cases h
    | some ds => rw [q] at h; cases h; simp only [PyData.eqv]; exact pds_refl q
  | .nod .lst ts, _, h => by
    unfold T.pd at h
    cases q : T.pds ts with
    | none => rw [q] at h; cases h
    | some ds => rw [q] at h; cases h; simp only [PyData.eqv]; exact pds_refl q
  | .nod (.dct _) _, _, h => by cases h
  | .nod (.ins _ _) _, _, h => by cases h
theorem pds_refl : ∀ {ts : List T} {ds : List PyData}, T.pds ts = some ds → PyData.eqvAll ds ds = true
  | [], _, h => by cases h; rfl
  | t :: ts, _, h => by
    unfold T.pds at h
    cases q : t.pd with
    | none => rw [q] at h; cases h
    | some d =>
      cases q2 : T.pds ts with
      | none => rw [q, q2] at h; cases h
      | some ds => rw [q, q2] at h; cases h; simp only [PyData.eqvAll, pd_refl q, pds_refl q2, Bool.and_self]
end
theorem eqT_refl {t : T} {d : PyData} (h : t.pd = some d) (s : SeqAt.shaped d = true) : eqT t t = .ok true := by
  rw [eqT_D (by unfold lenNe; split <;> simp)]
  unfold eqD
  rw [h]
  simp only [s, Bool.and_self, if_true, pd_refl h]
/-- an int or None -/
def plainI : T → Bool
  | .int _ => true
  | .non => true
  | _ => false
theorem pds_plain : ∀ {ts : List T}, (∀ t ∈ ts, plainI t = true) → ∃ ds, T.pds ts = some ds ∧ PyData.canLayAll0 ds = true ∧ PyData.depthAll ds = 0
  | [], _ => ⟨[], rfl, rfl, rfl⟩
  | t :: ts, h => by
    obtain ⟨ds, h1, h2, h3⟩ := pds_plain fun t ht => h t (List.mem_cons_of_mem _ ht)
    have ht := h t List.mem_cons_self
    have one : ∃ d, t.pd = some d ∧ PyData.canLay0 d = true ∧ PyData.depth d = 0 := by
      cases t with
      | int i => exact ⟨_, rfl, rfl, rfl⟩
      | non => exact ⟨_, rfl, rfl, rfl⟩
      | bl _ => cases ht
      | str _ => cases ht
      | nod _ _ => cases ht
    obtain ⟨d, e1, e2, e3⟩ := one
    refine ⟨d :: ds, ?_, ?_, ?_⟩
    · unfold T.pds; rw [e1, h1]
    · simp only [PyData.canLayAll0, e2, h2, Bool.and_self]
    · simp only [PyData.depthAll, e3, h3, Nat.max_self]
theorem enmT_get {ts : List T} {i : Nat} {t : T} (h : (enmT ts)[i]? = some t) : ∃ x, ts[i]? = some x ∧ t = .nod .tup [.int (i : Nat), x] := by
  unfold enmT at h
  rw [List.getElem?_map, List.getElem?_zipIdx] at h
  cases q : ts[i]? with
  | none => rw [q] at h; cases h
  | some x => rw [q] at h; simp at h; exact ⟨x, rfl, h.symm⟩
theorem enmT_len (ts : List T) : (enmT ts).length = ts.length := by unfold enmT; rw [List.length_map, List.length_zipIdx]
@[simp] theorem cmp_nis (a : T) : cmpT .nis a .non = .ok (!isNon a) := rfl
@[simp] theorem cmp_is (a : T) : cmpT .is a .non = .ok (isNon a) := rfl
@[simp] theorem isNon_non : isNon .non = true := rfl
@[simp] theorem isNon_int (i : Int) : isNon (.int i) = false := rfl
@[simp] theorem isNon_nod (k : Kd) (ts : List T) : isNon (.nod k ts) = false := rfl
/-! ### built-ins of one list -/
@[simp] theorem ints_map : ∀ ns : List Int, ints? (ns.map .int) = some ns
  | [] => rfl
  | n :: ns => by show (ints? (ns.map .int)).map (n :: ·) = _; rw [ints_map ns]; rfl
@[simp] theorem bls_map : ∀ ns : List Bool, bls? (ns.map .bl) = some ns
  | [] => rfl
  | n :: ns => by show (bls? (ns.map .bl)).map (n :: ·) = _; rw [bls_map ns]; rfl
theorem bif_sum {g : G} {ns : List Int} (h : lstItems g = some (ns.map .int)) : bifG .sum [g] = .ok (.val (.int ns.sum)) := by
  show (match (lstItems g).bind ints? with | some ns => Res.ok (G.val (.int ns.sum)) | none => .stk) = _
  rw [h]
  simp
theorem bif_min {g : G} {n : Int} {ns : List Int} (h : lstItems g = some ((n :: ns).map .int)) : bifG .min [g] = .ok (.val (.int (ns.foldl min n))) := by
  show (match ((lstItems g).bind ints?).bind minI with | some m => Res.ok (G.val (.int m)) | none => .stk) = _
  rw [h]
  simp only [Option.bind_some, ints_map]
  rfl
theorem bif_any {g : G} {bs : List Bool} (h : lstItems g = some (bs.map .bl)) : bifG .any [g] = .ok (.val (.bl (bs.any id))) := by
  show (match (lstItems g).bind bls? with | some bs => Res.ok (G.val (.bl (bs.any id))) | none => .stk) = _
  rw [h]
  simp
/-- a value that == can ask: no dict, no instance, signs that are signs, at most n deep -/
def wfT : Nat → T → Prop
  | _, .non => True
  | _, .bl _ => True
  | _, .int _ => True
  | _, .str s => sOk s
  | n + 1, .nod .tup ts => ∀ t ∈ ts, wfT n t
  | n + 1, .nod .lst ts => ∀ t ∈ ts, wfT n t
  | _, .nod _ _ => False
theorem wf_pds {n : Nat} {ts : List T} (ih : ∀ t ∈ ts, ∃ d, t.pd = some d ∧ PyData.canLay0 d = true ∧ PyData.depth d ≤ n) : ∃ ds, T.pds ts = some ds ∧ PyData.canLayAll0 ds = true ∧ PyData.depthAll ds ≤ n := by
  induction ts with
  | nil => exact ⟨[], rfl, rfl, Nat.zero_le _⟩
  | cons t ts iht =>
    obtain ⟨d, e1, e2, e3⟩ := ih t List.mem_cons_self
    obtain ⟨ds, h1, h2, h3⟩ := iht fun t ht => ih t (List.mem_cons_of_mem _ ht)
    refine ⟨d :: ds, by unfold T.pds; rw [e1, h1], ?_, ?_⟩
    · simp only [PyData.canLayAll0, e2, h2, Bool.and_self]
    · simp only [PyData.depthAll]; exact Nat.max_le.mpr ⟨e3, h3⟩
theorem wf_pd : ∀ {n : Nat} {t : T}, wfT n t → ∃ d, t.pd = some d ∧ PyData.canLay0 d = true ∧ PyData.depth d ≤ n := by
  intro n
  induction n with
  | zero =>
    intro t h
    cases t with
    | non => exact ⟨_, rfl, rfl, Nat.le_refl _⟩
    | bl b => exact ⟨_, rfl, rfl, Nat.le_refl _⟩
    | int i => exact ⟨_, rfl, rfl, Nat.le_refl _⟩
    | str s => exact ⟨_, rfl, (sOk_iff s).mp h, Nat.le_refl _⟩
    | nod k ts => cases k <;> exact absurd h (by simp [wfT])
  | succ n ih =>
    intro t h
    cases t with
    | non => exact ⟨_, rfl, rfl, Nat.zero_le _⟩
    | bl b => exact ⟨_, rfl, rfl, Nat.zero_le _⟩
    | int i => exact ⟨_, rfl, rfl, Nat.zero_le _⟩
    | str s => exact ⟨_, rfl, (sOk_iff s).mp h, Nat.zero_le _⟩
    | nod k ts =>
      cases k with
      | tup =>
        obtain ⟨ds, h1, h2, h3⟩ := wf_pds fun t ht => ih (h t ht)
        refine ⟨.tuple ds, by unfold T.pd; rw [h1]; rfl, by simpa only [PyData.canLay0] using h2, ?_⟩
        simp only [PyData.depth]; omega
      | lst =>
        obtain ⟨ds, h1, h2, h3⟩ := wf_pds fun t ht => ih (h t ht)
        refine ⟨.list ds, by unfold T.pd; rw [h1]; rfl, by simpa only [PyData.canLay0] using h2, ?_⟩
        simp only [PyData.depth]; omega
      | dct _ => exact absurd h (by simp [wfT])
      | ins _ _ => exact absurd h (by simp [wfT])
theorem eq_self {n : Nat} {t : T} (h : wfT n t) (hn : n ≤ 64) : eqT t t = .ok true := by
  obtain ⟨d, h1, h2, h3⟩ := wf_pd h
  refine eqT_refl h1 ?_
  unfold SeqAt.shaped
  rw [h2, Bool.true_and]
  exact decide_eq_true (by omega)
theorem wf_path {ps : List Str} (h : pOk ps) (n : Nat) : wfT (n + 1) (pathT ps) := by
  intro t ht
  obtain ⟨x, hx, rfl⟩ := List.mem_map.mp ht
  cases n <;> exact h x hx
@[simp] theorem tup1_0 (x0 : T) : idxG (.val (.nod .tup [x0])) 0 = .ok (.val x0) := rfl
@[simp] theorem tup2_0 (x0 x1 : T) : idxG (.val (.nod .tup [x0, x1])) 0 = .ok (.val x0) := rfl
@[simp] theorem tup2_1 (x0 x1 : T) : idxG (.val (.nod .tup [x0, x1])) 1 = .ok (.val x1) := rfl
@[simp] theorem tup3_0 (x0 x1 x2 : T) : idxG (.val (.nod .tup [x0, x1, x2])) 0 = .ok (.val x0) := rfl
@[simp] theorem tup3_1 (x0 x1 x2 : T) : idxG (.val (.nod .tup [x0, x1, x2])) 1 = .ok (.val x1) := rfl
@[simp] theorem tup3_2 (x0 x1 x2 : T) : idxG (.val (.nod .tup [x0, x1, x2])) 2 = .ok (.val x2) := rfl
@[simp] theorem tup4_0 (x0 x1 x2 x3 : T) : idxG (.val (.nod .tup [x0, x1, x2, x3])) 0 = .ok (.val x0) := rfl
@[simp] theorem tup4_1 (x0 x1 x2 x3 : T) : idxG (.val (.nod .tup [x0, x1, x2, x3])) 1 = .ok (.val x1) := rfl
@[simp] theorem tup4_2 (x0 x1 x2 x3 : T) : idxG (.val (.nod .tup [x0, x1, x2, x3])) 2 = .ok (.val x2) := rfl
@[simp] theorem tup4_3 (x0 x1 x2 x3 : T) : idxG (.val (.nod .tup [x0, x1, x2, x3])) 3 = .ok (.val x3) := rfl
@[simp] theorem tup5_0 (x0 x1 x2 x3 x4 : T) : idxG (.val (.nod .tup [x0, x1, x2, x3, x4])) 0 = .ok (.val x0) := rfl
@[simp] theorem tup5_1 (x0 x1 x2 x3 x4 : T) : idxG (.val (.nod .tup [x0, x1, x2, x3, x4])) 1 = .ok (.val x1) := rfl
@[simp] theorem tup5_2 (x0 x1 x2 x3 x4 : T) : idxG (.val (.nod .tup [x0, x1, x2, x3, x4])) 2 = .ok (.val x2) := rfl
@[simp] theorem tup5_3 (x0 x1 x2 x3 x4 : T) : idxG (.val (.nod .tup [x0, x1, x2, x3, x4])) 3 = .ok (.val x3) := rfl
@[simp] theorem tup5_4 (x0 x1 x2 x3 x4 : T) : idxG (.val (.nod .tup [x0, x1, x2, x3, x4])) 4 = .ok (.val x4) := rfl
@[simp] theorem tup6_0 (x0 x1 x2 x3 x4 x5 : T) : idxG (.val (.nod .tup [x0, x1, x2, x3, x4, x5])) 0 = .ok (.val x0) := rfl
@[simp] theorem tup6_1 (x0 x1 x2 x3 x4 x5 : T) : idxG (.val (.nod .tup [x0, x1, x2, x3, x4, x5])) 1 = .ok (.val x1) := rfl
@[simp] theorem tup6_2 (x0 x1 x2 x3 x4 x5 : T) : idxG (.val (.nod .tup [x0, x1, x2, x3, x4, x5])) 2 = .ok (.val x2) := rfl
@[simp] theorem tup6_3 (x0 x1 x2 x3 x4 x5 : T) : idxG (.val (.nod .tup [x0, x1, x2, x3, x4, x5])) 3 = .ok (.val x3) := rfl
@[simp] theorem tup6_4 (x0 x1 x2 x3 x4 x5 : T) : idxG (.val (.nod .tup [x0, x1, x2, x3, x4, x5])) 4 = .ok (.val x4) := rfl
@[simp] theorem tup6_5 (x0 x1 x2 x3 x4 x5 : T) : idxG (.val (.nod .tup [x0, x1, x2, x3, x4, x5])) 5 = .ok (.val x5) := rfl
@[simp] theorem lst1_0 (x0 : T) : idxG (.val (.nod .lst [x0])) 0 = .ok (.val x0) := rfl
@[simp] theorem lst2_0 (x0 x1 : T) : idxG (.val (.nod .lst [x0, x1])) 0 = .ok (.val x0) := rfl
@[simp] theorem lst2_1 (x0 x1 : T) : idxG (.val (.nod .lst [x0, x1])) 1 = .ok (.val x1) := rfl
@[simp] theorem lst3_0 (x0 x1 x2 : T) : idxG (.val (.nod .lst [x0, x1, x2])) 0 = .ok (.val x0) := rfl
@[simp] theorem lst3_1 (x0 x1 x2 : T) : idxG (.val (.nod .lst [x0, x1, x2])) 1 = .ok (.val x1) := rfl
@[simp] theorem lst3_2 (x0 x1 x2 : T) : idxG (.val (.nod .lst [x0, x1, x2])) 2 = .ok (.val x2) := rfl
@[simp] theorem lst4_0 (x0 x1 x2 x3 : T) : idxG (.val (.nod .lst [x0, x1, x2, x3])) 0 = .ok (.val x0) := rfl
@[simp] theorem lst4_1 (x0 x1 x2 x3 : T) : idxG (.val (.nod .lst [x0, x1, x2, x3])) 1 = .ok (.val x1) := rfl
@[simp] theorem lst4_2 (x0 x1 x2 x3 : T) : idxG (.val (.nod .lst [x0, x1, x2, x3])) 2 = .ok (.val x2) := rfl
@[simp] theorem lst4_3 (x0 x1 x2 x3 : T) : idxG (.val (.nod .lst [x0, x1, x2, x3])) 3 = .ok (.val x3) := rfl
@[simp] theorem lst5_0 (x0 x1 x2 x3 x4 : T) : idxG (.val (.nod .lst [x0, x1, x2, x3, x4])) 0 = .ok (.val x0) := rfl
@[simp] theorem lst5_1 (x0 x1 x2 x3 x4 : T) : idxG (.val (.nod .lst [x0, x1, x2, x3, x4])) 1 = .ok (.val x1) := rfl
@[simp] theorem lst5_2 (x0 x1 x2 x3 x4 : T) : idxG (.val (.nod .lst [x0, x1, x2, x3, x4])) 2 = .ok (.val x2) := rfl
@[simp] theorem lst5_3 (x0 x1 x2 x3 x4 : T) : idxG (.val (.nod .lst [x0, x1, x2, x3, x4])) 3 = .ok (.val x3) := rfl
@[simp] theorem lst5_4 (x0 x1 x2 x3 x4 : T) : idxG (.val (.nod .lst [x0, x1, x2, x3, x4])) 4 = .ok (.val x4) := rfl
@[simp] theorem lst6_0 (x0 x1 x2 x3 x4 x5 : T) : idxG (.val (.nod .lst [x0, x1, x2, x3, x4, x5])) 0 = .ok (.val x0) := rfl
@[simp] theorem lst6_1 (x0 x1 x2 x3 x4 x5 : T) : idxG (.val (.nod .lst [x0, x1, x2, x3, x4, x5])) 1 = .ok (.val x1) := rfl
@[simp] theorem lst6_2 (x0 x1 x2 x3 x4 x5 : T) : idxG (.val (.nod .lst [x0, x1, x2, x3, x4, x5])) 2 = .ok (.val x2) := rfl
@[simp] theorem lst6_3 (x0 x1 x2 x3 x4 x5 : T) : idxG (.val (.nod .lst [x0, x1, x2, x3, x4, x5])) 3 = .ok (.val x3) := rfl
@[simp] theorem lst6_4 (x0 x1 x2 x3 x4 x5 : T) : idxG (.val (.nod .lst [x0, x1, x2, x3, x4, x5])) 4 = .ok (.val x4) := rfl
@[simp] theorem lst6_5 (x0 x1 x2 x3 x4 x5 : T) : idxG (.val (.nod .lst [x0, x1, x2, x3, x4, x5])) 5 = .ok (.val x5) := rfl
section
variable {α : Type} (f : α → T) (xs : List α)
theorem mapv_eq : (xs.map fun x => G.val (f x)) = (xs.map f).map .val := by rw [List.map_map]; rfl
@[simp] theorem bors_mapv : G.bors (xs.map fun x => G.val (f x)) = xs.map fun x => G.val (f x) := by rw [mapv_eq, bors_vals]
@[simp] theorem toTs_mapv : G.toTs (xs.map fun x => G.val (f x)) = xs.map f := by rw [mapv_eq, toTs_vals]
@[simp] theorem vals_mapv : G.vals? (xs.map fun x => G.val (f x)) = some (xs.map f) := by rw [mapv_eq, vals_vals]
@[simp] theorem frees_mapv : G.frees (xs.map fun x => G.val (f x)) = true := by rw [mapv_eq, frees_vals]
end
theorem eq_nil (xs : List T) : eqT (.nod .lst xs) (.nod .lst []) = .ok xs.isEmpty := by
  cases xs with
  | nil => rfl
  | cons x xs => rfl
@[simp] theorem eq_nil0 : eqT (.nod .lst []) (.nod .lst []) = .ok true := rfl
@[simp] theorem eq_nil1 (x : T) (xs : List T) : eqT (.nod .lst (x :: xs)) (.nod .lst []) = .ok false := rfl
theorem lcT_mapG {st : T → Env → Option Env} {c : Env → Res Bool} {f : Env → Res G} {env : Env} (h : T → G) : ∀ {ts : List T}, (∀ t ∈ ts, ∃ e1, st t env = some e1 ∧ c e1 = .ok true ∧ f e1 = .ok (h t) ∧ (h t).free = true) → lcT st c f env ts = .ok (ts.map h)
  | [], _ => rfl
  | t :: ts, H => by
    obtain ⟨e1, h1, h2, h3, h4⟩ := H t List.mem_cons_self
    unfold lcT
    rw [h1]
    simp only [h2, h3, Res.bind, h4, if_true]
    rw [lcT_mapG h fun t ht => H t (List.mem_cons_of_mem _ ht)]
    rfl
end Bv
set_option maxRecDepth 100000
/-! Part 22: texts: what their methods give. -/
namespace Bv
open PySem L2
section
variable (Φ : Fns) (a b : Str) (ts : List T) (ys : List Str)
theorem me_split : methG Φ "split" (.val (.str a)) [.val (.str b)] = if b.length ≠ 0 ∧ a.length + 2 ≤ sizeLine then .ok (.nod true .lst (((Txt.split a b).map T.str).map .val)) else .stk := by
  show bmG "split" (.val (.str a)) [.val (.str b)] = _
  unfold bmG
  rw [if_neg (by decide)]
  show smG "split" a b = _
  unfold smG
  rw [if_pos rfl]
  rfl
theorem me_partition : methG Φ "partition" (.val (.str a)) [.val (.str b)] = if b.length ≠ 0 ∧ a.length ≤ sizeLine then .ok (.val (.nod .tup [.str (Txt.partition a b).1, .str (Txt.partition a b).2.1, .str (Txt.partition a b).2.2])) else .stk := by
  show bmG "partition" (.val (.str a)) [.val (.str b)] = _
  unfold bmG
  rw [if_neg (by decide)]
  show smG "partition" a b = _
  unfold smG
  rw [if_neg (by decide), if_pos rfl]
theorem me_startswith : methG Φ "startswith" (.val (.str a)) [.val (.str b)] = .ok (.val (.bl (Txt.startswith a b))) := by
  show bmG "startswith" (.val (.str a)) [.val (.str b)] = _
  unfold bmG
  rw [if_neg (by decide)]
  show smG "startswith" a b = _
  unfold smG
  rw [if_neg (by decide), if_neg (by decide), if_pos rfl]
theorem strs_map : ∀ ys : List Str, strs? (ys.map .str) = some ys
  | [] => rfl
  | y :: ys => by
    show strs? (.str y :: ys.map .str) = _
    unfold strs?
    rw [strs_map ys]; rfl
theorem me_joinG (x : G) (h : ∀ s, x ≠ .val (.str s)) : methG Φ "join" (.val (.str a)) [x] = joinG "join" a x := by
  show bmG "join" (.val (.str a)) [x] = _
  unfold bmG
  rw [if_neg (by decide)]
  cases x with
  | nod o k gs => rfl
  | val t =>
    cases t with
    | str s => exact absurd rfl (h s)
    | _ => rfl
theorem joinG_of {x : G} (h : x.items = some (ys.map .str)) (hl : (ys.map (·.length)).sum + ys.length * a.length ≤ 16777216) : joinG "join" a x = .ok (.val (.str (Txt.join a ys))) := by
  unfold joinG
  have e : x.items.bind strs? = some ys := by rw [h]; exact strs_map ys
  rw [if_pos rfl, e]
  simp only
  rw [if_pos hl]
theorem me_joinT (hl : (ys.map (·.length)).sum + ys.length * a.length ≤ 16777216) : methG Φ "join" (.val (.str a)) [.val (.nod .tup (ys.map .str))] = .ok (.val (.str (Txt.join a ys))) := by
  rw [me_joinG Φ a _ (fun s z => by cases z)]
  refine joinG_of a ys ?_ hl
  show G.vals? ((ys.map T.str).map .val) = _
  rw [vals_vals]
theorem me_joinL (o : Bool) (hl : (ys.map (·.length)).sum + ys.length * a.length ≤ 16777216) : methG Φ "join" (.val (.str a)) [.nod o .lst ((ys.map T.str).map .val)] = .ok (.val (.str (Txt.join a ys))) := by
  rw [me_joinG Φ a _ (fun s z => by cases z)]
  refine joinG_of a ys ?_ hl
  show G.vals? ((ys.map T.str).map .val) = _
  rw [vals_vals]
end
/-! ### signs -/
abbrev sg (c : Nat) : Str := ⟨#[c]⟩
theorem str_ext {x y : Str} (h : x.cps.toList = y.cps.toList) : x = y := Str.ext' (Array.toList_inj.mp h)
theorem join_eq' (c : Nat) (l : List Str) : Txt.join (sg c) l = Str.join (sg c) l := StrLaws.glued_eq_join (sg c) l
theorem join_one (c : Nat) (a : Str) : Txt.join (sg c) [a] = a := by rw [join_eq']; rfl
theorem join_two (c : Nat) (a b : Str) (r : List Str) : (Txt.join (sg c) (a :: b :: r)).cps.toList = a.cps.toList ++ c :: (Txt.join (sg c) (b :: r)).cps.toList := by
  rw [join_eq', join_eq']
  show (a ++ sg c ++ Str.join (sg c) (b :: r)).cps.toList = _
  rw [cps_app, cps_app]
  simp
theorem cut_inj {c : Nat} : ∀ {a b x y : List Nat}, c ∉ a → c ∉ b → a ++ c :: x = b ++ c :: y → a = b ∧ x = y
  | [], [], x, y, _, _, h => ⟨rfl, by simpa using h⟩
  | [], d :: b, x, y, _, hb, h => by
    simp only [List.nil_append, List.cons_append, List.cons.injEq] at h
    exact absurd List.mem_cons_self (h.1 ▸ hb)
  | d :: a, [], x, y, ha, _, h => by
    simp only [List.nil_append, List.cons_append, List.cons.injEq] at h
    exact absurd List.mem_cons_self (h.1 ▸ ha)
  | d :: a, e :: b, x, y, ha, hb, h => by
    simp only [List.cons_append, List.cons.injEq] at h
    obtain ⟨h1, h2⟩ := cut_inj (fun z => ha (List.mem_cons_of_mem _ z)) (fun z => hb (List.mem_cons_of_mem _ z)) h.2
    exact ⟨by rw [h.1, h1], h2⟩
theorem join_inj {c : Nat} : ∀ {A B : List Str}, A ≠ [] → B ≠ [] → (∀ p ∈ A, c ∉ p.cps.toList) → (∀ p ∈ B, c ∉ p.cps.toList) → (Txt.join (sg c) A).cps.toList = (Txt.join (sg c) B).cps.toList → A = B
  | [], _, h, _, _, _, _ => absurd rfl h
  | _, [], _, h, _, _, _ => absurd rfl h
  | [a], [b], _, _, _, _, h => by rw [join_one, join_one] at h; rw [str_ext h]
  | [a], b :: b2 :: r, _, _, ha, _, h => by
    rw [join_one, join_two] at h
    exact absurd (h ▸ List.mem_append_right _ List.mem_cons_self) (ha a List.mem_cons_self)
  | a :: a2 :: r, [b], _, _, _, hb, h => by
    rw [join_one, join_two] at h
    exact absurd (h.symm ▸ List.mem_append_right _ List.mem_cons_self) (hb b List.mem_cons_self)
  | a :: a2 :: r, b :: b2 :: r2, _, _, ha, hb, h => by
    rw [join_two, join_two] at h
    obtain ⟨h1, h2⟩ := cut_inj (ha a List.mem_cons_self) (hb b List.mem_cons_self) h
    have := join_inj (A := a2 :: r) (B := b2 :: r2) (by simp) (by simp) (fun p hp => ha p (List.mem_cons_of_mem _ hp)) (fun p hp => hb p (List.mem_cons_of_mem _ hp)) h2
    rw [this, str_ext h1]
theorem split_ne (x : Str) (c : Nat) : Txt.split x (sg c) ≠ [] := by
  unfold Txt.split
  split
  · simp
  · split
    · simp
    · rw [StrLaws.partsBetween_eq]
      generalize Builtin.Str.occurrences x (sg c) 0 x.length (x.length + 1) = l
      cases l <;> simp [StrLaws.partsFrom]
theorem split_free' (x : Str) (c : Nat) : ∀ p ∈ Txt.split x (sg c), c ∉ p.cps.toList := StrLaws.split_free x c
theorem join_split' (x : Str) (c : Nat) : Txt.join (sg c) (Txt.split x (sg c)) = x := by rw [join_eq']; exact StrLaws.join_split x (sg c)
theorem split_join {c : Nat} {ys : List Str} (h : ys ≠ []) (hf : ∀ p ∈ ys, c ∉ p.cps.toList) : Txt.split (Txt.join (sg c) ys) (sg c) = ys :=
  join_inj (split_ne _ c) h (split_free' _ c) hf (by rw [join_split'])
theorem split_few (x : Str) (c : Nat) : ((Txt.split x (sg c)).map (·.length)).sum + (Txt.split x (sg c)).length ≤ x.length + 1 := PyProof.Rows.split_weight x (sg c) (Nat.le_refl 1)
/-- where a sign is there -/
theorem part_at {x : Str} {c : Nat} (h : c ∈ x.cps.toList) : (Txt.partition x (sg c)).2.1 = sg c := by
  have e : (Builtin.Str.occurrences x (sg c) 0 x.length 1).isEmpty = false := by
    rw [PyProof.Rows.empty_one x c, decide_eq_true h]; rfl
  unfold Txt.partition
  split
  · rfl
  · rename_i q
    rw [q] at e; cases e
theorem part_no {x : Str} {c : Nat} (h : c ∉ x.cps.toList) : Txt.partition x (sg c) = (x, Str.empty, Str.empty) := by
  have e : (Builtin.Str.occurrences x (sg c) 0 x.length 1).isEmpty = true := by
    rw [PyProof.Rows.empty_one x c, decide_eq_false h]; rfl
  unfold Txt.partition
  split
  · rename_i q
    rw [q] at e; cases e
  · rfl
theorem part_sum (x : Str) (c : Nat) : (Txt.partition x (sg c)).1.cps.toList ++ (Txt.partition x (sg c)).2.1.cps.toList ++ (Txt.partition x (sg c)).2.2.cps.toList = x.cps.toList := by
  rw [← cps_app, ← cps_app, StrLaws.partition_sum]
theorem part_first {x : Str} {c : Nat} {l : List Nat} (h : x.cps.toList = c :: l) : Txt.partition x (sg c) = (Str.empty, sg c, ⟨l.toArray⟩) := by
  have hm : c ∈ x.cps.toList := by rw [h]; exact List.mem_cons_self
  have e : (Builtin.Str.occurrences x (sg c) 0 x.length 1).isEmpty = false := by
    rw [PyProof.Rows.empty_one x c, decide_eq_true hm]; rfl
  have h1 := PyProof.Rows.from_first_some (x := x) (y := sg c) (z := sg c) rfl rfl e
  have h2 := part_at hm
  have h3 := part_sum x c
  have h4 : (Txt.partition x (sg c)).2.2.cps.toList = l := by
    have := congrArg (fun s : Str => s.cps.toList) (eq_of_beq h1)
    simp only [cps_app] at this
    rw [h] at this
    simpa using this
  rw [h2, h4, h] at h3
  have h5 : (Txt.partition x (sg c)).1.cps.toList = [] := by
    have := congrArg List.length h3
    simp at this
    exact List.eq_nil_of_length_eq_zero (by simpa using this)
  refine Prod.ext (str_ext (by rw [h5]; rfl)) (Prod.ext h2 (str_ext h4))
end Bv
set_option maxRecDepth 100000
/-! Part 23: rewritings: what may raise, zip, extend, texts and None in a list. -/
namespace Bv
open PySem L2
section
variable {Φ : Fns} {gl : Str → Option T} {env : Env} {P : List Nat}
variable (g : G) (gs : List G) (x : Exn) (i : Nat) (o : Ow) (f C : Str) (es : List E) (e : E)
@[simp] theorem ex_asgX (X : EX) : exec Φ gl P (.asgX i o X) env = asgXO P i o env (evX Φ gl env X) := by
  conv => lhs; unfold exec
@[simp] theorem ex_retX (X : EX) : exec Φ gl P (.retX X) env = retXO env (evX Φ gl env X) := by
  conv => lhs; unfold exec
@[simp] theorem ex_rep (y z : Str) : exec Φ gl P (.retRep f i y z e) env = repX Φ f y z env env[i]? (ev Φ gl env e) := by
  conv => lhs; unfold exec
@[simp] theorem asgXO_ok : asgXO P i o env (.ok g) = if g.free = true ∧ i ∉ P ∧ i < env.length then .nx (env.set i (some (owG o g))) else .stk := rfl
@[simp] theorem asgXO_exc : asgXO P i o env (.exc x) = .exc x env := rfl
@[simp] theorem retXO_ok : retXO env (.ok g) = if g.free = true then .ret g env else .stk := rfl
@[simp] theorem retXO_exc : retXO env (.exc x) = .exc x env := rfl
@[simp] theorem hardR_okE {α : Type} (a : α) : hardR (.ok a) = .ok a := rfl
@[simp] theorem callXR_ok : callXR (.ok g gs) = if g.free then .ok g else .stk := rfl
@[simp] theorem callXR_exc : callXR (.exc x gs) = .exc x := rfl
/-- a call that may raise, once its arguments are there -/
def xcW (Φ : Fns) (f : Str) (r : Res (List G)) : Res G := (hardR r).bind fun gs => callXR (Φ.call f (G.args gs))
@[simp] theorem evXc_w : evXc Φ gl env f es = xcW Φ f (evs Φ gl env es) := rfl
@[simp] theorem xcW_ok : xcW Φ f (.ok gs) = callXR (Φ.call f (G.args gs)) := rfl
@[simp] theorem evX_call : evX Φ gl env (.call f es) = evXc Φ gl env f es := rfl
@[simp] theorem evX_mk (as : List XA) : evX Φ gl env (.mk C as) = if (Φ.init C).isSome then (evXas Φ gl env as).bind fun gs => hardR (mkG Φ C gs) else .stk := rfl
@[simp] theorem evXa_e : evXa Φ gl env (.e e) = hardR (ev Φ gl env e) := rfl
@[simp] theorem evXa_call : evXa Φ gl env (.call f es) = evXc Φ gl env f es := rfl
@[simp] theorem evXas_nil : evXas Φ gl env [] = .ok [] := rfl
@[simp] theorem evXas_cons (a : XA) (as : List XA) : evXas Φ gl env (a :: as) = consR (evXa Φ gl env a) (evXas Φ gl env as) := rfl
@[simp] theorem consR_exc1 (r : Res (List G)) : consR (.exc x) r = .exc x := rfl
@[simp] theorem consR_exc2 : consR (.ok g) (.exc x : Res (List G)) = .exc x := rfl
/-- a list of what may raise -/
def seqX (F : T → Res G) : List T → Res (List G)
  | [] => .ok []
  | t :: ts => (F t).bind fun g => if g.free then (seqX F ts).bind fun gs => .ok (g :: gs) else .stk
theorem evX_lc {it : E} {g : G} {ts : List T} (h : ev Φ gl env it = .ok g) (hl : lstItems g = some ts) (hz : ts.length ≤ sizeLine) (hi : i < env.length) :
    evX Φ gl env (.lc i it f es) = (seqX (fun t => evXc Φ gl ((wipeE [i] env).set i (some (.val t))) f es) ts).bind fun rs => .ok (.nod true .lst rs) := by
  show (hardR (ev Φ gl env it)).bind (fun g => evXl Φ gl env i f es g) = _
  rw [h]
  show evXl Φ gl env i f es g = _
  unfold evXl
  rw [hl]
  simp only
  rw [if_pos hz]
  have hi2 : i < (wipeE [i] env).length := by show i < (env.set i none).length; rw [List.length_set]; exact hi
  congr 1
  clear hl hz h
  induction ts with
  | nil => rfl
  | cons t ts ih =>
    unfold lcT seqX
    rw [← ih]
    have : tgSet [] 0 (.nm i) t (wipeE [i] env) = some ((wipeE [i] env).set i (some (.val t))) := by
      show (if i ∉ ([] : List Nat) ∧ i < (wipeE [i] env).length then some ((wipeE [i] env).set i (some (.val t))) else none) = _
      rw [if_pos ⟨by simp, hi2⟩]
    rw [this]
    simp only [evAnd_nil, Res.bind_ok, if_true]
@[simp] theorem repX_ok (a y z : Str) (t : T) : repX Φ f y z env (some (some (.val (.str a)))) (.ok (.val t)) = if repOk a y z then retXO env (hardR (backR (Φ.call f [.val (.str (rep1 a y z)), .val t]))) else .stk := rfl
def extE (i : Nat) (js : List Nat) : Res (G × Env) → Out
  | .ok (g, env1) => chgO i js env1 (extF g)
  | .exc _ => .stk
  | .stk => .stk
def extR (P : List Nat) (Φ : Fns) (gl : Str → Option T) (e : E) (env : Env) : Res (Nat × List Nat) → Out
  | .ok p => extE p.1 p.2 (evS Φ gl (p.1 :: P) true env e)
  | .exc _ => .stk
  | .stk => .stk
@[simp] theorem ex_ext (pl : Pl) : exec Φ gl P (.ext pl e) env = extR P Φ gl e env (evPl Φ gl env pl) := by
  conv => lhs; unfold exec
  cases evPl Φ gl env pl with
  | ok p =>
    show (match evS Φ gl (p.1 :: P) true env e with | .ok (g, env1) => chgO p.1 p.2 env1 (extF g) | .exc _ => .stk | .stk => .stk) = extE p.1 p.2 (evS Φ gl (p.1 :: P) true env e)
    cases evS Φ gl (p.1 :: P) true env e <;> rfl
  | exc x => rfl
  | stk => rfl
@[simp] theorem extR_ok (k : Nat) (js : List Nat) : extR P Φ gl e env (.ok (k, js)) = extE k js (evS Φ gl (k :: P) true env e) := rfl
@[simp] theorem extE_ok (js : List Nat) (env1 : Env) : extE i js (.ok (g, env1)) = chgO i js env1 (extF g) := rfl
@[simp] theorem extF_ok (hs : List G) : extF (.nod true .lst hs) gs = if gs.length + hs.length ≤ sizeLine then some (gs ++ hs) else none := rfl
def zipW (r q : Res G) : Res (List T × Option (Nat × G)) := r.bind fun g => q.bind fun h => if g.free && h.free then (match lstItems g, lstItems h with | some ts, some us => .ok (zipT ts us, none) | _, _ => .stk) else .stk
@[simp] theorem it_zip (a b : E) : evIt Φ gl env (.zip a b) = zipW (ev Φ gl env a) (ev Φ gl env b) := rfl
@[simp] theorem zipW_ok (ts us : List T) : zipW (.ok (.val (.nod .lst ts))) (.ok (.val (.nod .lst us))) = .ok (zipT ts us, none) := by
  show (if (G.val (.nod .lst ts)).free && (G.val (.nod .lst us)).free then (match G.vals? (ts.map .val), G.vals? (us.map .val) with | some ts, some us => Res.ok (zipT ts us, none) | _, _ => .stk) else .stk) = _
  rw [free_val, free_val, vals_map, vals_map]
  rfl
@[simp] theorem bin_mult (ts : List T) (n : Int) : binG .mul (.val (.nod .tup ts)) (.val (.int n)) = if decide (2 ≤ n) && decide (n ≤ 1000) && decide (ts.length ≤ 1000) && !ts.isEmpty then .ok (.val (.nod .tup (List.replicate n.toNat ts).flatten)) else .stk := rfl
theorem cmp_nin_strs (a : Str) (ts : List T) : cmpT .nin (.str a) (.nod .lst ts) = match strs? ts with | some ns => .ok (!decide (a ∈ ns)) | none => .stk := rfl
theorem cmp_in_strs (a : Str) (ts : List T) : cmpT .in_ (.str a) (.nod .lst ts) = match strs? ts with | some ns => .ok (decide (a ∈ ns)) | none => .stk := rfl
theorem cmp_non_in (ts : List T) : cmpT .in_ .non (.nod .lst ts) = nonIn ts := rfl
end
end Bv
set_option maxRecDepth 100000
/-! Part 24: a text cut at a separator of two unlike signs. -/
namespace Bv
open PySem PySem.Builtin PySem.Builtin.Str PySem.StrLaws
/-- two signs as a text -/
abbrev sg2 (c d : Nat) : Str := ⟨#[c, d]⟩
/-- the two signs stand nowhere side by side -/
def Fr2 (c d : Nat) (l : List Nat) : Prop := ∀ i, ¬ (l[i]? = some c ∧ l[i + 1]? = some d)
def jn2 (c d : Nat) : List (List Nat) → List Nat
  | [] => []
  | [p] => p
  | p :: q :: r => p ++ c :: d :: jn2 c d (q :: r)
theorem je (y : Str) (l : List Str) : Txt.join y l = Str.join y l := StrLaws.glued_eq_join y l
theorem join_jn2 (c d : Nat) : ∀ ys : List Str, (Txt.join (sg2 c d) ys).cps.toList = jn2 c d (ys.map fun p => p.cps.toList)
  | [] => by rw [je]; rfl
  | [p] => by rw [je]; rfl
  | p :: q :: r => by
    have ih := join_jn2 c d (q :: r)
    rw [je] at ih ⊢
    show (p ++ sg2 c d ++ Str.join (sg2 c d) (q :: r)).cps.toList = _
    rw [cps_app, cps_app, ih]
    simp [jn2]
theorem at2 {x : Str} {c d k : Nat} (h1 : x.cps.toList[k]? = some c) (h2 : x.cps.toList[k + 1]? = some d) : StrLaws.At x (sg2 c d) x.length k := by
  have l2 := (List.getElem?_eq_some_iff.mp h2).1
  have hn : x.cps.toList.length = x.length := by simp [Str.length]
  refine ⟨by show k + 2 ≤ x.length; omega, ?_⟩
  rw [subAt_eq]
  have e1 : x.cps.toList.drop k = c :: d :: x.cps.toList.drop (k + 2) := by
    obtain ⟨a1, a2⟩ := List.getElem?_eq_some_iff.mp h1
    obtain ⟨b1, b2⟩ := List.getElem?_eq_some_iff.mp h2
    rw [List.drop_eq_getElem_cons a1, a2, List.drop_eq_getElem_cons b1, b2]
  rw [e1]
  simp [Str.length]
theorem part_free2 (x : Str) (c d a b : Nat) (hb : b ≤ x.length) (hn : ∀ k, a ≤ k → k < b → ¬ StrLaws.At x (sg2 c d) x.length k) : Fr2 c d (strSub x a b).cps.toList := by
  intro j ⟨h1, h2⟩
  rw [strSub_toList] at h1 h2
  have hlt : j + 1 < b - a := by
    have h3 := (List.getElem?_eq_some_iff.mp h2).1
    simp at h3
    omega
  rw [List.getElem?_take_of_lt (by omega), List.getElem?_drop] at h1
  rw [List.getElem?_take_of_lt hlt, List.getElem?_drop] at h2
  exact hn (a + j) (by omega) (by omega) (at2 h1 h2)
theorem parts_free2 (x : Str) (c d : Nat) : ∀ (cuts : List Nat) (a f : Nat), ChainG x (sg2 c d) x.length a cuts f → (∀ k, f ≤ k → ¬ StrLaws.At x (sg2 c d) x.length k) → ∀ p ∈ partsFrom x (sg2 c d).length a cuts, Fr2 c d p.cps.toList
  | [], a, f, h, hn, p, hp => by
    have e : f = a := h
    subst e
    rw [List.mem_singleton.mp hp]
    exact part_free2 x c d f x.length (Nat.le_refl _) fun k h1 _ => hn k h1
  | e :: r, a, f, h, hn, p, hp => by
    rcases List.mem_cons.mp hp with rfl | hp'
    · exact part_free2 x c d a e (by have := h.2.1.1; omega) h.2.2.1
    · exact parts_free2 x c d r _ f h.2.2.2 hn p hp'
theorem kind2 {x : Str} {c d : Nat} (hc : c < 256) (hd : d < 256) : ¬ Str.strKind x < Str.strKind (sg2 c d) := by
  intro h
  have k1 : (#[c, d] : Array Nat).all (· < 256) = true := by simp [hc, hd]
  unfold Str.strKind at h
  simp only [k1, if_true] at h
  split at h
  · omega
  · split at h
    · omega
    · omega
theorem split_free2 (x : Str) {c d : Nat} (hc : c < 256) (hd : d < 256) : ∀ p ∈ Txt.split x (sg2 c d), Fr2 c d p.cps.toList := by
  obtain ⟨f, hG, hn⟩ := occ_tight x (sg2 c d) (by show 1 ≤ 2; omega)
  have none : (∀ k, ¬ StrLaws.At x (sg2 c d) x.length k) → Fr2 c d x.cps.toList := fun h i ⟨h1, h2⟩ => h i (at2 h1 h2)
  unfold Txt.split
  split
  · rename_i q
    intro p hp
    rw [List.mem_singleton.mp hp]
    rw [Bool.or_eq_true, decide_eq_true_eq, decide_eq_true_eq] at q
    rcases q with q | q
    · refine none fun k hk => ?_
      have h3 := hk.1
      omega
    · exact absurd q (kind2 hc hd)
  · split
    · rename_i he
      intro p hp
      rw [List.mem_singleton.mp hp]
      have e0 : occurrences x (sg2 c d) 0 x.length (x.length + 1) = [] := List.isEmpty_iff.mp he
      rw [e0] at hG
      have ef : f = 0 := hG
      subst ef
      exact none fun k => hn k (Nat.zero_le _)
    · rw [partsBetween_eq]
      exact parts_free2 x c d _ 0 f hG hn
theorem cut_inj2 {c d : Nat} (ne : c ≠ d) : ∀ {a b x y : List Nat}, Fr2 c d a → Fr2 c d b → a ++ c :: d :: x = b ++ c :: d :: y → a = b ∧ x = y
  | [], [], x, y, _, _, h => ⟨rfl, by simpa using h⟩
  | [], [e], x, y, _, hb, h => by
    simp only [List.nil_append, List.cons_append, List.cons.injEq] at h
    exact absurd h.2.1.symm ne
  | [], e :: g :: b, x, y, _, hb, h => by
    simp only [List.nil_append, List.cons_append, List.cons.injEq] at h
    exact absurd ⟨by simp [← h.1], by simp [← h.2.1]⟩ (hb 0)
  | [e], [], x, y, ha, _, h => by
    simp only [List.nil_append, List.cons_append, List.cons.injEq] at h
    exact absurd h.2.1 ne
  | e :: g :: a, [], x, y, ha, _, h => by
    simp only [List.nil_append, List.cons_append, List.cons.injEq] at h
    exact absurd ⟨by simp [h.1], by simp [h.2.1]⟩ (ha 0)
  | e :: a, g :: b, x, y, ha, hb, h => by
    simp only [List.cons_append, List.cons.injEq] at h
    obtain ⟨z1, z2⟩ := cut_inj2 ne (a := a) (b := b) (fun i q => ha (i + 1) (by simpa using q)) (fun i q => hb (i + 1) (by simpa using q)) h.2
    exact ⟨by rw [h.1, z1], z2⟩
theorem fr2_no {c d : Nat} {a x : List Nat} : ¬ Fr2 c d (a ++ c :: d :: x) := fun h => h a.length ⟨by simp, by rw [List.getElem?_append_right (by omega)]; simp⟩
theorem jn_inj2 {c d : Nat} (ne : c ≠ d) : ∀ {A B : List (List Nat)}, A ≠ [] → B ≠ [] → (∀ p ∈ A, Fr2 c d p) → (∀ p ∈ B, Fr2 c d p) → jn2 c d A = jn2 c d B → A = B
  | [], _, h, _, _, _, _ => absurd rfl h
  | _, [], _, h, _, _, _ => absurd rfl h
  | [a], [b], _, _, _, _, h => by rw [show a = b from h]
  | [a], b :: b2 :: r, _, _, ha, _, h => by
    have h : a = b ++ c :: d :: jn2 c d (b2 :: r) := h
    exact absurd (ha a List.mem_cons_self) (by rw [h]; exact fr2_no)
  | a :: a2 :: r, [b], _, _, _, hb, h => by
    have h : a ++ c :: d :: jn2 c d (a2 :: r) = b := h
    exact absurd (hb b List.mem_cons_self) (by rw [← h]; exact fr2_no)
  | a :: a2 :: r, b :: b2 :: r2, _, _, ha, hb, h => by
    have h : a ++ c :: d :: jn2 c d (a2 :: r) = b ++ c :: d :: jn2 c d (b2 :: r2) := h
    obtain ⟨z1, z2⟩ := cut_inj2 ne (ha a List.mem_cons_self) (hb b List.mem_cons_self) h
    rw [z1, jn_inj2 ne (by simp) (by simp) (fun p hp => ha p (List.mem_cons_of_mem _ hp)) (fun p hp => hb p (List.mem_cons_of_mem _ hp)) z2]
theorem split_ne2 (x y : Str) : Txt.split x y ≠ [] := by
  unfold Txt.split
  split
  · simp
  · split
    · simp
    · rw [StrLaws.partsBetween_eq]
      obtain ⟨p, r, e⟩ := partsFrom_ne x y.length 0 (occurrences x y 0 x.length (x.length + 1))
      rw [e]; simp
theorem map_cps_inj : ∀ {A B : List Str}, (A.map fun p => p.cps.toList) = (B.map fun p => p.cps.toList) → A = B
  | [], [], _ => rfl
  | [], _ :: _, h => by cases h
  | _ :: _, [], h => by cases h
  | a :: A, b :: B, h => by
    simp only [List.map_cons, List.cons.injEq] at h
    rw [str_ext h.1, map_cps_inj h.2]
theorem split_join2 {c d : Nat} (ne : c ≠ d) (hc : c < 256) (hd : d < 256) {ys : List Str} (h : ys ≠ []) (hf : ∀ p ∈ ys, Fr2 c d p.cps.toList) : Txt.split (Txt.join (sg2 c d) ys) (sg2 c d) = ys := by
  apply map_cps_inj
  refine jn_inj2 ne (by simpa using split_ne2 _ _) (by simpa using h) (fun p hp => ?_) (fun p hp => ?_) ?_
  · obtain ⟨q, hq, rfl⟩ := List.mem_map.mp hp
    exact split_free2 _ hc hd q hq
  · obtain ⟨q, hq, rfl⟩ := List.mem_map.mp hp
    exact hf q hq
  · rw [← join_jn2, ← join_jn2, je (sg2 c d) (Txt.split _ _), StrLaws.join_split]
theorem jn_flat (c d : Nat) (P : List (List Nat)) (hP : P ≠ []) : ∀ (A B : List (List Nat)), jn2 c d (A ++ (P ++ B)) = jn2 c d (A ++ (jn2 c d P :: B))
  | [], B => by
    induction P with
    | nil => exact absurd rfl hP
    | cons p P ih =>
      cases P with
      | nil => rfl
      | cons q P =>
        have := ih (by simp)
        simp only [List.nil_append, List.cons_append] at this ⊢
        show p ++ c :: d :: jn2 c d (q :: (P ++ B)) = _
        rw [this]
        cases B with
        | nil => rfl
        | cons b B =>
          show p ++ c :: d :: (jn2 c d (q :: P) ++ c :: d :: jn2 c d (b :: B)) = (p ++ c :: d :: jn2 c d (q :: P)) ++ c :: d :: jn2 c d (b :: B)
          simp
  | [a], B => by
    have ih := jn_flat c d P hP [] B
    simp only [List.nil_append] at ih
    cases P with
    | nil => exact absurd rfl hP
    | cons p P =>
      show a ++ c :: d :: jn2 c d (p :: P ++ B) = a ++ c :: d :: jn2 c d (jn2 c d (p :: P) :: B)
      rw [ih]
  | a :: a2 :: A, B => by
    have ih := jn_flat c d P hP (a2 :: A) B
    show a ++ c :: d :: jn2 c d (a2 :: A ++ (P ++ B)) = a ++ c :: d :: jn2 c d (a2 :: A ++ (jn2 c d P :: B))
    rw [ih]
/-- a text in the place of a piece is cut as by itself -/
theorem split_mid2 {c d : Nat} (ne : c ≠ d) (hc : c < 256) (hd : d < 256) {A B : List Str} (t : Str) (hA : ∀ p ∈ A, Fr2 c d p.cps.toList) (hB : ∀ p ∈ B, Fr2 c d p.cps.toList) :
    Txt.split (Txt.join (sg2 c d) (A ++ (t :: B))) (sg2 c d) = A ++ (Txt.split t (sg2 c d) ++ B) := by
  have e : Txt.join (sg2 c d) (A ++ (t :: B)) = Txt.join (sg2 c d) (A ++ (Txt.split t (sg2 c d) ++ B)) := by
    apply str_ext
    rw [join_jn2, join_jn2, List.map_append, List.map_append, List.map_append, List.map_cons, jn_flat c d _ (by simpa using split_ne2 t (sg2 c d)), ← join_jn2 c d (Txt.split t (sg2 c d)), je (sg2 c d) (Txt.split t (sg2 c d)), StrLaws.join_split]
  rw [e]
  refine split_join2 ne hc hd (by simp [split_ne2]) fun p hp => ?_
  rcases List.mem_append.mp hp with hp | hp
  · exact hA p hp
  · rcases List.mem_append.mp hp with hp | hp
    · exact split_free2 t hc hd p hp
    · exact hB p hp
theorem fr2_free {c d : Nat} {l : List Nat} (h : c ∉ l) : Fr2 c d l := fun i q => h (List.mem_of_getElem? q.1)
end Bv
set_option maxRecDepth 100000
/-! Part 25: rewritings: try with many clauses, two fields, parts taken, walks over places. -/
namespace Bv
open PySem L2
section
variable {Φ : Fns} {gl : Str → Option T} {env env1 : Env} {P : List Nat}
variable (g : G) (gs : List G) (x : Exn) (i j : Nat) (o : Ow) (f C : Str) (es : List E) (e : E)
@[simp] theorem ex_raise2 (a b : E) : exec Φ gl P (.raise2 C a b) env = raise2X Φ C env (evs Φ gl env [a, b]) := by
  conv => lhs; unfold exec
theorem raise2X_ok {C f g : Str} (t u : T) (h : Φ.xin2 C = some (f, g)) : raise2X Φ C env (.ok [.val t, .val u]) = .exc ⟨C, [(g, u), (f, t)]⟩ env := by
  unfold raise2X
  simp only [h]
@[simp] theorem ex_take (k : Int) : exec Φ gl P (.take i j k) env = takeX P i j k env := by
  conv => lhs; unfold exec
theorem takeX_ok {i j : Nat} {k : Int} {gs : List G} {g : G} (h : env[j]? = some (some (.nod true .tup gs))) (h2 : atI gs k = some g) (h3 : g.free = true ∧ i ∉ P ∧ j ∉ P ∧ i ≠ j ∧ i < env.length) : takeX P i j k env = .nx ((env.set j none).set i (some g)) := by
  unfold takeX
  simp only [h, h2]
  rw [if_pos h3]
@[simp] theorem ex_tryM (b els : List S) (hds : List (Str × Nat × List HT)) : exec Φ gl P (.tryM b hds els) env = tryMO Φ P hds (execs Φ gl P els) (execs Φ gl P b env) := by
  conv => lhs; unfold exec
@[simp] theorem tryMO_nx (hds : List (Str × Nat × List HT)) (els : Env → Out) : tryMO Φ P hds els (.nx env1) = els env1 := rfl
@[simp] theorem tryMO_ret (hds : List (Str × Nat × List HT)) (els : Env → Out) : tryMO Φ P hds els (.ret g env1) = .ret g env1 := rfl
@[simp] theorem tryMO_brk (hds : List (Str × Nat × List HT)) (els : Env → Out) : tryMO Φ P hds els (.brk env1) = .brk env1 := rfl
@[simp] theorem tryMO_cnt (hds : List (Str × Nat × List HT)) (els : Env → Out) : tryMO Φ P hds els (.cnt env1) = .cnt env1 := rfl
@[simp] theorem tryMO_exc (hds : List (Str × Nat × List HT)) (els : Env → Out) : tryMO Φ P hds els (.exc x env1) = hdsX Φ P x hds env1 := rfl
theorem hdsX_yes {C : Str} {i : Nat} {ts : List HT} {r : List (Str × Nat × List HT)} {x : Exn} (h : Φ.xsub x.cls C = some true) (h2 : i ∉ P ∧ i < env.length) : hdsX Φ P x ((C, i, ts) :: r) env = hrun Φ P x i ts (env.set i none) := by
  show (match Φ.xsub x.cls C with | some true => if i ∉ P ∧ i < env.length then hrun Φ P x i ts (env.set i none) else .stk | some false => hdsX Φ P x r env | none => .stk) = _
  rw [h]
  exact if_pos h2
theorem hdsX_no {C : Str} {i : Nat} {ts : List HT} {r : List (Str × Nat × List HT)} {x : Exn} (h : Φ.xsub x.cls C = some false) : hdsX Φ P x ((C, i, ts) :: r) env = hdsX Φ P x r env := by
  show (match Φ.xsub x.cls C with | some true => if i ∉ P ∧ i < env.length then hrun Φ P x i ts (env.set i none) else .stk | some false => hdsX Φ P x r env | none => .stk) = _
  rw [h]
@[simp] theorem hrun_nil : hrun Φ P x i [] env = .nx (env.set i none) := rfl
theorem hrun_asg {h : HE} {r : List HT} {t : T} {x : Exn} {i j : Nat} (e : heval Φ x env h = some t) (c : j ∉ P ∧ j < env.length ∧ j ≠ i) : hrun Φ P x i (.asg j h :: r) env = hrun Φ P x i r (env.set j (some (.val t))) := by
  show (match heval Φ x env h with | some t => if j ∉ P ∧ j < env.length ∧ j ≠ i then hrun Φ P x i r (env.set j (some (.val t))) else .stk | none => .stk) = _
  rw [e]
  exact if_pos c
theorem hrun_app {h : HE} {r : List HT} {t : T} {x : Exn} {i j : Nat} {gs : List G} (e : heval Φ x env h = some t) (ej : env[j]? = some (some (.nod true .lst gs))) (c : gs.length < sizeLine) : hrun Φ P x i (.app j h :: r) env = hrun Φ P x i r (env.set j (some (.nod true .lst (gs ++ [.val t])))) := by
  show (match heval Φ x env h with | some t => (match chgO j [] env (appF (.val t)) with | .nx env1 => hrun Φ P x i r env1 | _ => .stk) | none => .stk) = _
  rw [e]
  have : chgO j [] env (appF (.val t)) = .nx (env.set j (some (.nod true .lst (gs ++ [.val t])))) := by
    rw [chgO_eq, ej, chgR_ok, at_nil, chgN_ok, appF_eq, if_pos c, chgF_ok, put_nil]
  simp only [this]
def rrngR (r q : Res G) : Res (List T × Option (Nat × G)) := r.bind fun g => (asInt g).bind fun i => q.bind fun g2 => (asInt g2).bind fun j => if smallI i && smallI j then .ok ((rngT i (j - i).toNat).reverse, none) else .stk
@[simp] theorem it_rrng (e f : E) : evIt Φ gl env (.rrng e f) = rrngR (ev Φ gl env e) (ev Φ gl env f) := rfl
@[simp] theorem rrngR_ok {i j : Int} (h : smallI i = true) (h2 : smallI j = true) : rrngR (.ok (.val (.int i))) (.ok (.val (.int j))) = .ok ((rngT i (j - i).toNat).reverse, none) := by
  show (if smallI i && smallI j then Res.ok ((rngT i (j - i).toNat).reverse, none) else .stk) = _
  rw [h, h2]
  rfl
@[simp] theorem it_itp (pl : Pl) : evIt Φ gl env (.itp pl) = itpX env (evPl Φ gl env pl) := rfl
theorem itpX_ok {i : Nat} {js : List Nat} {g0 : G} {ts : List T} (h : env[i]? = some (some g0)) (h2 : g0.at js = some (.nod true .lst (ts.map .val))) : itpX env (.ok (i, js)) = .ok (ts, some (i, g0)) := by
  show (match env[i]? with | some (some g0) => (match g0.at js with | some (.nod true .lst gs) => (match G.vals? gs with | some ts => Res.ok (ts, some (i, g0)) | none => .stk) | _ => .stk) | _ => .stk) = _
  rw [h]
  simp only [h2, vals_map]
theorem cmp_nin_tup (xs ts : List T) : cmpT .nin (.nod .tup xs) (.nod .lst ts) = (dataIn (.nod .tup xs) ts).bind fun r => .ok (!r) := rfl
end
end Bv
namespace L51
open PySem L2 Bv
instance tcI : Bv.TC := ⟨[], []⟩
def b_Set___init__ : List S :=
  [.setf 0 "path" (.var 1), .setf 0 "old" (.var 2), .setf 0 "new" (.var 3)]
def f_Set___init__ : Fd := ⟨["self", "path", "old", "new"], ["self", "path", "old", "new"], b_Set___init__, false⟩
def b_Set_back : List S :=
  [.ret (.mk "Set" [.fld (.var 0) "path", .fld (.var 0) "new", .fld (.var 0) "old"])]
def f_Set_back : Fd := ⟨["self"], ["self"], b_Set_back, false⟩
def b_Set_told : List S :=
  [.ret (.tup [.con (.str "set"), .fld (.var 0) "path", .fld (.var 0) "old", .fld (.var 0) "new"])]
def f_Set_told : Fd := ⟨["self"], ["self"], b_Set_told, false⟩
def b_both_find : List S :=
  [.ite (.or [.cmp .eq (.idx (.var 0) (.con (.int 0))) (.con (.str "put")), .cmp .eq (.idx (.var 1) (.con (.int 0))) (.con (.str "put")), .cmp .ne (.idx (.var 0) (.con (.int 1))) (.idx (.var 1) (.con (.int 1)))]) [.ret (.con (.bl false))] [], .ret (.cmp .nin (.tup [.idx (.var 0) (.con (.int 0)), .idx (.var 1) (.con (.int 0))]) (.lst [.tup [.con (.str "set"), .con (.str "move")], .tup [.con (.str "move"), .con (.str "set")]]))]
def f_both_find : Fd := ⟨["one", "other"], ["one", "other"], b_both_find, false⟩
def b_clash : List S :=
  [.asg 2 .frz (.meth (.var 0) "told" []), .asg 3 .frz (.meth (.var 1) "told" []), .ite (.call "both_find" [.var 2, .var 3]) [.ret (.idx (.var 2) (.con (.int 1)))] [], .dead, .dead, .dead, .dead, .dead]
def f_clash : Fd := ⟨["deed", "other", "one", "two"], ["deed", "other"], b_clash, false⟩
def b_taken_out : List S :=
  [.ite (.or [.cmp .lt (.var 1) (.con (.int 0)), .cmp .ge (.var 1) (.bif .len [.var 0])]) [.raise "NoDeed"] [], .asg 2 .sh (.slc (.var 0) none (some (.var 1))), .asg 3 .frz (.meth (.idx (.var 0) (.var 1)) "back" []), .for_ (.nm 4) (.rng2 (.bin .add (.var 1) (.con (.int 1))) (.bif .len [.var 0])) [.asg 5 .frz (.idx (.var 0) (.var 4)), .asg 6 .frz (.call "clash" [.var 3, .var 5]), .ite (.cmp .nis (.var 6) (.con .non)) [.raise2 "Hangs" (.var 4) (.var 6)] [], .dead, .dead], .ret (.tup [.var 2, .meth (.var 3) "back" []])]
def f_taken_out : Fd := ⟨["row", "at", "rest", "back", "number", "later", "part"], ["row", "at"], b_taken_out, false⟩
def b_put_in : List S :=
  [.ite (.or [.cmp .lt (.var 1) (.con (.int 0)), .cmp .gt (.var 1) (.bif .len [.var 0])]) [.raise "NoDeed"] [], .asg 3 .sh (.lst []), .for_ (.nm 4) (.rrng (.var 1) (.bif .len [.var 0])) [.asg 5 .frz (.meth (.idx (.var 0) (.var 4)) "back" []), .asg 6 .frz (.call "clash" [.var 2, .var 5]), .ite (.cmp .nis (.var 6) (.con .non)) [.raise2 "Hangs" (.var 4) (.var 6)] [], .dead, .dead], .lm (.var 3) .rev, .ret (.bin .add (.bin .add (.slc (.var 0) none (some (.var 1))) (.lst [.var 2])) (.var 3))]
def f_put_in : Fd := ⟨["row", "at", "deed", "later", "number", "back", "part"], ["row", "at", "deed"], b_put_in, false⟩
def b_parted : List S :=
  [.ite (.or [.cmp .lt (.var 1) (.con (.int 0)), .cmp .ge (.var 1) (.bif .len [.var 0])]) [.raise "NoDeed"] [], .asg 2 .sh (.slc (.var 0) none (some (.var 1))), .asg 3 .sh (.lst [.idx (.var 0) (.var 1)]), .asg 4 .sh (.lst [.var 1]), .asg 5 .sh (.lst []), .for_ (.nm 6) (.rng2 (.bin .add (.var 1) (.con (.int 1))) (.bif .len [.var 0])) [.tryM [.asgX 8 .frz (.call "put_in" [.var 3, .con (.int 0), .idx (.var 0) (.var 6)])] [("Hangs", 7, [.app 5 (.tp (.v 6) (.ix 4 (.f "at"))), .app 3 (.ix 0 (.v 6)), .app 4 (.v 6)])] [.dead, .dead]], .ret (.tup [.var 2, .var 3, .var 5])]
def f_parted : Fd := ⟨["row", "at", "rest", "out", "numbers", "reasons", "number", "e", "whole"], ["row", "at"], b_parted, false⟩
def b__law_at : List S :=
  [.ite (.cmp .lt (.var 1) (.bif .len [.var 0])) [.ret (.idx (.var 0) (.var 1))] [], .ret (.con (.int 0))]
def f__law_at : Fd := ⟨["_law_script", "_law_k"], ["_law_script", "_law_k"], b__law_at, false⟩
def b__law_is : List S :=
  [.ret (.and [.isi (.var 0) (.ty "int"), .not (.isi (.var 0) (.ty "bool")), .cmp .eq (.var 0) (.var 1)])]
def f__law_is : Fd := ⟨["_law_found", "_law_due"], ["_law_found", "_law_due"], b__law_is, false⟩
def b__law_number : List S :=
  [.ite (.cmp .eq (.bin .mod (.var 0) (.con (.int 2))) (.con (.int 0))) [.ret (.bin .sub (.bin .mod (.bin .fdiv (.var 0) (.con (.int 2))) (.con (.int 7))) (.con (.int 3)))] [], .ret (.bin .sub (.bin .mod (.bin .fdiv (.var 0) (.con (.int 2))) (.bin .sub (.bin .mul (.con (.int 2)) (.bin .pow (.con (.int 10)) (.con (.int 60)))) (.con (.int 1)))) (.bin .sub (.bin .pow (.con (.int 10)) (.con (.int 60))) (.con (.int 1))))]
def f__law_number : Fd := ⟨["_law_load"], ["_law_load"], b__law_number, false⟩
def b__law_kind : List S :=
  [.dead, .dead, .dead, .dead, .dead]
def f__law_kind : Fd := ⟨["_law_e", "_law_kinds"], ["_law_e"], b__law_kind, false⟩
def b__law_asked : List S :=
  [.asg 4 .own (.con .non), .asg 5 .frz (.neg (.con (.int 2))), .asg 6 .frz (.con .non), .tryM [.ite (.cmp .eq (.var 0) (.con (.int 0))) [.asgX 4 .own (.call "taken_out" [.var 1, .var 2])] [.ite (.cmp .eq (.var 0) (.con (.int 1))) [.asgX 4 .own (.call "put_in" [.var 1, .var 2, .var 3])] [.asgX 4 .own (.call "parted" [.var 1, .var 2])]]] [("Hangs", 7, [.asg 5 (.kd "_law_kind"), .asg 6 (.tp (.f "at") (.f "part"))]), ("BoughError", 7, [.asg 5 (.kd "_law_kind")])] [], .ret (.tup [.var 5, .var 6, .var 4])]
def f__law_asked : Fd := ⟨["_law_door", "_law_row_here", "_law_at_here", "_law_deed", "_law_found", "_law_kind_here", "_law_hung", "_law_e"], ["_law_door", "_law_row_here", "_law_at_here", "_law_deed"], b__law_asked, false⟩
def b__law_hangs : List S :=
  [.ite (.or [.cmp .ne (.idx (.var 0) (.con (.int 0))) (.con (.int 2)), .not (.call "_law_is" [.idx (.idx (.var 0) (.con (.int 1))) (.con (.int 0)), .var 1])]) [.ret (.con (.bl false))] [], .ret (.and [.isi (.idx (.idx (.var 0) (.con (.int 1))) (.con (.int 1))) (.ty "tuple"), .cmp .eq (.idx (.idx (.var 0) (.con (.int 1))) (.con (.int 1))) (.var 2)])]
def f__law_hangs : Fd := ⟨["_law_asked_here", "_law_at_here", "_law_path"], ["_law_asked_here", "_law_at_here", "_law_path"], b__law_hangs, false⟩
def b__law_row : List S :=
  [.ret (.and [.isi (.var 0) (.ty "list"), .cmp .eq (.lc (.nm 2) .it [.var 0] [] (.meth (.var 2) "told" [])) (.var 1)])]
def f__law_row : Fd := ⟨["_law_found", "_law_due", "_law_deed"], ["_law_found", "_law_due"], b__law_row, false⟩
def b__law_out : List S :=
  [.asg 4 .own (.call "_law_asked" [.con (.int 0), .var 0, .var 2, .con .non]), .ite (.cmp .lt (.var 2) (.bin .sub (.bif .len [.var 1]) (.con (.int 1)))) [.ret (.call "_law_hangs" [.var 4, .bin .add (.var 2) (.con (.int 1)), .var 3])] [], .take 5 4 2, .ite (.or [.not (.isi (.var 5) (.ty "tuple")), .cmp .ne (.bif .len [.var 5]) (.con (.int 2)), .not (.call "_law_row" [.idx (.var 5) (.con (.int 0)), .slc (.var 1) none (some (.neg (.con (.int 1))))])]) [.ret (.con (.bl false))] [], .app (.ix (.var 5) (.con (.int 0))) true (.idx (.var 0) (.con (.int 0))), .ret (.cmp .eq (.meth (.idx (.var 5) (.con (.int 1))) "told" []) (.idx (.var 1) (.neg (.con (.int 1)))))]
def f__law_out : Fd := ⟨["_law_row_here", "_law_told", "_law_at_here", "_law_path", "_law_asked_here", "_law_found"], ["_law_row_here", "_law_told", "_law_at_here", "_law_path"], b__law_out, false⟩
def b__law_put : List S :=
  [.asg 5 .own (.call "_law_asked" [.con (.int 1), .var 0, .var 2, .var 3]), .ite (.cmp .lt (.var 2) (.bif .len [.var 1])) [.ret (.call "_law_hangs" [.var 5, .bin .sub (.bif .len [.var 1]) (.con (.int 1)), .var 4])] [], .ite (.not (.call "_law_row" [.idx (.var 5) (.con (.int 2)), .bin .add (.var 1) (.lst [.meth (.var 3) "told" []])])) [.ret (.con (.bl false))] [], .lm (.ix (.var 5) (.con (.int 2))) .clear, .ret (.con (.bl true))]
def f__law_put : Fd := ⟨["_law_row_here", "_law_told", "_law_at_here", "_law_deed", "_law_path", "_law_asked_here"], ["_law_row_here", "_law_told", "_law_at_here", "_law_deed", "_law_path"], b__law_put, false⟩
def b__law_parted : List S :=
  [.asg 3 .own (.idx (.call "_law_asked" [.con (.int 2), .var 0, .var 2, .con .non]) (.con (.int 2))), .ite (.or [.not (.isi (.var 3) (.ty "tuple")), .cmp .ne (.bif .len [.var 3]) (.con (.int 3)), .not (.isi (.idx (.var 3) (.con (.int 2))) (.ty "list"))]) [.ret (.con (.bl false))] [], .ite (.or [.not (.call "_law_row" [.idx (.var 3) (.con (.int 0)), .slc (.var 1) none (some (.var 2))]), .not (.call "_law_row" [.idx (.var 3) (.con (.int 1)), .slc (.var 1) (some (.var 2)) none])]) [.ret (.con (.bl false))] [], .ite (.cmp .ne (.idx (.var 3) (.con (.int 2))) (.lc (.nm 5) .rng2 [.bin .add (.var 2) (.con (.int 1)), .bif .len [.var 1]] [] (.tup [.var 5, .bin .sub (.var 5) (.con (.int 1))]))) [.ret (.con (.bl false))] [], .for_ (.nm 4) (.itp (.ix (.var 3) (.con (.int 2)))) [.ite (.or [.not (.call "_law_is" [.idx (.var 4) (.con (.int 0)), .idx (.var 4) (.con (.int 0))]), .not (.call "_law_is" [.idx (.var 4) (.con (.int 1)), .idx (.var 4) (.con (.int 1))])]) [.ret (.con (.bl false))] []], .app (.ix (.var 3) (.con (.int 0))) true (.idx (.var 0) (.con (.int 0))), .lm (.ix (.var 3) (.con (.int 1))) .clear, .ret (.con (.bl true))]
def f__law_parted : Fd := ⟨["_law_row_here", "_law_told", "_law_at_here", "_law_found", "_law_one", "_law_k"], ["_law_row_here", "_law_told", "_law_at_here"], b__law_parted, false⟩
def b__law_strangers : List S :=
  [.asg 3 .frz (.bin .mod (.bin .fdiv (.var 2) (.con (.int 8))) (.bin .pow (.con (.int 10)) (.con (.int 58)))), .asg 4 .frz (.idx (.lst [.bin .sub (.neg (.con (.int 1))) (.var 3), .bin .sub (.neg (.con (.int 1))) (.bin .mod (.var 3) (.bin .add (.bif .len [.var 0]) (.con (.int 1))))]) (.bin .mod (.bin .fdiv (.var 2) (.con (.int 4))) (.con (.int 2)))), .asg 5 .frz (.idx (.lst [.var 4, .bin .add (.bif .len [.var 0]) (.var 3)]) (.bin .mod (.var 2) (.con (.int 2)))), .asg 6 .frz (.idx (.lst [.var 4, .bin .add (.bin .add (.bif .len [.var 0]) (.con (.int 1))) (.var 3)]) (.bin .mod (.var 2) (.con (.int 2)))), .asg 7 .frz (.lst [.call "_law_asked" [.con (.int 0), .var 0, .var 5, .con .non], .call "_law_asked" [.con (.int 1), .var 0, .var 6, .var 1], .call "_law_asked" [.con (.int 2), .var 0, .var 5, .con .non]]), .ret (.cmp .eq (.lc (.nm 8) .it [.var 7] [] (.idx (.var 8) (.con (.int 0)))) (.lst [.con (.int 3), .con (.int 3), .con (.int 3)]))]
def f__law_strangers : Fd := ⟨["_law_row_here", "_law_deed", "_law_load", "_law_far", "_law_low", "_law_stranger", "_law_place", "_law_asked_here", "_law_one"], ["_law_row_here", "_law_deed", "_law_load"], b__law_strangers, false⟩
def b_law : List S :=
  [.asg 1 .frz (.call "_law_at" [.var 0, .con (.int 0)]), .asg 2 .frz (.slc (.tup [.con (.str "b"), .idx (.con (.str "abcdefgh")) (.bin .mod (.bin .fdiv (.var 1) (.con (.int 4))) (.con (.int 8))), .bin .mul (.con (.str "b")) (.bin .add (.con (.int 1)) (.bin .mod (.bin .fdiv (.var 1) (.con (.int 32))) (.con (.int 8))))]) none (some (.bin .mod (.var 1) (.con (.int 4))))), .asg 3 .frz (.call "_law_number" [.call "_law_at" [.var 0, .con (.int 1)]]), .asg 4 .sh (.lst []), .for_ (.nm 5) (.it (.slc (.var 0) (some (.con (.int 3))) (some (.con (.int 61))))) [.asg 10 .frz (.call "_law_number" [.var 5]), .ite (.cmp .eq (.var 10) (.var 3)) [.asg 10 .frz (.bif .int [.cmp .eq (.var 3) (.con (.int 0))])] [], .app (.var 4) false (.tup [.con (.str "set"), .var 2, .var 3, .var 10]), .asg 3 .frz (.var 10)], .asg 6 .frz (.lc (.nm 11) .it [.var 4] [] (.mk "Set" [.idx (.var 11) (.con (.int 1)), .idx (.var 11) (.con (.int 2)), .idx (.var 11) (.con (.int 3))])), .asg 7 .frz (.mk "Set" [.var 2, .var 3, .bif .int [.cmp .eq (.var 3) (.con (.int 0))]]), .asg 8 .frz (.call "_law_at" [.var 0, .con (.int 2)]), .ite (.not (.call "_law_strangers" [.var 6, .var 7, .var 8])) [.ret (.con (.bl false))] [], .ite (.not (.call "_law_put" [.var 6, .var 4, .bin .mod (.bin .fdiv (.var 8) (.con (.int 16))) (.bin .add (.bif .len [.var 6]) (.con (.int 1))), .var 7, .var 2])) [.ret (.con (.bl false))] [], .ite (.not (.call "_law_put" [.var 6, .var 4, .bif .len [.var 6], .var 7, .var 2])) [.ret (.con (.bl false))] [], .ite (.cmp .eq (.var 4) (.lst [])) [.ret (.con (.bl true))] [], .asg 9 .frz (.bin .mod (.bin .fdiv (.var 8) (.con (.int 16))) (.bif .len [.var 6])), .ite (.cmp .eq (.bin .mod (.var 8) (.con (.int 3))) (.con (.int 1))) [.asg 9 .frz (.bin .sub (.bif .len [.var 6]) (.con (.int 1)))] [], .ite (.or [.not (.call "_law_out" [.var 6, .var 4, .var 9, .var 2]), .not (.call "_law_parted" [.var 6, .var 4, .var 9])]) [.ret (.con (.bl false))] [], .ret (.and [.call "_law_row" [.var 6, .var 4], .call "_law_out" [.var 6, .var 4, .bin .sub (.bif .len [.var 6]) (.con (.int 1)), .var 2]])]
def f_law : Fd := ⟨["_law_script", "_law_cell", "_law_path", "_law_number_here", "_law_told", "_law_load", "_law_row_here", "_law_deed", "_law_draw", "_law_at_here", "_law_new", "_law_one"], ["_law_script"], b_law, false⟩
def ct : CTab := ⟨[(("Set", "back"), ("Set.back", 1)), (("Set", "told"), ("Set.told", 1))], [("Set", ("Set.__init__", 4))], [("Set", "path"), ("Set", "old"), ("Set", "new")], [], ["NoDeed"], [(("NoDeed", "BoughError"), true), (("NoDeed", "Unfit"), false), (("NoDeed", "NoText"), false), (("NoDeed", "Clash"), false), (("NoDeed", "Hangs"), false), (("NoDeed", "NoStand"), false), (("NoDeed", "NoDeed"), true), (("NoDeed", "Empty"), false), (("NoDeed", "NoWord"), false), (("NoDeed", "Twice"), false), (("NoDeed", "NoRoom"), false), (("Hangs", "BoughError"), true), (("Hangs", "Unfit"), false), (("Hangs", "NoText"), false), (("Hangs", "Clash"), false), (("Hangs", "Hangs"), true), (("Hangs", "NoStand"), false), (("Hangs", "NoDeed"), false), (("Hangs", "Empty"), false), (("Hangs", "NoWord"), false), (("Hangs", "Twice"), false), (("Hangs", "NoRoom"), false), (("NoDeed", "ValueError"), true), (("Hangs", "ValueError"), true)], [], [], [("Hangs", ("at", "part"))], [("_law_kind", ["Clash", "Empty", "Hangs", "NoDeed", "NoRoom", "NoStand", "NoText", "NoWord", "Twice", "Unfit"])]⟩
def prog : Prog := ⟨[("Set.__init__", f_Set___init__), ("Set.back", f_Set_back), ("Set.told", f_Set_told), ("both_find", f_both_find), ("clash", f_clash), ("taken_out", f_taken_out), ("put_in", f_put_in), ("parted", f_parted), ("_law_at", f__law_at), ("_law_is", f__law_is), ("_law_number", f__law_number), ("_law_kind", f__law_kind), ("_law_asked", f__law_asked), ("_law_hangs", f__law_hangs), ("_law_row", f__law_row), ("_law_out", f__law_out), ("_law_put", f__law_put), ("_law_parted", f__law_parted), ("_law_strangers", f__law_strangers), ("law", f_law)], [("both_find", 2), ("clash", 2), ("taken_out", 2), ("put_in", 3), ("parted", 2), ("_law_at", 2), ("_law_is", 2), ("_law_number", 1), ("_law_kind", 1), ("_law_asked", 4), ("_law_hangs", 3), ("_law_row", 2), ("_law_out", 4), ("_law_put", 5), ("_law_parted", 3), ("_law_strangers", 3), ("law", 1)], ["Set"], ct, ["BoughError", "Unfit", "NoText", "Clash", "Hangs", "NoStand", "NoDeed", "Empty", "NoWord", "Twice", "NoRoom"]⟩
def gls : List Str := []
def bls : List Str := ["ValueError", "bool", "int", "isinstance", "len", "list", "range", "reversed", "tuple"]
def glv : Str → Option T := fun x => none
@[simp] theorem dv_2 : divOk 2 = true := by decide +kernel
@[simp] theorem dv_4 : divOk 4 = true := by decide +kernel
@[simp] theorem dv_8 : divOk 8 = true := by decide +kernel
@[simp] theorem dv_16 : divOk 16 = true := by decide +kernel
@[simp] theorem dv_32 : divOk 32 = true := by decide +kernel
@[simp] theorem po_10_58 : powOk 10 58 = true := by decide +kernel
@[simp] theorem po_10_60 : powOk 10 60 = true := by decide +kernel
abbrev Φp (d : Nat) : Fns := fnsOf ct (callN prog glv d)
theorem call_Set___init__ (d : Nat) (gs : List G) : callN prog glv (d + 1) "Set.__init__" gs = if gs.length = 4 then backC (lentIx 0 gs) (execs (Φp d) glv (lentIx 0 gs) b_Set___init__ (gs.map some ++ List.replicate (4 - gs.length) none)) else .stk := by rw [← run_eq]; rfl
theorem call_Set_back (d : Nat) (gs : List G) : callN prog glv (d + 1) "Set.back" gs = if gs.length = 1 then backC (lentIx 0 gs) (execs (Φp d) glv (lentIx 0 gs) b_Set_back (gs.map some ++ List.replicate (1 - gs.length) none)) else .stk := by rw [← run_eq]; rfl
theorem call_Set_told (d : Nat) (gs : List G) : callN prog glv (d + 1) "Set.told" gs = if gs.length = 1 then backC (lentIx 0 gs) (execs (Φp d) glv (lentIx 0 gs) b_Set_told (gs.map some ++ List.replicate (1 - gs.length) none)) else .stk := by rw [← run_eq]; rfl
theorem call_both_find (d : Nat) (gs : List G) : callN prog glv (d + 1) "both_find" gs = if gs.length = 2 then backC (lentIx 0 gs) (execs (Φp d) glv (lentIx 0 gs) b_both_find (gs.map some ++ List.replicate (2 - gs.length) none)) else .stk := by rw [← run_eq]; rfl
theorem call_clash (d : Nat) (gs : List G) : callN prog glv (d + 1) "clash" gs = if gs.length = 2 then backC (lentIx 0 gs) (execs (Φp d) glv (lentIx 0 gs) b_clash (gs.map some ++ List.replicate (4 - gs.length) none)) else .stk := by rw [← run_eq]; rfl
theorem call_taken_out (d : Nat) (gs : List G) : callN prog glv (d + 1) "taken_out" gs = if gs.length = 2 then backC (lentIx 0 gs) (execs (Φp d) glv (lentIx 0 gs) b_taken_out (gs.map some ++ List.replicate (7 - gs.length) none)) else .stk := by rw [← run_eq]; rfl
theorem call_put_in (d : Nat) (gs : List G) : callN prog glv (d + 1) "put_in" gs = if gs.length = 3 then backC (lentIx 0 gs) (execs (Φp d) glv (lentIx 0 gs) b_put_in (gs.map some ++ List.replicate (7 - gs.length) none)) else .stk := by rw [← run_eq]; rfl
theorem call_parted (d : Nat) (gs : List G) : callN prog glv (d + 1) "parted" gs = if gs.length = 2 then backC (lentIx 0 gs) (execs (Φp d) glv (lentIx 0 gs) b_parted (gs.map some ++ List.replicate (9 - gs.length) none)) else .stk := by rw [← run_eq]; rfl
theorem call__law_at (d : Nat) (gs : List G) : callN prog glv (d + 1) "_law_at" gs = if gs.length = 2 then backC (lentIx 0 gs) (execs (Φp d) glv (lentIx 0 gs) b__law_at (gs.map some ++ List.replicate (2 - gs.length) none)) else .stk := by rw [← run_eq]; rfl
theorem call__law_is (d : Nat) (gs : List G) : callN prog glv (d + 1) "_law_is" gs = if gs.length = 2 then backC (lentIx 0 gs) (execs (Φp d) glv (lentIx 0 gs) b__law_is (gs.map some ++ List.replicate (2 - gs.length) none)) else .stk := by rw [← run_eq]; rfl
theorem call__law_number (d : Nat) (gs : List G) : callN prog glv (d + 1) "_law_number" gs = if gs.length = 1 then backC (lentIx 0 gs) (execs (Φp d) glv (lentIx 0 gs) b__law_number (gs.map some ++ List.replicate (1 - gs.length) none)) else .stk := by rw [← run_eq]; rfl
theorem call__law_kind (d : Nat) (gs : List G) : callN prog glv (d + 1) "_law_kind" gs = if gs.length = 1 then backC (lentIx 0 gs) (execs (Φp d) glv (lentIx 0 gs) b__law_kind (gs.map some ++ List.replicate (2 - gs.length) none)) else .stk := by rw [← run_eq]; rfl
theorem call__law_asked (d : Nat) (gs : List G) : callN prog glv (d + 1) "_law_asked" gs = if gs.length = 4 then backC (lentIx 0 gs) (execs (Φp d) glv (lentIx 0 gs) b__law_asked (gs.map some ++ List.replicate (8 - gs.length) none)) else .stk := by rw [← run_eq]; rfl
theorem call__law_hangs (d : Nat) (gs : List G) : callN prog glv (d + 1) "_law_hangs" gs = if gs.length = 3 then backC (lentIx 0 gs) (execs (Φp d) glv (lentIx 0 gs) b__law_hangs (gs.map some ++ List.replicate (3 - gs.length) none)) else .stk := by rw [← run_eq]; rfl
theorem call__law_row (d : Nat) (gs : List G) : callN prog glv (d + 1) "_law_row" gs = if gs.length = 2 then backC (lentIx 0 gs) (execs (Φp d) glv (lentIx 0 gs) b__law_row (gs.map some ++ List.replicate (3 - gs.length) none)) else .stk := by rw [← run_eq]; rfl
theorem call__law_out (d : Nat) (gs : List G) : callN prog glv (d + 1) "_law_out" gs = if gs.length = 4 then backC (lentIx 0 gs) (execs (Φp d) glv (lentIx 0 gs) b__law_out (gs.map some ++ List.replicate (6 - gs.length) none)) else .stk := by rw [← run_eq]; rfl
theorem call__law_put (d : Nat) (gs : List G) : callN prog glv (d + 1) "_law_put" gs = if gs.length = 5 then backC (lentIx 0 gs) (execs (Φp d) glv (lentIx 0 gs) b__law_put (gs.map some ++ List.replicate (6 - gs.length) none)) else .stk := by rw [← run_eq]; rfl
theorem call__law_parted (d : Nat) (gs : List G) : callN prog glv (d + 1) "_law_parted" gs = if gs.length = 3 then backC (lentIx 0 gs) (execs (Φp d) glv (lentIx 0 gs) b__law_parted (gs.map some ++ List.replicate (6 - gs.length) none)) else .stk := by rw [← run_eq]; rfl
theorem call__law_strangers (d : Nat) (gs : List G) : callN prog glv (d + 1) "_law_strangers" gs = if gs.length = 3 then backC (lentIx 0 gs) (execs (Φp d) glv (lentIx 0 gs) b__law_strangers (gs.map some ++ List.replicate (9 - gs.length) none)) else .stk := by rw [← run_eq]; rfl
theorem call_law (d : Nat) (gs : List G) : callN prog glv (d + 1) "law" gs = if gs.length = 1 then backC (lentIx 0 gs) (execs (Φp d) glv (lentIx 0 gs) b_law (gs.map some ++ List.replicate (12 - gs.length) none)) else .stk := by rw [← run_eq]; rfl
abbrev i_Set (t0 t1 t2 : T) : T := T.nod (.ins "Set" ["path", "old", "new"]) [t0, t1, t2]
@[simp] theorem fd_Set_path (c : Str → List G → CRes) : (fnsOf ct c).fld "Set" "path" = true := by kernel_rfl
@[simp] theorem fl_Set_path (c : Str → List G → CRes) (t0 t1 t2 : T) : fldG (fnsOf ct c) (.val (i_Set t0 t1 t2)) "path" = .ok (.val t0) := by kernel_rfl
@[simp] theorem fd_Set_old (c : Str → List G → CRes) : (fnsOf ct c).fld "Set" "old" = true := by kernel_rfl
@[simp] theorem fl_Set_old (c : Str → List G → CRes) (t0 t1 t2 : T) : fldG (fnsOf ct c) (.val (i_Set t0 t1 t2)) "old" = .ok (.val t1) := by kernel_rfl
@[simp] theorem fd_Set_new (c : Str → List G → CRes) : (fnsOf ct c).fld "Set" "new" = true := by kernel_rfl
@[simp] theorem fl_Set_new (c : Str → List G → CRes) (t0 t1 t2 : T) : fldG (fnsOf ct c) (.val (i_Set t0 t1 t2)) "new" = .ok (.val t2) := by kernel_rfl
@[simp] theorem me_Set_back (c : Str → List G → CRes) (ts : List T) (gs : List G) : methG (fnsOf ct c) "back" (.val (T.nod (.ins "Set" ["path", "old", "new"]) ts)) gs = if 1 = gs.length + 1 then backR (c "Set.back" (G.args (.val (T.nod (.ins "Set" ["path", "old", "new"]) ts) :: gs))) else .stk := by kernel_rfl
@[simp] theorem me_Set_told (c : Str → List G → CRes) (ts : List T) (gs : List G) : methG (fnsOf ct c) "told" (.val (T.nod (.ins "Set" ["path", "old", "new"]) ts)) gs = if 1 = gs.length + 1 then backR (c "Set.told" (G.args (.val (T.nod (.ins "Set" ["path", "old", "new"]) ts) :: gs))) else .stk := by kernel_rfl
@[simp] theorem meo_Set_back (c : Str → List G → CRes) (o : Bool) (hs gs : List G) : methG (fnsOf ct c) "back" (.nod o (.ins "Set" ["path", "old", "new"]) hs) gs = if 1 = gs.length + 1 then backR (c "Set.back" (G.args (.nod o (.ins "Set" ["path", "old", "new"]) hs :: gs))) else .stk := by kernel_rfl
@[simp] theorem meo_Set_told (c : Str → List G → CRes) (o : Bool) (hs gs : List G) : methG (fnsOf ct c) "told" (.nod o (.ins "Set" ["path", "old", "new"]) hs) gs = if 1 = gs.length + 1 then backR (c "Set.told" (G.args (.nod o (.ins "Set" ["path", "old", "new"]) hs :: gs))) else .stk := by kernel_rfl
@[simp] theorem ini_Set (c : Str → List G → CRes) : ((fnsOf ct c).init "Set").isSome = true := by kernel_rfl
theorem in_Set (c : Str → List G → CRes) (gs : List G) : mkG (fnsOf ct c) "Set" gs = if 4 = gs.length + 1 then madeR (c "Set.__init__" (.nod true (.ins "Set" []) [] :: G.args gs)) else .stk := by kernel_rfl
theorem ne_new_old : ¬ (("new" : Str) = "old") := by decide +kernel
theorem ne_new_path : ¬ (("new" : Str) = "path") := by decide +kernel
theorem ne_old_new : ¬ (("old" : Str) = "new") := by decide +kernel
theorem ne_old_path : ¬ (("old" : Str) = "path") := by decide +kernel
theorem ne_path_new : ¬ (("path" : Str) = "new") := by decide +kernel
theorem ne_path_old : ¬ (("path" : Str) = "old") := by decide +kernel
@[simp] theorem mk_Set (d : Nat) (t0 t1 t2 : T) : mkG (Φp (d + 1)) "Set" [.val t0, .val t1, .val t2] = .ok (.nod true (.ins "Set" ["path", "old", "new"]) [.val t0, .val t1, .val t2]) := by
  rw [in_Set]
  simp [call_Set___init__, b_Set___init__, fldF, fldPut, ne_new_old, ne_new_path, ne_old_new, ne_old_path, ne_path_new, ne_path_old]
end L51
set_option maxRecDepth 100000
namespace L51
open PySem L2 Bv
theorem line : sizeLine = 16777216 := by decide
def sT (p : T) (e : Int × Int) : T := i_Set p (.int e.1) (.int e.2)
def tT (p : T) (e : Int × Int) : T := .nod .tup [.str "set", p, .int e.1, .int e.2]
def bk (e : Int × Int) : Int × Int := (e.2, e.1)
theorem bk_bk (e : Int × Int) : bk (bk e) = e := rfl
section
variable (p : T) (e f : Int × Int) (d : Nat)
theorem told_ok : callN prog glv (d + 1) "Set.told" [.val (sT p e)] = .ok (.val (tT p e)) [] := by
  rw [call_Set_told]
  simp [b_Set_told, sT, tT, line]
theorem back_ok : callN prog glv (d + 2) "Set.back" [.val (sT p e)] = .ok (.nod true (.ins "Set" ["path", "old", "new"]) [.val p, .val (.int e.2), .val (.int e.1)]) [] := by
  rw [call_Set_back]
  simp [b_Set_back, sT]
end
end L51
set_option maxRecDepth 100000
namespace L51
open PySem L2 Bv
def sets : Str := "set"
theorem nin_set : cmpT .nin (.nod .tup [.str ("set" : Str), .str ("set" : Str)]) (.nod .lst [.nod .tup [.str ("set" : Str), .str ("move" : Str)], .nod .tup [.str ("move" : Str), .str ("set" : Str)]]) = .ok true := by
  have h : (dataIn (.nod .tup [.str ("set" : Str), .str ("set" : Str)]) [.nod .tup [.str ("set" : Str), .str ("move" : Str)], .nod .tup [.str ("move" : Str), .str ("set" : Str)]]) = .ok false := by
    unfold dataIn
    simp only [T.pd, T.pds, Option.map]
    have a : (SeqAt.shaped (.tuple [.str ("set" : Str), .str ("set" : Str)]) && SeqAt.shaped (.list [.tuple [.str ("set" : Str), .str ("move" : Str)], .tuple [.str ("move" : Str), .str ("set" : Str)]])) = true := by decide +kernel
    have b : ([PyData.tuple [.str ("set" : Str), .str ("move" : Str)], .tuple [.str ("move" : Str), .str ("set" : Str)]].any fun z => PyData.eqv z (.tuple [.str ("set" : Str), .str ("set" : Str)])) = false := by decide +kernel
    rw [if_pos a, b]
  rw [cmp_nin_tup, h]
  rfl
theorem set_put : eqT (.str ("set" : Str)) (.str ("put" : Str)) = .ok false := by
  rw [eq_str (by unfold sOk; decide +kernel) (by unfold sOk; decide +kernel)]
  congr 1
/-- a tuple -/
structure pathLike (p : T) : Prop where
  wf : wfT 3 p
  tp : ∃ ts, p = .nod .tup ts
theorem isNon_p {p : T} (h : pathLike p) : isNon p = false := by obtain ⟨ts, rfl⟩ := h.tp; rfl
section
variable {p : T} (hp : pathLike p) (e f : Int × Int) (d : Nat)
include hp
theorem ne_self : cmpT .ne p p = .ok false := by
  have h := eq_self (n := 3) hp.wf (by omega)
  show (eqT p p).bind _ = _
  rw [h]
  rfl
theorem both_ok : callN prog glv (d + 1) "both_find" [.val (tT p e), .val (tT p f)] = .ok (.val (.bl true)) [] := by
  rw [call_both_find]
  have h := ne_self hp
  simp [b_both_find, tT, set_put, h, nin_set, line]
theorem clash_ok : callN prog glv (d + 2) "clash" [.val (sT p e), .val (sT p f)] = .ok (.val p) [] := by
  rw [call_clash]
  have h1 := told_ok p e d
  have h2 := told_ok p f d
  have h3 := both_ok hp e f d
  unfold sT at h1 h2
  simp [b_clash, sT, h1, h2]
  unfold tT at h3 ⊢
  simp [h3]
end
end L51
set_option maxRecDepth 100000
namespace L51
open PySem L2 Bv
@[simp] theorem x_nd (c : Str → List G → CRes) : (fnsOf ct c).xcl "NoDeed" = true := by kernel_rfl
@[simp] theorem x_hg (c : Str → List G → CRes) : (fnsOf ct c).xin2 "Hangs" = some (("at" : Str), ("part" : Str)) := by kernel_rfl
theorem rng_head {lo : Int} {n : Nat} (h : 0 < n) : ∃ r, rngT lo n = .int lo :: r := by
  obtain ⟨m, rfl⟩ : ∃ m, n = m + 1 := ⟨n - 1, by omega⟩
  unfold rngT
  rw [List.range_succ_eq_map, List.map_cons]
  exact ⟨_, by simp; rfl⟩
theorem rng_last {lo : Int} {n : Nat} (h : 0 < n) : ∃ r, (rngT lo n).reverse = .int (lo + n - 1) :: r := by
  obtain ⟨m, rfl⟩ : ∃ m, n = m + 1 := ⟨n - 1, by omega⟩
  unfold rngT
  rw [List.range_succ, List.map_append, List.reverse_append]
  exact ⟨_, by
    show T.int (lo + (m : Nat)) :: _ = T.int (lo + ((m + 1 : Nat) : Int) - 1) :: _
    congr 2
    omega⟩
theorem loop_exc {st : T → Bv.Env → Option Bv.Env} {f : Bv.Env → Out} {t : T} {ts : List T} {env env1 env2 : Bv.Env} {x : Exn} (h1 : st t env = some env1) (h2 : f env1 = .exc x env2) : loopT st f (t :: ts) env = .exc x env2 := by
  unfold loopT
  rw [h1]
  simp only [h2]
abbrev sN (p : T) (e : Int × Int) : G := .nod true (.ins "Set" ["path", "old", "new"]) [.val p, .val (.int e.1), .val (.int e.2)]
@[simp] theorem me_b (d : Nat) (p : T) (e : Int × Int) : methG (Φp (d + 2)) "back" (.val (sT p e)) [] = .ok (sN p (bk e)) := by
  have h := back_ok p e d
  unfold sT at h ⊢
  rw [me_Set_back]
  simp [h, bk]
@[simp] theorem me_t (d : Nat) (p : T) (e : Int × Int) : methG (Φp (d + 1)) "told" (.val (sT p e)) [] = .ok (.val (tT p e)) := by
  have h := told_ok p e d
  unfold sT at h ⊢
  rw [me_Set_told]
  simp [h]
@[simp] theorem fold_s (p : T) (a b : Int) : T.nod (.ins "Set" ["path", "old", "new"]) [p, .int a, .int b] = sT p (a, b) := rfl
@[simp] theorem sN_T (p : T) (e : Int × Int) : (sN p e).toT = sT p e := by simp [sN]
/-- what hangs on another one -/
def hang (p : T) (k : Int) : Exn := ⟨"Hangs", [("part", p), ("at", .int k)]⟩
def noDeed : Exn := ⟨"NoDeed", []⟩
theorem out_bad (d : Nat) (ts : List T) (i : Int) (h : i < 0 ∨ (ts.length : Int) ≤ i) : callN prog glv (d + 1) "taken_out" [.val (.nod .lst ts), .val (.int i)] = .exc noDeed [] := by
  rw [call_taken_out]
  by_cases h0 : i < 0
  · simp [b_taken_out, h0]; rfl
  · have h1 : (ts.length : Int) ≤ i := by omega
    simp [b_taken_out, h0, h1]; rfl
section
variable {p : T} (hp : pathLike p) (d : Nat)
include hp
theorem out_hang (L : List (Int × Int)) (hl : L.length ≤ 1000) (i : Nat) (h : i + 1 < L.length) : callN prog glv (d + 4) "taken_out" [.val (.nod .lst (L.map (sT p))), .val (.int i)] = .exc (hang p (i + 1)) [] := by
  rw [call_taken_out]
  have e0 : (L.map (sT p))[i]? = some (sT p L[i]) := by rw [List.getElem?_map, List.getElem?_eq_getElem (by omega)]; rfl
  have e1 : (L.map (sT p))[i + 1]? = some (sT p L[i + 1]) := by rw [List.getElem?_map, List.getElem?_eq_getElem (by omega)]; rfl
  have i0 := idx_lst e0
  have i1 : idxG (.val (.nod .lst (L.map (sT p)))) ((i : Int) + 1) = .ok (.val (sT p L[i + 1])) := idx_lst e1
  have b0 := back_ok p L[i] (d + 1)
  have c0 := clash_ok hp (bk L[i]) L[i + 1] (d + 1)
  have s1 : smallI ((i : Int) + 1) = true := small_ok (by omega) (by omega)
  have s2 : smallI (L.length : Int) = true := small_ok (by omega) (by omega)
  have len : ((L.map (sT p)).length : Int) = L.length := by simp
  obtain ⟨r, hr⟩ := rng_head (lo := (i : Int) + 1) (n := ((L.length : Int) - ((i : Int) + 1)).toNat) (by omega)
  have n0 : ¬ ((i : Int) < 0) := by omega
  have n1 : ¬ ((L.length : Int) ≤ i) := by omega
  simp [b_taken_out, n0, n1, i0, s1, s2, hr]
  rw [loop_exc (st := tgSet [] 0 (Tg.nm 4)) (x := hang p (i + 1)) (by simp [tgSet]; rfl) (by simp [i1, c0, isNon_p hp]; rfl)]
  simp
theorem out_last (L : List (Int × Int)) (hl : L.length ≤ 1000) (i : Nat) (h : i + 1 = L.length) : callN prog glv (d + 4) "taken_out" [.val (.nod .lst (L.map (sT p))), .val (.int i)] = .ok (.nod true .tup [.nod true .lst (((L.take i).map (sT p)).map .val), sN p L[i]]) [] := by
  rw [call_taken_out]
  have e0 : (L.map (sT p))[i]? = some (sT p L[i]) := by rw [List.getElem?_map, List.getElem?_eq_getElem (by omega)]; rfl
  have i0 := idx_lst e0
  have s1 : smallI ((i : Int) + 1) = true := small_ok (by omega) (by omega)
  have s2 : smallI (L.length : Int) = true := small_ok (by omega) (by omega)
  have hr : rngT ((i : Int) + 1) ((L.length : Int) - ((i : Int) + 1)).toNat = [] := by
    rw [show ((L.length : Int) - ((i : Int) + 1)).toNat = 0 by omega]; rfl
  have n0 : ¬ ((i : Int) < 0) := by omega
  have n1 : ¬ ((L.length : Int) ≤ i) := by omega
  have c1 : cutL (L.map (sT p)) none (some (i : Int)) = (L.take i).map (sT p) := by rw [cut_to, List.map_take]
  generalize L.take i = R at c1 ⊢
  simp [-List.map_map, b_taken_out, n0, n1, i0, s1, s2, hr, c1, line, loopT, svarR_nod]
  exact ⟨rfl, rfl⟩
theorem put_hang (L : List (Int × Int)) (hl : L.length ≤ 1000) (i : Nat) (h : i < L.length) (f : Int × Int) : callN prog glv (d + 4) "put_in" [.val (.nod .lst (L.map (sT p))), .val (.int i), .val (sT p f)] = .exc (hang p ((L.length : Int) - 1)) [] := by
  rw [call_put_in]
  have hk : L.length - 1 < L.length := by omega
  have e1 : (L.map (sT p))[L.length - 1]? = some (sT p L[L.length - 1]) := by rw [List.getElem?_map, List.getElem?_eq_getElem hk]; rfl
  have i1 : idxG (.val (.nod .lst (L.map (sT p)))) ((L.length : Int) - 1) = .ok (.val (sT p L[L.length - 1])) := by
    have := idx_lst e1
    rwa [show ((L.length - 1 : Nat) : Int) = (L.length : Int) - 1 by omega] at this
  have c0 := clash_ok hp f (bk L[L.length - 1]) (d + 1)
  have s1 : smallI (i : Int) = true := small_ok (by omega) (by omega)
  have s2 : smallI (L.length : Int) = true := small_ok (by omega) (by omega)
  obtain ⟨r, hr⟩ := rng_last (lo := (i : Int)) (n := L.length - i) (by omega)
  rw [show (i : Int) + ((L.length - i : Nat) : Int) - 1 = (L.length : Int) - 1 by omega] at hr
  have n0 : ¬ ((i : Int) < 0) := by omega
  have n1 : ¬ ((L.length : Int) < i) := by omega
  simp [b_put_in, n0, n1, s1, s2, hr, line]
  rw [loop_exc (st := tgSet [] 0 (Tg.nm 4)) (x := hang p ((L.length : Int) - 1)) (by simp [tgSet]; rfl) (by simp [i1, c0, isNon_p hp]; rfl)]
  simp
theorem put_hang_b (L : List (Int × Int)) (hl : L.length ≤ 1000) (h : 0 < L.length) (f : Int × Int) : callN prog glv (d + 4) "put_in" [.nod false .lst ((L.map (sT p)).map .val), .val (.int 0), .val (sT p f)] = .exc (hang p ((L.length : Int) - 1)) [] := by
  rw [call_put_in]
  have hk : L.length - 1 < L.length := by omega
  have e1 : (L.map (sT p))[L.length - 1]? = some (sT p L[L.length - 1]) := by rw [List.getElem?_map, List.getElem?_eq_getElem hk]; rfl
  have i1 : idxG (.nod false .lst ((L.map (sT p)).map .val)) ((L.length : Int) - 1) = .ok (.val (sT p L[L.length - 1])) := by
    have := idx_nlst (o := false) e1
    rwa [show ((L.length - 1 : Nat) : Int) = (L.length : Int) - 1 by omega] at this
  have c0 := clash_ok hp f (bk L[L.length - 1]) (d + 1)
  have s2 : smallI (L.length : Int) = true := small_ok (by omega) (by omega)
  have s1 : smallI 0 = true := by decide
  obtain ⟨r, hr⟩ := rng_last (lo := 0) (n := L.length) (by omega)
  rw [show (0 : Int) + (L.length : Int) - 1 = (L.length : Int) - 1 by omega] at hr
  have n1 : ¬ ((L.length : Int) < 0) := by omega
  simp [-List.map_map, b_put_in, n1, s1, s2, hr, line]
  rw [loop_exc (st := tgSet [] 0 (Tg.nm 4)) (x := hang p ((L.length : Int) - 1)) (by simp [-List.map_map, tgSet]; rfl) (by simp [-List.map_map, i1, c0, isNon_p hp]; rfl)]
  simp
omit hp in
theorem addNN (o o' : Bool) (xs ys : List T) (h : xs.length + ys.length ≤ sizeLine) : binG .add (.nod o .lst (xs.map .val)) (.nod o' .lst (ys.map .val)) = .ok (.nod true .lst ((xs ++ ys).map .val)) := by
  show (match (G.nod o .lst (xs.map .val)).items, (G.nod o' .lst (ys.map .val)).items with | some xs, some ys => if xs.length + ys.length ≤ sizeLine then Res.ok (G.own .lst (xs ++ ys)) else .stk | _, _ => .stk) = _
  have a : ∀ (o : Bool) (zs : List T), (G.nod o .lst (zs.map .val)).items = some zs := fun o zs => by
    unfold G.items
    simp only [G.parts]
    exact vals_map zs
  rw [a, a]
  simp only
  rw [if_pos h]
  rfl
theorem put_end (L : List (Int × Int)) (hl : L.length ≤ 1000) (f : Int × Int) : callN prog glv (d + 4) "put_in" [.val (.nod .lst (L.map (sT p))), .val (.int L.length), .val (sT p f)] = .ok (.nod true .lst (((L ++ [f]).map (sT p)).map .val)) [] := by
  rw [call_put_in]
  have s2 : smallI (L.length : Int) = true := small_ok (by omega) (by omega)
  have hr : (rngT (L.length : Int) 0).reverse = [] := rfl
  have n0 : ¬ ((L.length : Int) < 0) := by omega
  have c1 : cutL (L.map (sT p)) none (some (L.length : Int)) = L.map (sT p) := by
    rw [cut_to, List.take_of_length_le (by rw [List.length_map]; exact Nat.le_refl _)]
  have a1 := addNN true true (L.map (sT p)) [sT p f] (by rw [line, List.length_map]; simp; omega)
  have a2 := addNN true false (L.map (sT p) ++ [sT p f]) [] (by rw [line]; simp; omega)
  rw [List.append_nil] at a2
  rw [List.map_append (f := sT p)]
  simp only [List.map_cons, List.map_nil] at a1 a2 ⊢
  generalize hX : L.map (sT p) = X at *
  have a3 : binG .add (.nod true .lst (X.map .val ++ [G.val (sT p f)])) (.nod false .lst []) = .ok (.nod true .lst (X.map .val ++ [G.val (sT p f)])) := by
    rw [List.map_append] at a2
    exact a2
  rw [List.map_append] at a1 ⊢
  have hx : X.length = L.length := by rw [← hX, List.length_map]
  simp [-List.map_map, b_put_in, n0, s2, hr, c1, line, loopT, svarR_nod, hx]
  simp only [List.map_cons, List.map_nil] at a1
  rw [a1]
  have fr : G.frees (X.map G.val ++ [G.val (sT p f)]) = true := by
    have := frees_vals (X ++ [sT p f])
    rwa [List.map_append] at this
  simp [a3, fr]
end
theorem put_bad (d : Nat) (ts : List T) (i : Int) (g : T) (h : i < 0 ∨ (ts.length : Int) < i) : callN prog glv (d + 1) "put_in" [.val (.nod .lst ts), .val (.int i), .val g] = .exc noDeed [] := by
  rw [call_put_in]
  by_cases h0 : i < 0
  · simp [b_put_in, h0]; rfl
  · have h1 : (ts.length : Int) < i := by omega
    simp [b_put_in, h0, h1]; rfl
end L51
set_option maxRecDepth 100000
namespace L51
open PySem L2 Bv
/-! ### which exception -/
def kc : List Str := ["Clash", "Empty", "Hangs", "NoDeed", "NoRoom", "NoStand", "NoText", "NoWord", "Twice", "Unfit"]
theorem kd_c (c : Str → List G → CRes) : (fnsOf ct c).xkd "_law_kind" = some kc := by kernel_rfl
theorem kd_h (c : Str → List G → CRes) : kindX (fnsOf ct c) "Hangs" kc = some 2 := by kernel_rfl
theorem kd_n (c : Str → List G → CRes) : kindX (fnsOf ct c) "NoDeed" kc = some 3 := by kernel_rfl
theorem sub_hh (c : Str → List G → CRes) : (fnsOf ct c).xsub "Hangs" "Hangs" = some true := by kernel_rfl
theorem sub_nh (c : Str → List G → CRes) : (fnsOf ct c).xsub "NoDeed" "Hangs" = some false := by kernel_rfl
theorem sub_nb (c : Str → List G → CRes) : (fnsOf ct c).xsub "NoDeed" "BoughError" = some true := by kernel_rfl
theorem xf_at (c : Str → List G → CRes) : xfB (fnsOf ct c) "Hangs" "at" = true := by kernel_rfl
theorem xf_pt (c : Str → List G → CRes) : xfB (fnsOf ct c) "Hangs" "part" = true := by kernel_rfl
theorem lk_at (p : T) (k : Int) : (hang p k).fs.lookup ("at" : Str) = some (.int k) := by rfl
theorem lk_pt (p : T) (k : Int) : (hang p k).fs.lookup ("part" : Str) = some p := by rfl
/-- what is asked -/
def inner (d k : Nat) (row at_ deed : T) : CRes := if k = 0 then callN prog glv d "taken_out" [.val row, .val at_] else if k = 1 then callN prog glv d "put_in" [.val row, .val at_, .val deed] else callN prog glv d "parted" [.val row, .val at_]
abbrev HDS : List (Str × Nat × List HT) := [("Hangs", 7, [.asg 5 (.kd "_law_kind"), .asg 6 (.tp (.f "at") (.f "part"))]), ("BoughError", 7, [.asg 5 (.kd "_law_kind")])]
theorem hev_no (d : Nat) (env : Bv.Env) : heval (Φp d) noDeed env (.kd "_law_kind") = some (.int 3) := by
  show (match (Φp d).xkd ("_law_kind" : Str) with | some Cs => (kindX (Φp d) noDeed.cls Cs).map T.int | none => none) = _
  rw [kd_c]
  show (kindX (Φp d) ("NoDeed" : Str) kc).map T.int = _
  rw [kd_n]
  rfl
theorem hev_hg (d : Nat) (env : Bv.Env) (p : T) (i : Int) : heval (Φp d) (hang p i) env (.kd "_law_kind") = some (.int 2) := by
  show (match (Φp d).xkd ("_law_kind" : Str) with | some Cs => (kindX (Φp d) (hang p i).cls Cs).map T.int | none => none) = _
  rw [kd_c]
  show (kindX (Φp d) ("Hangs" : Str) kc).map T.int = _
  rw [kd_h]
  rfl
theorem hev_at (d : Nat) (env : Bv.Env) (p : T) (i : Int) : heval (Φp d) (hang p i) env (.f "at") = some (.int i) := by
  show (if xfB (Φp d) ("Hangs" : Str) "at" then (hang p i).fs.lookup ("at" : Str) else none) = _
  rw [xf_at, if_pos rfl, lk_at]
theorem hev_pt (d : Nat) (env : Bv.Env) (p : T) (i : Int) : heval (Φp d) (hang p i) env (.f "part") = some p := by
  show (if xfB (Φp d) ("Hangs" : Str) "part" then (hang p i).fs.lookup ("part" : Str) else none) = _
  rw [xf_pt, if_pos rfl, lk_pt]
theorem hev_tp (d : Nat) (env : Bv.Env) (p : T) (i : Int) : heval (Φp d) (hang p i) env (.tp (.f "at") (.f "part")) = some (.nod .tup [.int i, p]) := by
  show (match heval (Φp d) (hang p i) env (.f "at"), heval (Φp d) (hang p i) env (.f "part") with | some t, some u => some (T.nod .tup [t, u]) | _, _ => none) = _
  rw [hev_at, hev_pt]
theorem hds_no (d : Nat) (env : Bv.Env) (hl : env.length = 8) : hdsX (Φp d) [] noDeed HDS env = .nx (((env.set 7 none).set 5 (some (.val (.int 3)))).set 7 none) := by
  rw [hdsX_no (show (Φp d).xsub noDeed.cls "Hangs" = some false from sub_nh _), hdsX_yes (show (Φp d).xsub noDeed.cls "BoughError" = some true from sub_nb _) ⟨by simp, by omega⟩, hrun_asg (hev_no d _) ⟨by simp, by rw [List.length_set]; omega, by decide⟩, hrun_nil]
theorem hds_hg (d : Nat) (env : Bv.Env) (hl : env.length = 8) (p : T) (i : Int) : hdsX (Φp d) [] (hang p i) HDS env = .nx ((((env.set 7 none).set 5 (some (.val (.int 2)))).set 6 (some (.val (.nod .tup [.int i, p])))).set 7 none) := by
  rw [hdsX_yes (show (Φp d).xsub (hang p i).cls "Hangs" = some true from sub_hh _) ⟨by simp, by omega⟩, hrun_asg (hev_hg d _ p i) ⟨by simp, by rw [List.length_set]; omega, by decide⟩, hrun_asg (hev_tp d _ p i) ⟨by simp, by rw [List.length_set, List.length_set]; omega, by decide⟩, hrun_nil]
theorem asked_no (d k : Nat) (hk : k < 3) (row at_ deed : T) (h : inner d k row at_ deed = .exc noDeed []) : callN prog glv (d + 1) "_law_asked" [.val (.int k), .val row, .val at_, .val deed] = .ok (.val (.nod .tup [.int 3, .non, .non])) [] := by
  rw [call__law_asked]
  unfold inner at h
  have hx := hds_no d
  have k3 : k = 0 ∨ k = 1 ∨ k = 2 := by omega
  rcases k3 with rfl | rfl | rfl <;> simp at h <;> simp [b__law_asked, h, hx, line]
theorem asked_hg (d k : Nat) (hk : k < 3) (row at_ deed p : T) (i : Int) (h : inner d k row at_ deed = .exc (hang p i) []) : callN prog glv (d + 1) "_law_asked" [.val (.int k), .val row, .val at_, .val deed] = .ok (.val (.nod .tup [.int 2, .nod .tup [.int i, p], .non])) [] := by
  rw [call__law_asked]
  unfold inner at h
  have hx := fun env hl => hds_hg d env hl p i
  have k3 : k = 0 ∨ k = 1 ∨ k = 2 := by omega
  rcases k3 with rfl | rfl | rfl <;> simp at h <;> simp [b__law_asked, h, hx, line]
theorem asked_ok (d k : Nat) (hk : k < 3) (row at_ deed : T) (kd : Kd) (gs : List G) (hf : G.frees gs = true) (h : inner d k row at_ deed = .ok (.nod true kd gs) []) : callN prog glv (d + 1) "_law_asked" [.val (.int k), .val row, .val at_, .val deed] = .ok (.nod true .tup [.val (.int (-2)), .val .non, .nod true kd gs]) [] := by
  rw [call__law_asked]
  unfold inner at h
  have hfr : (G.nod true kd gs).free = true := by unfold G.free; rw [hf]; rfl
  have k3 : k = 0 ∨ k = 1 ∨ k = 2 := by omega
  rcases k3 with rfl | rfl | rfl <;> simp at h <;> simp [b__law_asked, h, line, hf, svarR_nod]
end L51
set_option maxRecDepth 100000
namespace L51
open PySem L2 Bv
theorem part_bad (d : Nat) (ts : List T) (i : Int) (h : i < 0 ∨ (ts.length : Int) ≤ i) : callN prog glv (d + 1) "parted" [.val (.nod .lst ts), .val (.int i)] = .exc noDeed [] := by
  rw [call_parted]
  by_cases h0 : i < 0
  · simp [b_parted, h0]; rfl
  · have h1 : (ts.length : Int) ≤ i := by omega
    simp [b_parted, h0, h1]; rfl
theorem heIx_lst (o : Bool) {ts : List T} {n : Nat} {t : T} (h : ts[n]? = some t) : heIx (n : Int) (.nod o .lst (ts.map .val)) = some t := by
  have hl := (List.getElem?_eq_some_iff.mp h).1
  unfold heIx
  simp only [G.parts]
  have : atI (ts.map G.val) (n : Int) = some (.val t) := by
    unfold atI
    rw [List.length_map, ixN_nat hl]
    show (ts.map G.val)[n]? = _
    rw [List.getElem?_map, h]
    rfl
  rw [this]
theorem heIx_val {ts : List T} {n : Nat} {t : T} (h : ts[n]? = some t) : heIx (n : Int) (.val (.nod .lst ts)) = some t := heIx_lst true h
abbrev HD2 : List (Str × Nat × List HT) := [("Hangs", 7, [.app 5 (.tp (.v 6) (.ix 4 (.f "at"))), .app 3 (.ix 0 (.v 6)), .app 4 (.v 6)])]
theorem hand_ok (d : Nat) (p : T) (R : List T) (a1 a2 a8 : Option G) (out nums rs : List T) (n k : Nat) (z q : T) (e1 : nums[k]? = some z) (e2 : R[n]? = some q) (l1 : out.length ≤ 1000) (l2 : nums.length ≤ 1000) (l3 : rs.length ≤ 1000) :
    hdsX (Φp d) [] (hang p k) HD2 [some (.val (.nod .lst R)), a1, a2, some (.nod true .lst (out.map .val)), some (.nod true .lst (nums.map .val)), some (.nod true .lst (rs.map .val)), some (.val (.int n)), none, a8] =
    .nx [some (.val (.nod .lst R)), a1, a2, some (.nod true .lst ((out ++ [q]).map .val)), some (.nod true .lst ((nums ++ [T.int n]).map .val)), some (.nod true .lst ((rs ++ [T.nod .tup [.int n, z]]).map .val)), some (.val (.int n)), none, a8] := by
  rw [hdsX_yes (show (Φp d).xsub (hang p k).cls "Hangs" = some true from sub_hh _) ⟨by simp, by simp⟩]
  have hv : ∀ env : Bv.Env, env[6]? = some (some (.val (.int n))) → heval (Φp d) (hang p k) env (.v 6) = some (.int n) := fun env h => by
    unfold heval
    rw [h]
  have hi : ∀ env : Bv.Env, env[4]? = some (some (.nod true .lst (nums.map .val))) → heval (Φp d) (hang p k) env (.ix 4 (.f "at")) = some z := fun env h => by
    unfold heval
    rw [hev_at]
    simp only [h]
    exact heIx_lst true e1
  have hr : ∀ env : Bv.Env, env[6]? = some (some (.val (.int n))) → env[0]? = some (some (.val (.nod .lst R))) → heval (Φp d) (hang p k) env (.ix 0 (.v 6)) = some q := fun env h h0 => by
    unfold heval
    rw [hv env h]
    simp only [h0]
    exact heIx_val e2
  have ht : ∀ env : Bv.Env, env[6]? = some (some (.val (.int n))) → env[4]? = some (some (.nod true .lst (nums.map .val))) → heval (Φp d) (hang p k) env (.tp (.v 6) (.ix 4 (.f "at"))) = some (.nod .tup [.int n, z]) := fun env h h4 => by
    unfold heval
    rw [hv env h, hi env h4]
  rw [hrun_app (ht _ rfl rfl) (gs := rs.map .val) rfl (by rw [List.length_map, line]; omega)]
  rw [hrun_app (hr _ rfl rfl) (gs := out.map .val) rfl (by rw [List.length_map, line]; omega)]
  rw [hrun_app (hv _ rfl) (gs := nums.map .val) rfl (by rw [List.length_map, line]; omega)]
  rw [hrun_nil]
  simp [-List.map_map]
end L51
namespace L51
open PySem L2 Bv
def reasT (i m : Nat) : List T := (List.range m).map fun k => T.nod .tup [.int ((i + 1 + k : Nat) : Int), .int ((i + k : Nat) : Int)]
theorem reasT_succ (i m : Nat) : reasT i (m + 1) = reasT i m ++ [T.nod .tup [.int ((i + 1 + m : Nat) : Int), .int ((i + m : Nat) : Int)]] := by
  unfold reasT
  rw [List.range_succ, List.map_append]
  rfl
def numsT (i m : Nat) : List T := (List.range m).map fun k => T.int ((i + k : Nat) : Int)
theorem numsT_succ (i m : Nat) : numsT i (m + 1) = numsT i m ++ [T.int ((i + m : Nat) : Int)] := by
  unfold numsT
  rw [List.range_succ, List.map_append]
  rfl
theorem numsT_len (i m : Nat) : (numsT i m).length = m := by unfold numsT; simp
theorem reasT_len (i m : Nat) : (reasT i m).length = m := by unfold reasT; simp
theorem numsT_get {i m k : Nat} (h : k < m) : (numsT i m)[k]? = some (T.int ((i + k : Nat) : Int)) := by
  unfold numsT
  rw [List.getElem?_map, List.getElem?_range h]
  rfl
theorem bd_ok (c : Str → List G → CRes) (W : List T) (a1 a2 a4 a5 a7 a8 : Option G) (X : List T) (n : Nat) (q : T) (x : Exn) (inn : idxG (.val (.nod .lst W)) (n : Int) = .ok (.val q)) (pc : c "put_in" [.nod false .lst (X.map .val), .val (.int 0), .val q] = .exc x []) :
    Bv.execs (fnsOf ct c) glv [] [S.asgX 8 Ow.frz (EX.call (Str.ofString "put_in") [E.var 3, E.con (T.int 0), (E.var 0).idx (E.var 6)])] [some (.val (.nod .lst W)), a1, a2, some (.nod true .lst (X.map .val)), a4, a5, some (.val (.int (n : Int))), a7, a8] =
      .exc x [some (.val (.nod .lst W)), a1, a2, some (.nod true .lst (X.map .val)), a4, a5, some (.val (.int (n : Int))), a7, a8] := by
  simp [-List.map_map, inn, pc]
section
variable {p : T} (hp : pathLike p) (d : Nat)
include hp
theorem part_ok (L : List (Int × Int)) (hl : L.length ≤ 900) (i : Nat) (h : i < L.length) : callN prog glv (d + 5) "parted" [.val (.nod .lst (L.map (sT p))), .val (.int i)] =
    .ok (.nod true .tup [.nod true .lst (((L.take i).map (sT p)).map .val), .nod true .lst (((L.drop i).map (sT p)).map .val), .nod true .lst ((reasT i (L.length - (i + 1))).map .val)]) [] := by
  rw [call_parted]
  have e0 : (L.map (sT p))[i]? = some (sT p L[i]) := by rw [List.getElem?_map, List.getElem?_eq_getElem h]; rfl
  have i0 := idx_lst e0
  have s1 : smallI ((i : Int) + 1) = true := small_ok (by omega) (by omega)
  have s2 : smallI (L.length : Int) = true := small_ok (by omega) (by omega)
  have n0 : ¬ ((i : Int) < 0) := by omega
  have n1 : ¬ ((L.length : Int) ≤ i) := by omega
  have c1 : cutL (L.map (sT p)) none (some (i : Int)) = (L.take i).map (sT p) := by rw [cut_to, List.map_take]
  have hm : ((L.length : Int) - ((i : Int) + 1)).toNat = L.length - (i + 1) := by omega
  have dl : (L.drop i).length = L.length - i := List.length_drop
  have dg : ∀ k, (L.drop i)[k]? = L[i + k]? := fun k => by rw [List.getElem?_drop]
  generalize L.take i = R at c1 ⊢
  generalize L.drop i = D at dl dg ⊢
  simp [-List.map_map, b_parted, n0, n1, i0, s1, s2, c1, line, hm]
  have d0 : D[0]? = some L[i] := by rw [dg, Nat.add_zero, List.getElem?_eq_getElem h]
  refine loop_out (Post := fun o => backC [] (seqO (Φp (d + 4)) glv [] [S.ret (E.tup [E.var 2, E.var 3, E.var 5])] o) = CRes.ok (G.nod true Kd.tup [G.nod true Kd.lst (List.map G.val (List.map (sT p) R)), G.nod true Kd.lst (List.map G.val (List.map (sT p) D)), G.nod true Kd.lst (List.map G.val (reasT i (L.length - (i + 1))))]) [])
    (Iv := fun j env => ∃ a6 : Option G, env = [some (.val (.nod .lst (L.map (sT p)))), some (.val (.int (i : Int))), some (.nod true .lst ((R.map (sT p)).map .val)), some (.nod true .lst (((D.take (j + 1)).map (sT p)).map .val)), some (.nod true .lst ((numsT i (j + 1)).map .val)), some (.nod true .lst ((reasT i j).map .val)), a6, none, none]) ?_ ?_ ?_
  · refine ⟨none, ?_⟩
    have t0 : D.take (0 + 1) = [L[i]] := by
      cases D with
      | nil => cases d0
      | cons x D => cases d0; rfl
    rw [t0]
    rfl
  · rintro j t env ht ⟨a6, rfl⟩
    obtain ⟨hj, rfl⟩ := rngT_get ht
    have ej : ((i : Int) + 1 + (j : Nat)) = ((i + 1 + j : Nat) : Int) := by omega
    rw [ej]
    have hn : i + 1 + j < L.length := by omega
    have en : (L.map (sT p))[i + 1 + j]? = some (sT p L[i + 1 + j]) := by rw [List.getElem?_map, List.getElem?_eq_getElem hn]; rfl
    have inn := idx_lst en
    have tl : (D.take (j + 1)).length = j + 1 := by rw [List.length_take]; omega
    have pc := put_hang_b hp d (D.take (j + 1)) (by omega) (by omega) L[i + 1 + j]
    rw [tl, show ((j + 1 : Nat) : Int) - 1 = (j : Int) by omega] at pc
    have tk : D.take (j + 1 + 1) = D.take (j + 1) ++ [L[i + 1 + j]] := by
      have : D[j + 1]? = some L[i + 1 + j] := by rw [dg, show i + (j + 1) = i + 1 + j by omega, List.getElem?_eq_getElem hn]
      obtain ⟨hb, hv⟩ := List.getElem?_eq_some_iff.mp this
      rw [List.take_succ_eq_append_getElem hb, hv]
    have hh := hand_ok (d + 4) p (L.map (sT p)) (some (.val (.int (i : Int)))) (some (.nod true .lst ((R.map (sT p)).map .val))) none ((D.take (j + 1)).map (sT p)) (numsT i (j + 1)) (reasT i j) (i + 1 + j) j _ _ (numsT_get (Nat.lt_succ_self j)) en (by rw [List.length_map]; omega) (by rw [numsT_len]; omega) (by rw [reasT_len]; omega)
    have e1 : (D.take (j + 1)).map (sT p) ++ [sT p L[i + 1 + j]] = (D.take (j + 1 + 1)).map (sT p) := by rw [tk, List.map_append]; rfl
    have e2 : numsT i (j + 1) ++ [T.int ((i + 1 + j : Nat) : Int)] = numsT i (j + 1 + 1) := by
      rw [numsT_succ i (j + 1), show i + (j + 1) = i + 1 + j by omega]
    rw [e1, e2, ← reasT_succ] at hh
    generalize (D.take (j + 1)).map (sT p) = X at pc hh ⊢
    generalize numsT i (j + 1) = Y at hh ⊢
    generalize reasT i j = Z at hh ⊢
    generalize L.map (sT p) = W at inn hh ⊢
    refine ⟨_, by simp [-List.map_map, -Int.natCast_add, tgSet]; rfl, ?_⟩
    have bd := bd_ok (callN prog glv (d + 4)) W (some (.val (.int (i : Int)))) (some (.nod true .lst ((R.map (sT p)).map .val))) (some (.nod true .lst (Y.map .val))) (some (.nod true .lst (Z.map .val))) none none X (i + 1 + j) _ _ inn pc
    simp only [ex_cons, ex_nil, ex_tryM, bd, tryMO_exc]
    rw [hh]
    exact ⟨_, rfl⟩
  · rintro env ⟨a6, rfl⟩
    rw [rngT_len]
    have t1 : D.take (L.length - (i + 1) + 1) = D := List.take_of_length_le (by omega)
    rw [t1]
    simp [-List.map_map, svarR_nod, line]
end
end L51
set_option maxRecDepth 100000
namespace L51
open PySem L2 Bv
theorem is_ok (d : Nat) (a b : Int) : callN prog glv (d + 1) "_law_is" [.val (.int a), .val (.int b)] = .ok (.val (.bl (decide (a = b)))) [] := by
  rw [call__law_is]
  by_cases h : a = b <;> simp [b__law_is, h]
section
variable {p : T} (hp : pathLike p)
include hp
theorem eq_p : eqT p p = .ok true := eq_self (n := 3) hp.wf (by omega)
theorem hangs_ok (d : Nat) (k : Int) : callN prog glv (d + 2) "_law_hangs" [.val (.nod .tup [.int 2, .nod .tup [.int k, p], .non]), .val (.int k), .val p] = .ok (.val (.bl true)) [] := by
  rw [call__law_hangs]
  have h := is_ok d k k
  have e := eq_p hp
  have t : isiT p (.ty "tuple") = .ok true := by obtain ⟨ts, rfl⟩ := hp.tp; simp
  simp [b__law_hangs, h, e, t]
theorem wf_tT (e : Int × Int) : wfT 4 (tT p e) := by
  intro t ht
  simp only [List.mem_cons, List.not_mem_nil, or_false] at ht
  rcases ht with rfl | rfl | rfl | rfl
  · show sOk ("set" : Str)
    unfold sOk; decide +kernel
  · exact hp.wf
  · trivial
  · trivial
theorem eq_tolds (L : List (Int × Int)) : eqT (.nod .lst (L.map (tT p))) (.nod .lst (L.map (tT p))) = .ok true := by
  refine eq_self (n := 5) ?_ (by omega)
  intro t ht
  obtain ⟨e, _, rfl⟩ := List.mem_map.mp ht
  exact wf_tT hp e
omit hp in
theorem lcT_of {A : Type} {st : T → Bv.Env → Option Bv.Env} {c : Bv.Env → Res Bool} {f : Bv.Env → Res G} {env : Bv.Env} (i : A → T) (g : A → G) : ∀ {xs : List A}, (∀ a ∈ xs, ∃ e1, st (i a) env = some e1 ∧ c e1 = .ok true ∧ f e1 = .ok (g a) ∧ (g a).free = true) → lcT st c f env (xs.map i) = .ok (xs.map g)
  | [], _ => rfl
  | a :: xs, H => by
    obtain ⟨e1, h1, h2, h3, h4⟩ := H a List.mem_cons_self
    rw [List.map_cons, List.map_cons]
    unfold lcT
    rw [h1]
    simp only [h2, h3, Res.bind, h4, if_true]
    rw [lcT_of i g fun b hb => H b (List.mem_cons_of_mem _ hb)]
omit hp in
theorem st_one {k : Nat} {t : T} {env : Bv.Env} (h : k < env.length) : tgSet [] 0 (.nm k) t env = some (env.set k (some (.val t))) := by
  unfold tgSet; exact if_pos ⟨by simp, h⟩
omit hp in
theorem told_lc (d k : Nat) (p : T) (L : List (Int × Int)) (env : Bv.Env) (hk : k < env.length) : lcT (tgSet [] 0 (.nm k)) (fun env1 => evAnd (Φp (d + 1)) glv env1 []) (fun env1 => ev (Φp (d + 1)) glv env1 (.meth (.var k) "told" [])) (wipeE (tgIs (.nm k)) env) (L.map (sT p)) = .ok ((L.map (tT p)).map .val) := by
  rw [List.map_map]
  have hl : k < (wipeE (tgIs (.nm k)) env).length := by show k < (env.set k none).length; rw [List.length_set]; exact hk
  refine lcT_of (sT p) _ fun D hD => ⟨_, st_one hl, by simp, ?_, by simp⟩
  simp [hl]
theorem row_ok (d : Nat) (L : List (Int × Int)) (hl : L.length ≤ 1000) (g u : G) (hu : u = .val (.nod .lst (L.map (tT p))) ∨ u = .nod false .lst ((L.map (tT p)).map .val)) (hg : g = .val (.nod .lst (L.map (sT p))) ∨ g = .nod false .lst ((L.map (sT p)).map .val)) : callN prog glv (d + 2) "_law_row" [g, u] = .ok (.val (.bl true)) [] := by
  rw [call__law_row]
  have e9 := eq_tolds hp L
  have lx : (L.map (sT p)).length ≤ sizeLine := by rw [List.length_map, line]; omega
  have fin : ∀ (env : Bv.Env), 2 < env.length → env[0]? = some (some g) → g.bor = g → itG .it [g] = .ok (L.map (sT p)) → ev (Φp (d + 1)) glv env (.lc (.nm 2) .it [.var 0] [] (.meth (.var 2) "told" [])) = .ok (.nod true .lst ((L.map (tT p)).map .val)) := fun env l2 e0 hb hi => by
    have lg := lcG_ok (Φ := Φp (d + 1)) (gl := glv) (env := env) (L.map (sT p)) (.nm 2) [] (.meth (.var 2) "told" [])
    rw [if_pos lx, told_lc d 2 p L env l2] at lg
    simp only [Res.bind] at lg
    rw [ev_lc]
    have e1 : evs (Φp (d + 1)) glv env [.var 0] = .ok [g] := by
      rw [evs_cons, evs_nil, ev_var, e0]
      simp [hb]
    rw [e1, lcR_ok, hi, lg]
  rcases hg with rfl | rfl <;> rcases hu with rfl | rfl
  · have f := fin [some (.val (.nod .lst (L.map (sT p)))), some (.val (.nod .lst (L.map (tT p)))), none] (by simp) rfl (by simp) (by simp)
    simp [-List.map_map, -ev_lc, b__law_row, f, e9]
  · have f := fin [some (.val (.nod .lst (L.map (sT p)))), some (.nod false .lst ((L.map (tT p)).map .val)), none] (by simp) rfl (by simp) (by simp)
    simp [-List.map_map, -ev_lc, b__law_row, f, e9]
  · have f := fin [some (.nod false .lst ((L.map (sT p)).map .val)), some (.val (.nod .lst (L.map (tT p)))), none] (by simp) rfl (by simp [-List.map_map]) (by simp [-List.map_map])
    simp [-List.map_map, -ev_lc, b__law_row, f, e9]
  · have f := fin [some (.nod false .lst ((L.map (sT p)).map .val)), some (.nod false .lst ((L.map (tT p)).map .val)), none] (by simp) rfl (by simp [-List.map_map]) (by simp [-List.map_map])
    simp [-List.map_map, -ev_lc, b__law_row, f, e9]
end
end L51
set_option maxRecDepth 100000
namespace L51
open PySem L2 Bv
theorem told_b (d : Nat) (p : T) (e : Int × Int) : callN prog glv (d + 1) "Set.told" [.nod false (.ins "Set" ["path", "old", "new"]) [.val p, .val (.int e.1), .val (.int e.2)]] = .ok (.val (tT p e)) [] := by
  rw [call_Set_told]
  have f0 : ∀ (c : Str → List G → CRes) (a b e : G), fldG (fnsOf ct c) (.nod false (.ins "Set" ["path", "old", "new"]) [a, b, e]) "path" = .ok a := fun c a b e => by kernel_rfl
  have f1 : ∀ (c : Str → List G → CRes) (a b e : G), fldG (fnsOf ct c) (.nod false (.ins "Set" ["path", "old", "new"]) [a, b, e]) "old" = .ok b := fun c a b e => by kernel_rfl
  have f2 : ∀ (c : Str → List G → CRes) (a b e : G), fldG (fnsOf ct c) (.nod false (.ins "Set" ["path", "old", "new"]) [a, b, e]) "new" = .ok e := fun c a b e => by kernel_rfl
  simp [b_Set_told, tT, line, f0, f1, f2]
@[simp] theorem n2_0 (o : Bool) (a b : G) : idxG (.nod o .tup [a, b]) 0 = .ok a := rfl
@[simp] theorem n2_1 (o : Bool) (a b : G) : idxG (.nod o .tup [a, b]) 1 = .ok b := rfl
@[simp] theorem n3_0 (o : Bool) (a b c : G) : idxG (.nod o .tup [a, b, c]) 0 = .ok a := rfl
@[simp] theorem n3_1 (o : Bool) (a b c : G) : idxG (.nod o .tup [a, b, c]) 1 = .ok b := rfl
@[simp] theorem n3_2 (o : Bool) (a b c : G) : idxG (.nod o .tup [a, b, c]) 2 = .ok c := rfl
@[simp] theorem at2_0 (k : Kd) (a b : G) : (G.nod true k [a, b]).at [0] = some a := by simp [G.at]
@[simp] theorem put2_0 (o : Bool) (k : Kd) (a b x : G) : (G.nod o k [a, b]).put [0] x = .nod o k [x, b] := by simp [G.put]
@[simp] theorem at3_0 (k : Kd) (a b c : G) : (G.nod true k [a, b, c]).at [0] = some a := by simp [G.at]
@[simp] theorem put3_0 (o : Bool) (k : Kd) (a b c x : G) : (G.nod o k [a, b, c]).put [0] x = .nod o k [x, b, c] := by simp [G.put]
@[simp] theorem at3_1 (k : Kd) (a b c : G) : (G.nod true k [a, b, c]).at [1] = some b := by simp [G.at]
@[simp] theorem put3_1 (o : Bool) (k : Kd) (a b c x : G) : (G.nod o k [a, b, c]).put [1] x = .nod o k [a, x, c] := by simp [G.put]
@[simp] theorem at3_2 (k : Kd) (a b c : G) : (G.nod true k [a, b, c]).at [2] = some c := by simp [G.at]
@[simp] theorem put3_2 (o : Bool) (k : Kd) (a b c x : G) : (G.nod o k [a, b, c]).put [2] x = .nod o k [a, b, x] := by simp [G.put]
@[simp] theorem ix20 : ixN 2 0 = some 0 := rfl
@[simp] theorem ix30 : ixN 3 0 = some 0 := rfl
@[simp] theorem ix31 : ixN 3 1 = some 1 := rfl
@[simp] theorem ix32 : ixN 3 2 = some 2 := rfl
@[simp] theorem len_tup (ts : List T) : lenT (.nod .tup ts) = .ok (ts.length : Int) := rfl
theorem out2_core (d : Nat) {p : T} (W U : List T) (R : List (Int × Int)) (e : Int × Int) (i : Nat) (x : T) (nlt : ¬ ((i : Int) < (U.length : Int) - 1)) (ha : callN prog glv (d + 7) "_law_asked" [.val (.int 0), .val (.nod .lst W), .val (.int i), .val .non] = .ok (.nod true .tup [.val (.int (-2)), .val .non, .nod true .tup [.nod true .lst ((R.map (sT p)).map .val), sN p e]]) [])
    (c1 : cutL U none (some (-1)) = R.map (tT p)) (i1 : idxG (.nod false .lst (U.map .val)) (-1) = .ok (.val (tT p e))) (i0 : idxG (.val (.nod .lst W)) 0 = .ok (.val x)) (rw_ : callN prog glv (d + 7) "_law_row" [.nod false .lst ((R.map (sT p)).map .val), .val (.nod .lst (R.map (tT p)))] = .ok (.val (.bl true)) [])
    (tb : callN prog glv (d + 7) "Set.told" [.nod false (.ins "Set" ["path", "old", "new"]) [.val p, .val (.int e.1), .val (.int e.2)]] = .ok (.val (tT p e)) []) (ee : eqT (tT p e) (tT p e) = .ok true) (lR : R.length ≤ 1000) : callN prog glv (d + 8) "_law_out" [.val (.nod .lst W), .nod false .lst (U.map .val), .val (.int i), .val p] = .ok (.val (.bl true)) [] := by
  rw [call__law_out]
  simp [-List.map_map, b__law_out, ha, nlt]
  rw [takeX_ok (P := []) (i := 5) (j := 4) (k := 2) (gs := [.val (.int (-2)), .val .non, .nod true .tup [.nod true .lst ((R.map (sT p)).map .val), sN p e]]) rfl rfl ⟨by simp [-List.map_map], by simp, by simp, by decide, by simp⟩]
  have lr : R.length < 16777216 := by omega
  simp [-List.map_map, c1, i1, i0, rw_, tb, ee, line, lr]
section
variable {p : T} (hp : pathLike p) (d : Nat)
include hp
theorem out_law1 (L : List (Int × Int)) (hl : L.length ≤ 900) (i : Nat) (h : i + 1 < L.length) : callN prog glv (d + 8) "_law_out" [.val (.nod .lst (L.map (sT p))), .nod false .lst ((L.map (tT p)).map .val), .val (.int i), .val p] = .ok (.val (.bl true)) [] := by
  rw [call__law_out]
  have a0 := asked_hg (d + 6) 0 (by decide) (.nod .lst (L.map (sT p))) (.int i) .non p (i + 1) (by unfold inner; rw [if_pos rfl]; exact out_hang hp (d + 2) L (by omega) i h)
  have hh := hangs_ok hp (d + 5) ((i : Int) + 1)
  have lt : ((i : Int) < (L.length : Int) - 1) := by omega
  simp at a0
  simp [-List.map_map, b__law_out, a0, lt, hh]
theorem out_law2 (L : List (Int × Int)) (hl : L.length ≤ 900) (i : Nat) (h : i + 1 = L.length) : callN prog glv (d + 8) "_law_out" [.val (.nod .lst (L.map (sT p))), .nod false .lst ((L.map (tT p)).map .val), .val (.int i), .val p] = .ok (.val (.bl true)) [] := by
  rw [call__law_out]
  have a0 := asked_ok (d + 6) 0 (by decide) (.nod .lst (L.map (sT p))) (.int i) .non .tup [.nod true .lst (((L.take i).map (sT p)).map .val), sN p L[i]] (by simp [-List.map_map, -List.map_take]) (by unfold inner; rw [if_pos rfl]; exact out_last hp (d + 2) L (by omega) i h)
  have nlt : ¬ ((i : Int) < (L.length : Int) - 1) := by omega
  simp only [Nat.add_assoc, Nat.reduceAdd] at a0
  have la : L = L.take i ++ [L[i]] := by
    have := List.take_append_getElem (l := L) (i := i) (by omega)
    rw [this, List.take_of_length_le (by omega)]
  have lt : (L.take i).length = i := by rw [List.length_take]; omega
  have c1 : cutL (L.map (tT p)) none (some (-1)) = (L.take i).map (tT p) := by
    conv => lhs; rw [la]
    rw [List.map_append]
    exact cut_init _ _
  have i1 : idxG (.nod false .lst ((L.map (tT p)).map .val)) (-1) = .ok (.val (tT p L[i])) := by
    conv => lhs; rw [la]
    rw [List.map_append]
    show (match atI ((((L.take i).map (tT p)) ++ [tT p L[i]]).map G.val) (-1) with | some x => Res.ok x | none => .stk) = _
    rw [List.map_append]
    have := L2.atI_last (((L.take i).map (tT p)).map G.val) (G.val (tT p L[i]))
    simp only [List.map_cons, List.map_nil]
    rw [this]
  have e0 : (L.map (sT p))[0]? = some (sT p L[0]) := by rw [List.getElem?_map, List.getElem?_eq_getElem (by omega)]; rfl
  have i0 : idxG (.val (.nod .lst (L.map (sT p)))) 0 = .ok (.val (sT p L[0])) := idx_lst e0
  have rw_ := row_ok hp (d + 5) (L.take i) (by omega) _ _ (.inl rfl) (.inr rfl)
  have tb := told_b (d + 6) p L[i]
  have ee : eqT (tT p L[i]) (tT p L[i]) = .ok true := eq_self (n := 4) (wf_tT hp _) (by omega)
  have lU : (L.map (tT p)).length = L.length := by rw [List.length_map]
  exact out2_core d _ _ _ _ i (sT p L[0]) (by rw [lU]; exact nlt) a0 c1 i1 i0 rw_ tb ee (by omega)
end
end L51
set_option maxRecDepth 100000
namespace L51
open PySem L2 Bv
theorem addVN (xs ys : List T) (h : xs.length + ys.length ≤ sizeLine) : binG .add (.val (.nod .lst xs)) (.nod true .lst (ys.map .val)) = .ok (.nod true .lst ((xs ++ ys).map .val)) := by
  show (match (G.val (.nod .lst xs)).items, (G.nod true .lst (ys.map .val)).items with
    | some xs, some ys => if xs.length + ys.length ≤ sizeLine then Res.ok (G.own .lst (xs ++ ys)) else .stk
    | _, _ => .stk) = _
  simp [h]
section
variable {p : T} (hp : pathLike p) (d : Nat)
include hp
theorem put_law1 (L : List (Int × Int)) (hl : L.length ≤ 900) (i : Nat) (h : i < L.length) (f : Int × Int) : callN prog glv (d + 8) "_law_put" [.val (.nod .lst (L.map (sT p))), .nod false .lst ((L.map (tT p)).map .val), .val (.int i), .val (sT p f), .val p] = .ok (.val (.bl true)) [] := by
  rw [call__law_put]
  have a0 := asked_hg (d + 6) 1 (by decide) (.nod .lst (L.map (sT p))) (.int i) (sT p f) p ((L.length : Int) - 1) (by unfold inner; rw [if_neg (by decide), if_pos rfl]; exact put_hang hp (d + 2) L (by omega) i h f)
  have hh := hangs_ok hp (d + 5) ((L.length : Int) - 1)
  simp only [Nat.add_assoc, Nat.reduceAdd] at a0 hh
  have ha : callN prog glv (d + 7) "_law_asked" [.val (.int 1), .val (.nod .lst (L.map (sT p))), .val (.int i), .val (sT p f)] = .ok (.val (.nod .tup [.int 2, .nod .tup [.int ((L.length : Int) - 1), p], .non])) [] := a0
  have lt : ((i : Int) < (L.length : Int)) := by omega
  simp [-List.map_map, b__law_put, ha, lt, hh]
omit hp in
theorem put2_core (W U : List T) (L : List (Int × Int)) (f : Int × Int) (hw : callN prog glv (d + 7) "_law_asked" [.val (.int 1), .val (.nod .lst W), .val (.int U.length), .val (sT p f)] = .ok (.nod true .tup [.val (.int (-2)), .val .non, .nod true .lst ((L.map (sT p)).map .val)]) []) (hU : binG .add (.nod false .lst (U.map .val)) (.nod true .lst [.val (tT p f)]) = .ok (.nod true .lst ((L.map (tT p)).map .val)))
    (hr : callN prog glv (d + 7) "_law_row" [.nod false .lst ((L.map (sT p)).map .val), .val (.nod .lst (L.map (tT p)))] = .ok (.val (.bl true)) []) : callN prog glv (d + 8) "_law_put" [.val (.nod .lst W), .nod false .lst (U.map .val), .val (.int U.length), .val (sT p f), .val p] = .ok (.val (.bl true)) [] := by
  rw [call__law_put]
  simp [-List.map_map, b__law_put, hw, hU, hr, line]
theorem put_law2 (L : List (Int × Int)) (hl : L.length ≤ 900) (f : Int × Int) : callN prog glv (d + 8) "_law_put" [.val (.nod .lst (L.map (sT p))), .nod false .lst ((L.map (tT p)).map .val), .val (.int L.length), .val (sT p f), .val p] = .ok (.val (.bl true)) [] := by
  have a0 := asked_ok (d + 6) 1 (by decide) (.nod .lst (L.map (sT p))) (.int L.length) (sT p f) .lst (((L ++ [f]).map (sT p)).map .val) (frees_vals _) (by unfold inner; rw [if_neg (by decide), if_pos rfl]; exact put_end hp (d + 2) L (by omega) f)
  have hr := row_ok hp (d + 5) (L ++ [f]) (by rw [List.length_append]; simp; omega) _ _ (.inl rfl) (.inr rfl)
  have hU := addNN false true (L.map (tT p)) [tT p f] (by rw [List.length_map, line]; simp; omega)
  have lU : (L.map (tT p)).length = L.length := by rw [List.length_map]
  have e1 : L.map (tT p) ++ [tT p f] = (L ++ [f]).map (tT p) := by rw [List.map_append]; rfl
  rw [e1] at hU
  rw [← lU] at a0 ⊢
  exact put2_core d _ _ (L ++ [f]) f a0 hU hr
end
end L51
set_option maxRecDepth 100000
namespace L51
open PySem L2 Bv
theorem reas_lc (d i m : Nat) (env : Bv.Env) (hk : 5 < env.length) : lcT (tgSet [] 0 (.nm 5)) (fun env1 => evAnd (Φp d) glv env1 []) (fun env1 => ev (Φp d) glv env1 (.tup [.var 5, .bin .sub (.var 5) (.con (.int 1))])) (wipeE (tgIs (.nm 5)) env) (rngT ((i : Int) + 1) m) = .ok ((reasT i m).map .val) := by
  have hl : 5 < (wipeE (tgIs (.nm 5)) env).length := by show 5 < (env.set 5 none).length; rw [List.length_set]; exact hk
  unfold rngT reasT
  rw [List.map_map]
  refine lcT_of (fun k : Nat => T.int ((i : Int) + 1 + (k : Nat))) _ fun k hk => ⟨_, st_one hl, by simp, ?_, by simp⟩
  simp [hl, line]
  omega
theorem reas_eq (i m : Nat) : eqT (.nod .lst (reasT i m)) (.nod .lst (reasT i m)) = .ok true := by
  refine eq_self (n := 5) ?_ (by omega)
  intro t ht
  obtain ⟨k, _, rfl⟩ := List.mem_map.mp ht
  intro u hu
  simp only [List.mem_cons, List.not_mem_nil, or_false] at hu
  rcases hu with rfl | rfl <;> trivial
theorem itr2 {a b : Int} (h1 : smallI a = true) (h2 : smallI b = true) : itG .rng2 [.val (.int a), .val (.int b)] = .ok (rngT a (b - a).toNat) := by
  show (if smallI a && smallI b then Res.ok (rngT a (b - a).toNat) else .stk) = _
  rw [h1, h2]
  rfl
abbrev lcE : E := .lc (.nm 5) .rng2 [.bin .add (.var 2) (.con (.int 1)), .bif .len [.var 1]] [] (.tup [.var 5, .bin .sub (.var 5) (.con (.int 1))])
theorem lcE_ok (d i : Nat) (U : List T) (a0 a3 a4 : Option G) (hi : i < U.length) (hl : U.length ≤ 900) : ev (Φp d) glv [a0, some (.nod false .lst (U.map .val)), some (.val (.int (i : Int))), a3, a4, none] lcE = .ok (.nod true .lst ((reasT i (U.length - (i + 1))).map .val)) := by
  have lg := lcG_ok (Φ := Φp d) (gl := glv) (env := [a0, some (.nod false .lst (U.map .val)), some (.val (.int (i : Int))), a3, a4, none]) (rngT ((i : Int) + 1) (U.length - (i + 1))) (.nm 5) [] (.tup [.var 5, .bin .sub (.var 5) (.con (.int 1))])
  rw [if_pos (by rw [rngT_len, line]; omega), reas_lc d i _ _ (by simp)] at lg
  simp only [Res.bind] at lg
  show ev (Φp d) glv _ (.lc (.nm 5) .rng2 [.bin .add (.var 2) (.con (.int 1)), .bif .len [.var 1]] [] (.tup [.var 5, .bin .sub (.var 5) (.con (.int 1))])) = _
  rw [ev_lc]
  have s1 : smallI ((i : Int) + 1) = true := small_ok (by omega) (by omega)
  have s2 : smallI (U.length : Int) = true := small_ok (by omega) (by omega)
  have e1 : evs (Φp d) glv [a0, some (.nod false .lst (U.map .val)), some (.val (.int (i : Int))), a3, a4, none] [.bin .add (.var 2) (.con (.int 1)), .bif .len [.var 1]] = .ok [.val (.int ((i : Int) + 1)), .val (.int (U.length : Int))] := by simp
  rw [e1, lcR_ok, itr2 s1 s2, show ((U.length : Int) - ((i : Int) + 1)).toNat = U.length - (i + 1) by omega, lg]
theorem itp_loop (d i m : Nat) (a0 a1 a2 : Option G) (g0 : G) : ∃ a4 : Option G, (loopT (tgSet [3] 0 (.nm 4)) (Bv.execs (Φp (d + 1)) glv [3] [.ite (.or [.not (.call "_law_is" [.idx (.var 4) (.con (.int 0)), .idx (.var 4) (.con (.int 0))]), .not (.call "_law_is" [.idx (.var 4) (.con (.int 1)), .idx (.var 4) (.con (.int 1))])]) [.ret (.con (.bl false))] []]) (reasT i m) [a0, a1, a2, none, none, none]).unhide (some (3, g0)) = .nx [a0, a1, a2, some g0, a4, none] := by
  refine loop_out (Post := fun o => ∃ a4 : Option G, o.unhide (some (3, g0)) = .nx [a0, a1, a2, some g0, a4, none]) (Iv := fun j env => ∃ a4 : Option G, env = [a0, a1, a2, none, a4, none]) ⟨none, rfl⟩ ?_ ?_
  · rintro j t env ht ⟨a4, rfl⟩
    obtain ⟨k, _, rfl⟩ := List.mem_map.mp (List.mem_of_getElem? ht)
    refine ⟨_, by simp [tgSet]; rfl, ?_⟩
    have h1 := is_ok d ((i + 1 + k : Nat) : Int) ((i + 1 + k : Nat) : Int)
    have h2 := is_ok d ((i + k : Nat) : Int) ((i + k : Nat) : Int)
    simp at h1 h2
    simp [h1, h2]
  · rintro env ⟨a4, rfl⟩
    exact ⟨a4, rfl⟩
theorem part_core {p : T} (d : Nat) (W U : List T) (A B : List (Int × Int)) (i : Nat) (x : T) (hi : i < U.length) (hl : U.length ≤ 900)
    (ha : callN prog glv (d + 7) "_law_asked" [.val (.int 2), .val (.nod .lst W), .val (.int i), .val .non] = .ok (.nod true .tup [.val (.int (-2)), .val .non, .nod true .tup [.nod true .lst ((A.map (sT p)).map .val), .nod true .lst ((B.map (sT p)).map .val), .nod true .lst ((reasT i (U.length - (i + 1))).map .val)]]) [])
    (c1 : cutL U none (some (i : Int)) = A.map (tT p)) (c2 : cutL U (some (i : Int)) none = B.map (tT p)) (i0 : idxG (.val (.nod .lst W)) 0 = .ok (.val x))
    (hA : callN prog glv (d + 7) "_law_row" [.nod false .lst ((A.map (sT p)).map .val), .val (.nod .lst (A.map (tT p)))] = .ok (.val (.bl true)) [])
    (hB : callN prog glv (d + 7) "_law_row" [.nod false .lst ((B.map (sT p)).map .val), .val (.nod .lst (B.map (tT p)))] = .ok (.val (.bl true)) []) (lA : A.length ≤ 1000) :
    callN prog glv (d + 8) "_law_parted" [.val (.nod .lst W), .nod false .lst (U.map .val), .val (.int i)] = .ok (.val (.bl true)) [] := by
  rw [call__law_parted]
  have e9 := reas_eq i (U.length - (i + 1))
  have le := fun a3 a4 => lcE_ok (d + 7) i U (some (.val (.nod .lst W))) a3 a4 hi hl
  have la : A.length < 16777216 := by omega
  obtain ⟨a4, hlp⟩ := itp_loop (d + 6) i (U.length - (i + 1)) (some (.val (.nod .lst W))) (some (.nod false .lst (U.map .val))) (some (.val (.int (i : Int)))) (.nod true .tup [.nod true .lst ((A.map (sT p)).map .val), .nod true .lst ((B.map (sT p)).map .val), .nod true .lst ((reasT i (U.length - (i + 1))).map .val)])
  generalize reasT i (U.length - (i + 1)) = Rs at *
  simp [-List.map_map, -ev_lc, b__law_parted, ha, c1, c2, i0, hA, hB, le, e9]
  rw [itpX_ok (i := 3) (js := [2]) (ts := Rs) rfl (by simp [-List.map_map]), forO_ok]
  have hlp' := hlp
  simp only [Nat.add_assoc, Nat.reduceAdd] at hlp'
  show backC [] (seqO (Φp (d + 7)) glv [] _ (Out.unhide _ (loopT (tgSet [3] 0 (Tg.nm 4)) _ Rs _))) = _
  erw [hlp']
  simp [-List.map_map, i0, la, line]
section
variable {p : T} (hp : pathLike p) (d : Nat)
include hp
theorem part_law (L : List (Int × Int)) (hl : L.length ≤ 800) (i : Nat) (h : i < L.length) : callN prog glv (d + 8) "_law_parted" [.val (.nod .lst (L.map (sT p))), .nod false .lst ((L.map (tT p)).map .val), .val (.int i)] = .ok (.val (.bl true)) [] := by
  have lU : (L.map (tT p)).length = L.length := by rw [List.length_map]
  have a0 := asked_ok (d + 6) 2 (by decide) (.nod .lst (L.map (sT p))) (.int i) .non .tup [.nod true .lst (((L.take i).map (sT p)).map .val), .nod true .lst (((L.drop i).map (sT p)).map .val), .nod true .lst ((reasT i ((L.map (tT p)).length - (i + 1))).map .val)] (by simp [-List.map_map, -List.map_take, -List.map_drop])
    (by rw [lU]; unfold inner; rw [if_neg (by decide), if_neg (by decide)]; exact part_ok hp (d + 1) L (by omega) i h)
  have e0 : (L.map (sT p))[0]? = some (sT p L[0]) := by rw [List.getElem?_map, List.getElem?_eq_getElem (by omega)]; rfl
  exact part_core d _ _ (L.take i) (L.drop i) i (sT p L[0]) (by omega) (by omega) a0 (by rw [cut_to, List.map_take]) (by rw [cut_from, List.map_drop]) (idx_lst e0)
    (row_ok hp (d + 5) (L.take i) (by rw [List.length_take]; omega) _ _ (.inl rfl) (.inr rfl)) (row_ok hp (d + 5) (L.drop i) (by rw [List.length_drop]; omega) _ _ (.inl rfl) (.inr rfl)) (by rw [List.length_take]; omega)
end
end L51
set_option maxRecDepth 100000
namespace L51
open PySem L2 Bv
@[simp] theorem l2_0 (o : Bool) (a b : G) : idxG (.nod o .lst [a, b]) 0 = .ok a := rfl
@[simp] theorem l2_1 (o : Bool) (a b : G) : idxG (.nod o .lst [a, b]) 1 = .ok b := rfl
def t3 : T := .nod .tup [.int 3, .non, .non]
theorem lc3 (d : Nat) (env : Bv.Env) (h : 8 < env.length) : lcG (Φp d) glv env (.nm 8) [] (.idx (.var 8) (.con (.int 0))) (.ok [t3, t3, t3]) = .ok (.nod true .lst [.val (.int 3), .val (.int 3), .val (.int 3)]) := by
  have lg := lcG_ok (Φ := Φp d) (gl := glv) (env := env) [t3, t3, t3] (.nm 8) [] (.idx (.var 8) (.con (.int 0)))
  have hl : 8 < (wipeE (tgIs (.nm 8)) env).length := by show 8 < (env.set 8 none).length; rw [List.length_set]; exact h
  have lt := lcT_of (A := Unit) (st := tgSet [] 0 (.nm 8)) (c := fun env1 => evAnd (Φp d) glv env1 []) (f := fun env1 => ev (Φp d) glv env1 (.idx (.var 8) (.con (.int 0)))) (env := wipeE (tgIs (.nm 8)) env) (fun _ => t3) (fun _ => .val (.int 3)) (xs := [(), (), ()]) (fun a _ => ⟨_, st_one hl, by simp, by simp [hl, t3], by simp⟩)
  simp only [List.map_cons, List.map_nil] at lt
  rw [lg, if_pos (by rw [line]; decide), lt]
  rfl
theorem eq3 : eqT (.nod .lst [.int 3, .int 3, .int 3]) (.nod .lst [.int 3, .int 3, .int 3]) = .ok true := eq_self (n := 5) (by
  intro u hu
  simp only [List.mem_cons, List.not_mem_nil, or_false, or_self] at hu
  rw [hu]; trivial) (by omega)
theorem strangers_ok (d : Nat) (ts : List T) (g : T) (load : Int) (hl : ts.length ≤ 1000) : callN prog glv (d + 4) "_law_strangers" [.val (.nod .lst ts), .val g, .val (.int load)] = .ok (.val (.bl true)) [] := by
  rw [call__law_strangers]
  have a0 : ∀ z : Int, (z < 0 ∨ (ts.length : Int) ≤ z) → callN prog glv (d + 3) "_law_asked" [.val (.int 0), .val (.nod .lst ts), .val (.int z), .val .non] = .ok (.val t3) [] := fun z hz => asked_no (d + 2) 0 (by decide) _ _ _ (by unfold inner; rw [if_pos rfl]; exact out_bad (d + 1) ts z hz)
  have a1 : ∀ z : Int, (z < 0 ∨ (ts.length : Int) < z) → callN prog glv (d + 3) "_law_asked" [.val (.int 1), .val (.nod .lst ts), .val (.int z), .val g] = .ok (.val t3) [] := fun z hz => asked_no (d + 2) 1 (by decide) _ _ _ (by unfold inner; rw [if_neg (by decide), if_pos rfl]; exact put_bad (d + 1) ts z g hz)
  have a2 : ∀ z : Int, (z < 0 ∨ (ts.length : Int) ≤ z) → callN prog glv (d + 3) "_law_asked" [.val (.int 2), .val (.nod .lst ts), .val (.int z), .val .non] = .ok (.val t3) [] := fun z hz => asked_no (d + 2) 2 (by decide) _ _ _ (by unfold inner; rw [if_neg (by decide), if_neg (by decide)]; exact part_bad (d + 1) ts z hz)
  have pw : powOk 10 58 = true := by decide +kernel
  have d8 : divOk 8 = true := by decide +kernel
  have d4 : divOk 4 = true := by decide +kernel
  obtain ⟨far, hf⟩ : ∃ far : Int, load / 8 % 10000000000000000000000000000000000000000000000000000000000 = far := ⟨_, rfl⟩
  have f0 : 0 ≤ far := by rw [← hf]; exact Int.emod_nonneg _ (by decide)
  have p1 : (0 : Int) < (ts.length : Int) + 1 := by omega
  have m0 : 0 ≤ far % ((ts.length : Int) + 1) := Int.emod_nonneg _ (by omega)
  have k4 : load / 4 % 2 = 0 ∨ load / 4 % 2 = 1 := by omega
  have k2 : load % 2 = 0 ∨ load % 2 = 1 := by omega
  have l3 : (3 : Nat) ≤ 16777216 := by decide
  rcases k4 with k4 | k4 <;> rcases k2 with k2 | k2
  · have x0 := a0 (-1 - far) (.inl (by omega))
    have x1 := a1 (-1 - far) (.inl (by omega))
    have x2 := a2 (-1 - far) (.inl (by omega))
    simp [b__law_strangers, pw, d8, d4, hf, k4, k2, p1, line, x0, x1, x2, lc3, eq3]
  · have x0 := a0 ((ts.length : Int) + far) (.inr (by omega))
    have x1 := a1 ((ts.length : Int) + 1 + far) (.inr (by omega))
    have x2 := a2 ((ts.length : Int) + far) (.inr (by omega))
    simp [b__law_strangers, pw, d8, d4, hf, k4, k2, p1, line, x0, x1, x2, lc3, eq3]
  · have x0 := a0 (-1 - far % ((ts.length : Int) + 1)) (.inl (by omega))
    have x1 := a1 (-1 - far % ((ts.length : Int) + 1)) (.inl (by omega))
    have x2 := a2 (-1 - far % ((ts.length : Int) + 1)) (.inl (by omega))
    simp [b__law_strangers, pw, d8, d4, hf, k4, k2, p1, line, x0, x1, x2, lc3, eq3]
  · have x0 := a0 ((ts.length : Int) + far) (.inr (by omega))
    have x1 := a1 ((ts.length : Int) + 1 + far) (.inr (by omega))
    have x2 := a2 ((ts.length : Int) + far) (.inr (by omega))
    simp [b__law_strangers, pw, d8, d4, hf, k4, k2, p1, line, x0, x1, x2, lc3, eq3]
end L51
set_option maxRecDepth 100000
namespace L51
open PySem L2 Bv
theorem at_ok (d : Nat) (ns : List Int) (k : Nat) : callN prog glv (d + 1) "_law_at" [.val (.nod .lst (ns.map .int)), .val (.int k)] = .ok (.val (.int (ns.getD k 0))) [] := by
  rw [call__law_at]
  by_cases h : k < ns.length
  · have e : ns.getD k 0 = ns[k] := by rw [List.getD_eq_getElem?_getD, List.getElem?_eq_getElem h]; rfl
    have ix := idx_lst (ts := ns.map T.int) (i := k) (t := .int ns[k]) (by rw [List.getElem?_map, List.getElem?_eq_getElem h]; rfl)
    simp [b__law_at, h, ix, e]
  · have e : ns.getD k 0 = 0 := by rw [List.getD_eq_getElem?_getD, List.getElem?_eq_none (by omega)]; rfl
    simp [b__law_at, h, e]
theorem number_ok (d : Nat) (x : Int) : ∃ n, callN prog glv (d + 1) "_law_number" [.val (.int x)] = .ok (.val (.int n)) [] := by
  rw [call__law_number]
  have mo : mulOk 2 1000000000000000000000000000000000000000000000000000000000000 = true := by decide +kernel
  have pw : powOk 10 60 = true := by decide +kernel
  by_cases h0 : x % 2 = 0
  · simp [b__law_number, h0, show divOk 2 = true by decide +kernel]
  · have h1 : x % 2 = 1 := by omega
    simp [b__law_number, h1, pw, mo, show divOk 2 = true by decide +kernel]
theorem int_bl (b : Bool) : bifG .int [.val (.bl b)] = .ok (.val (.int (if b then 1 else 0))) := rfl
/-- how a load goes into the row -/
abbrev bodyL : List Bv.S := [.asg 10 .frz (.call "_law_number" [.var 5]), .ite (.cmp .eq (.var 10) (.var 3)) [.asg 10 .frz (.bif .int [.cmp .eq (.var 3) (.con (.int 0))])] [], .app (.var 4) false (.tup [.con (.str "set"), .var 2, .var 3, .var 10]), .asg 3 .frz (.var 10)]
theorem told_app (p : T) (L : List (Int × Int)) (e : Int × Int) : (L.map (tT p)).map G.val ++ [G.val (tT p e)] = ((L ++ [e]).map (tT p)).map G.val := by
  rw [List.map_append, List.map_append]
  rfl
theorem load_loop (d : Nat) (p : T) (a0 a1 : Option G) (n : Int) (xs : List Int) (hl : xs.length ≤ 900) : ∃ (L : List (Int × Int)) (m : Int) (a5 a10 : Option G), L.length ≤ xs.length ∧
    loopT (tgSet [] 0 (.nm 5)) (Bv.execs (Φp (d + 1)) glv [] bodyL) (xs.map .int) [a0, a1, some (.val p), some (.val (.int n)), some (.nod true .lst []), none, none, none, none, none, none, none] =
      .nx [a0, a1, some (.val p), some (.val (.int m)), some (.nod true .lst ((L.map (tT p)).map .val)), a5, none, none, none, none, a10, none] := by
  refine loop_out (Post := fun o => ∃ (L : List (Int × Int)) (m : Int) (a5 a10 : Option G), L.length ≤ xs.length ∧ o = .nx [a0, a1, some (.val p), some (.val (.int m)), some (.nod true .lst ((L.map (tT p)).map .val)), a5, none, none, none, none, a10, none])
    (Iv := fun j env => ∃ (L : List (Int × Int)) (m : Int) (a5 a10 : Option G), L.length = j ∧ env = [a0, a1, some (.val p), some (.val (.int m)), some (.nod true .lst ((L.map (tT p)).map .val)), a5, none, none, none, none, a10, none]) ⟨[], n, none, none, rfl, rfl⟩ ?_ ?_
  · rintro j t env ht ⟨L, m, a5, a10, hL, rfl⟩
    have hj : j < xs.length := by
      have := (List.getElem?_eq_some_iff.mp ht).1
      rwa [List.length_map] at this
    obtain ⟨x, _, rfl⟩ := List.mem_map.mp (List.mem_of_getElem? ht)
    refine ⟨_, by simp [-List.map_map, tgSet]; rfl, ?_⟩
    obtain ⟨y, hy⟩ := number_ok d x
    have ll : L.length < 16777216 := by omega
    have ta := fun e => told_app p L e
    by_cases hm : y = m
    · subst hm
      by_cases h0 : y = 0
      · subst h0
        have h2 := ta (0, 1)
        simp [-List.map_map, hy, ll, line, int_bl]
        exact ⟨L ++ [(0, 1)], by simp [hL], h2⟩
      · have h2 := ta (y, 0)
        simp [-List.map_map, hy, ll, line, int_bl, h0]
        exact ⟨L ++ [(y, 0)], by simp [hL], h2⟩
    · have h2 := ta (m, y)
      simp [-List.map_map, hy, hm, ll, line]
      exact ⟨L ++ [(m, y)], by simp [hL], h2⟩
  · rintro env ⟨L, m, a5, a10, hL, rfl⟩
    exact ⟨L, m, a5, a10, by rw [hL, List.length_map]; exact Nat.le_refl _, rfl⟩
end L51
set_option maxRecDepth 100000
namespace L51
open PySem L2 Bv
theorem mul_ok {s : Str} {n : Int} (hs : sOk s) (hl : s.length = 1) (h0 : 1 ≤ n) (h1 : n ≤ 8) : strMulOk s n = true ∧ sOk (Txt.mul s n) ∧ (Txt.mul s n).length ≤ 8 := by
  refine ⟨?_, ?_, ?_⟩
  · unfold strMulOk
    simp only [Bool.and_eq_true, decide_eq_true_eq]
    omega
  · unfold Txt.mul
    rw [if_neg (by omega)]
    split
    · exact hs
    · have main : ∀ (k : Nat) (acc : Array Nat), (∀ c ∈ acc.toList, c < 1114112) → ∀ c ∈ ((List.replicate k s.cps).foldl (· ++ ·) acc).toList, c < 1114112 := by
        intro k
        induction k with
        | zero => intro acc h; exact h
        | succ k ih =>
          intro acc h
          rw [List.replicate_succ, List.foldl_cons]
          refine ih _ fun c hc => ?_
          rw [Array.toList_append] at hc
          rcases List.mem_append.mp hc with z | z
          · exact h c z
          · exact hs c z
      exact main _ #[] fun c hc => by simp at hc
  · have e := PyProof.Rows.len_mul s n
    rw [hl] at e
    have : decide (n < 0) = false := decide_eq_false (by omega)
    rw [this] at e
    simp at e
    omega
theorem ah_ok : sOk ("abcdefgh" : Str) := by
  have : ("abcdefgh" : Str).cps.toList.all (· < 1114112) = true := by decide +kernel
  intro c hc; exact of_decide_eq_true (List.all_eq_true.mp this c hc)
theorem ah_len : ("abcdefgh" : Str).length = 8 := by decide +kernel
theorem b_ok : sOk ("b" : Str) := by unfold sOk; decide +kernel
theorem b_len : ("b" : Str).length = 1 := by decide +kernel
theorem path_ok (x : Int) : ∃ (c m : Str) (p : T), idxG (.val (.str ("abcdefgh" : Str))) (x / 4 % 8) = .ok (.val (.str c)) ∧ strMulOk ("b" : Str) (1 + x / 32 % 8) = true ∧ Txt.mul ("b" : Str) (1 + x / 32 % 8) = m ∧ T.nod .tup (cutL [.str ("b" : Str), .str c, .str m] none (some (x % 4))) = p ∧ pathLike p := by
  obtain ⟨c, h1, hc, _⟩ := idx_str (z := ("abcdefgh" : Str)) (i := x / 4 % 8) (by omega) (by rw [ah_len]; omega) (by rw [ah_len, line]; decide) ah_ok
  obtain ⟨m1, m2, _⟩ := mul_ok (n := 1 + x / 32 % 8) b_ok b_len (by omega) (by omega)
  refine ⟨c, _, _, h1, m1, rfl, rfl, ⟨?_, _, rfl⟩⟩
  intro t ht
  have := cut_mem ht
  simp only [List.mem_cons, List.not_mem_nil, or_false] at this
  rcases this with rfl | rfl | rfl
  · exact b_ok
  · exact hc
  · exact m2
theorem sets_lc (d : Nat) (p : T) (L : List (Int × Int)) (env : Bv.Env) (hk : 11 < env.length) : lcT (tgSet [] 0 (.nm 11)) (fun env1 => evAnd (Φp (d + 1)) glv env1 []) (fun env1 => ev (Φp (d + 1)) glv env1 (.mk "Set" [.idx (.var 11) (.con (.int 1)), .idx (.var 11) (.con (.int 2)), .idx (.var 11) (.con (.int 3))])) (wipeE (tgIs (.nm 11)) env) (L.map (tT p)) = .ok (L.map (sN p)) := by
  have hl : 11 < (wipeE (tgIs (.nm 11)) env).length := by show 11 < (env.set 11 none).length; rw [List.length_set]; exact hk
  refine lcT_of (tT p) _ fun D hD => ⟨_, st_one hl, by simp, ?_, by simp⟩
  simp [hl, tT]
theorem sNs_T (p : T) : ∀ L : List (Int × Int), G.toTs (L.map (sN p)) = L.map (sT p)
  | [] => by simp
  | e :: L => by
    rw [List.map_cons, List.map_cons, ← sNs_T p L]
    simp
theorem sNs_f (p : T) : ∀ L : List (Int × Int), G.frees (L.map (sN p)) = true
  | [] => by simp
  | e :: L => by
    rw [List.map_cons]
    have := sNs_f p L
    simp [this]
abbrev lcS : E := .lc (.nm 11) .it [.var 4] [] (.mk "Set" [.idx (.var 11) (.con (.int 1)), .idx (.var 11) (.con (.int 2)), .idx (.var 11) (.con (.int 3))])
theorem lcS_ok (d : Nat) (p : T) (L : List (Int × Int)) (hl : L.length ≤ 900) (env : Bv.Env) (hk : 11 < env.length) (h4 : env[4]? = some (some (.nod true .lst ((L.map (tT p)).map .val)))) : ev (Φp (d + 1)) glv env lcS = .ok (.nod true .lst (L.map (sN p))) := by
  have lg := lcG_ok (Φ := Φp (d + 1)) (gl := glv) (env := env) (L.map (tT p)) (.nm 11) [] (.mk "Set" [.idx (.var 11) (.con (.int 1)), .idx (.var 11) (.con (.int 2)), .idx (.var 11) (.con (.int 3))])
  rw [if_pos (by rw [List.length_map, line]; omega), sets_lc d p L env hk] at lg
  simp only [Res.bind] at lg
  show ev (Φp (d + 1)) glv env (.lc (.nm 11) .it [.var 4] [] (.mk "Set" [.idx (.var 11) (.con (.int 1)), .idx (.var 11) (.con (.int 2)), .idx (.var 11) (.con (.int 3))])) = _
  rw [ev_lc]
  have e1 : evs (Φp (d + 1)) glv env [.var 4] = .ok [.nod false .lst ((L.map (tT p)).map .val)] := by
    rw [evs_cons, evs_nil, ev_var, h4]
    simp [-List.map_map]
  rw [e1, lcR_ok, itG_lst, lg]
end L51
set_option maxRecDepth 100000
namespace L51
open PySem L2 Bv
abbrev tailL : List Bv.S := [.asg 6 .frz lcS, .asg 7 .frz (.mk "Set" [.var 2, .var 3, .bif .int [.cmp .eq (.var 3) (.con (.int 0))]]), .asg 8 .frz (.call "_law_at" [.var 0, .con (.int 2)]), .ite (.not (.call "_law_strangers" [.var 6, .var 7, .var 8])) [.ret (.con (.bl false))] [], .ite (.not (.call "_law_put" [.var 6, .var 4, .bin .mod (.bin .fdiv (.var 8) (.con (.int 16))) (.bin .add (.bif .len [.var 6]) (.con (.int 1))), .var 7, .var 2])) [.ret (.con (.bl false))] [], .ite (.not (.call "_law_put" [.var 6, .var 4, .bif .len [.var 6], .var 7, .var 2])) [.ret (.con (.bl false))] [], .ite (.cmp .eq (.var 4) (.lst [])) [.ret (.con (.bl true))] [], .asg 9 .frz (.bin .mod (.bin .fdiv (.var 8) (.con (.int 16))) (.bif .len [.var 6])), .ite (.cmp .eq (.bin .mod (.var 8) (.con (.int 3))) (.con (.int 1))) [.asg 9 .frz (.bin .sub (.bif .len [.var 6]) (.con (.int 1)))] [], .ite (.or [.not (.call "_law_out" [.var 6, .var 4, .var 9, .var 2]), .not (.call "_law_parted" [.var 6, .var 4, .var 9])]) [.ret (.con (.bl false))] [], .ret (.and [.call "_law_row" [.var 6, .var 4], .call "_law_out" [.var 6, .var 4, .bin .sub (.bif .len [.var 6]) (.con (.int 1)), .var 2]])]
theorem law_split : b_law = [.asg 1 .frz (.call "_law_at" [.var 0, .con (.int 0)]), .asg 2 .frz (.slc (.tup [.con (.str "b"), .idx (.con (.str "abcdefgh")) (.bin .mod (.bin .fdiv (.var 1) (.con (.int 4))) (.con (.int 8))), .bin .mul (.con (.str "b")) (.bin .add (.con (.int 1)) (.bin .mod (.bin .fdiv (.var 1) (.con (.int 32))) (.con (.int 8))))]) none (some (.bin .mod (.var 1) (.con (.int 4))))), .asg 3 .frz (.call "_law_number" [.call "_law_at" [.var 0, .con (.int 1)]]), .asg 4 .sh (.lst [])] ++ (.for_ (.nm 5) (.it (.slc (.var 0) (some (.con (.int 3))) (some (.con (.int 61))))) bodyL :: tailL) := rfl
section
variable {p : T} (hp : pathLike p) (d : Nat)
include hp
theorem tail_ok (L : List (Int × Int)) (hl : L.length ≤ 63) (ns : List Int) (m : Int) (a1 a5 a10 : Option G) : backC [] (Bv.execs (Φp (d + 8)) glv [] tailL [some (.val (.nod .lst (ns.map .int))), a1, some (.val p), some (.val (.int m)), some (.nod true .lst ((L.map (tT p)).map .val)), a5, none, none, none, none, a10, none]) = .ok (.val (.bl true)) [] := by
  have e1 := fun (a6 a7 a8 a9 : Option G) => lcS_ok (d + 7) p L (by omega) [some (.val (.nod .lst (ns.map .int))), a1, some (.val p), some (.val (.int m)), some (.nod true .lst ((L.map (tT p)).map .val)), a5, a6, a7, a8, a9, a10, none] (by simp) rfl
  have h2 := at_ok (d + 7) ns 2
  obtain ⟨dr, hd⟩ : ∃ dr, ns.getD 2 0 = dr := ⟨_, rfl⟩
  have d16 : divOk 16 = true := by decide +kernel
  have stn := strangers_ok (d + 4) (L.map (sT p)) (sT p (m, if m = 0 then 1 else 0)) dr (by rw [List.length_map]; omega)
  have hput : ∀ z : Int, 0 ≤ z → z ≤ L.length → callN prog glv (d + 8) "_law_put" [.val (.nod .lst (L.map (sT p))), .nod false .lst ((L.map (tT p)).map .val), .val (.int z), .val (sT p (m, if m = 0 then 1 else 0)), .val p] = .ok (.val (.bl true)) [] := fun z h0 h1 => by
    obtain ⟨j, rfl⟩ : ∃ j : Nat, z = j := ⟨z.toNat, by omega⟩
    by_cases hj : j < L.length
    · exact put_law1 hp d L (by omega) j hj _
    · have : j = L.length := by omega
      rw [this]
      exact put_law2 hp d L (by omega) _
  have hout : ∀ z : Int, 0 ≤ z → z < L.length → callN prog glv (d + 8) "_law_out" [.val (.nod .lst (L.map (sT p))), .nod false .lst ((L.map (tT p)).map .val), .val (.int z), .val p] = .ok (.val (.bl true)) [] := fun z h0 h1 => by
    obtain ⟨j, rfl⟩ : ∃ j : Nat, z = j := ⟨z.toNat, by omega⟩
    by_cases hj : j + 1 < L.length
    · exact out_law1 hp d L (by omega) j hj
    · exact out_law2 hp d L (by omega) j (by omega)
  have hpart : ∀ z : Int, 0 ≤ z → z < L.length → callN prog glv (d + 8) "_law_parted" [.val (.nod .lst (L.map (sT p))), .nod false .lst ((L.map (tT p)).map .val), .val (.int z)] = .ok (.val (.bl true)) [] := fun z h0 h1 => by
    obtain ⟨j, rfl⟩ : ∃ j : Nat, z = j := ⟨z.toNat, by omega⟩
    exact part_law hp d L (by omega) j (by omega)
  have hrow := row_ok hp (d + 6) L (by omega) (.val (.nod .lst (L.map (sT p)))) (.nod false .lst ((L.map (tT p)).map .val)) (.inr rfl) (.inl rfl)
  have z1 : 0 ≤ dr / 16 % ((L.length : Int) + 1) := Int.emod_nonneg _ (by omega)
  have z2 : dr / 16 % ((L.length : Int) + 1) < (L.length : Int) + 1 := Int.emod_lt_of_pos _ (by omega)
  have p1 := hput (dr / 16 % ((L.length : Int) + 1)) z1 (by omega)
  have p2 := hput L.length (by omega) (by omega)
  have pos : (0 : Int) < (L.length : Int) + 1 := by omega
  have sT' : G.toTs (L.map (sN p)) = L.map (sT p) := sNs_T p L
  have sF' : G.frees (L.map (sN p)) = true := sNs_f p L
  have lW : (L.map (sT p)).length = L.length := by rw [List.length_map]
  have nil := eq_nil (L.map (tT p))
  have hemp : (L.map (tT p)).isEmpty = false → 0 < L.length := fun h => by
    cases L with
    | nil => cases h
    | cons e L => simp
  simp only [Nat.add_assoc, Nat.reduceAdd] at e1 h2 stn p1 p2 hrow
  have h2 : callN prog glv (d + 8) "_law_at" [.val (.nod .lst (ns.map .int)), .val (.int 2)] = .ok (.val (.int dr)) [] := by rw [← hd]; exact h2
  clear hput hl hd
  generalize L.map (sT p) = W at *
  generalize L.map (tT p) = U at *
  generalize L.map (sN p) = NS at *
  generalize L.length = n at *
  cases hE : U.isEmpty with
  | true =>
    rw [hE] at nil
    simp [-List.map_map, -ev_lc, e1, h2, d16, stn, p1, p2, sT', sF', int_bl, lW, pos, nil]
  | false =>
    rw [hE] at nil
    have n0 := hemp hE
    have y1 : 0 ≤ dr / 16 % (n : Int) := Int.emod_nonneg _ (by omega)
    have y2 : dr / 16 % (n : Int) < n := Int.emod_lt_of_pos _ (by omega)
    have o1 := hout (dr / 16 % (n : Int)) y1 y2
    have q1 := hpart (dr / 16 % (n : Int)) y1 y2
    have o2 := hout ((n : Int) - 1) (by omega) (by omega)
    have q2 := hpart ((n : Int) - 1) (by omega) (by omega)
    have pos2 : (0 : Int) < n := by omega
    by_cases h3 : dr % 3 = 1
    · simp [-List.map_map, -ev_lc, e1, h2, d16, stn, p1, p2, sT', sF', int_bl, lW, pos, nil, h3, pos2, n0, o1, q1, o2, q2, hrow]
    · simp [-List.map_map, -ev_lc, e1, h2, d16, stn, p1, p2, sT', sF', int_bl, lW, pos, nil, h3, pos2, n0, o1, q1, o2, q2, hrow]
end
end L51
namespace L51
open PySem L2 Bv
theorem law_ok (d : Nat) (ns : List Int) (hn : ns.length ≤ 63) : callN prog glv (d + 9) "law" [.val (.nod .lst (ns.map .int))] = .ok (.val (.bl true)) [] := by
  rw [call_law, law_split, execs_app]
  have h0 := at_ok (d + 7) ns 0
  have h1 := at_ok (d + 7) ns 1
  simp only [Nat.add_assoc, Nat.reduceAdd] at h0 h1
  obtain ⟨x, hx⟩ : ∃ x, ns.getD 0 0 = x := ⟨_, rfl⟩
  obtain ⟨y, hy⟩ : ∃ y, ns.getD 1 0 = y := ⟨_, rfl⟩
  have h0 : callN prog glv (d + 8) "_law_at" [.val (.nod .lst (ns.map .int)), .val (.int 0)] = .ok (.val (.int x)) [] := by rw [← hx]; exact h0
  have h1 : callN prog glv (d + 8) "_law_at" [.val (.nod .lst (ns.map .int)), .val (.int 1)] = .ok (.val (.int y)) [] := by rw [← hy]; exact h1
  obtain ⟨c, m, p, e1, e2, e3, e4, hp⟩ := path_ok x
  obtain ⟨n, hnum⟩ := number_ok (d + 7) y
  simp only [Nat.add_assoc, Nat.reduceAdd] at hnum
  have d4 : divOk 4 = true := by decide +kernel
  have d32 : divOk 32 = true := by decide +kernel
  have cm : cutL (ns.map T.int) (some 3) (some 61) = (cutL ns (some 3) (some 61)).map .int := cut_map _ _ _ _
  have lc : (cutL ns (some 3) (some 61)).length ≤ 63 := by
    unfold cutL
    rw [List.length_take, List.length_drop]
    omega
  obtain ⟨L, m', a5, a10, hL, hlp⟩ := load_loop (d + 7) p (some (.val (.nod .lst (ns.map .int)))) (some (.val (.int x))) n (cutL ns (some 3) (some 61)) (by omega)
  have tl := tail_ok hp d L (by omega) ns m' (some (.val (.int x))) a5 a10
  simp [-List.map_map, -ev_lc, h0, h1, hnum, d4, d32, e1, e2, e3, e4, line, cm]
  have hlp : loopT (tgSet [] 0 (Tg.nm 5)) (Bv.execs (Φp (d + 8)) glv [] bodyL) (List.map T.int (cutL ns (some 3) (some 61))) _ = _ := hlp
  rw [hlp]
  exact tl
theorem law_true (ns : List Int) (hl : ns.length ≤ 63) (hz : ∀ z ∈ ns, Builtin.Int.intBits z ≤ 1048576) : callN prog glv 20 "law" [.val (.nod .lst (ns.map .int))] = .ok (.val (.bl true)) [] := law_ok 11 ns hl
end L51
namespace L51
open PySem L2 Bv
def top (i : Nat) : Stmt := PySem.Challenge.pw_boughback_k51_sets_of_one_part.main.body.getD i (.Pass ⟨0, 0, 0, 0⟩)
abbrev t_Set___init__ : Stmt := (cbody (top 21)).getD 0 (.Pass ⟨0, 0, 0, 0⟩)
theorem sc_Set___init__ : FnScope f_Set___init__.N f_Set___init__.ps (defScope t_Set___init__) := ⟨rfl, rfl, rfl, by decide +kernel, rfl, by decide +kernel, by decide +kernel⟩
theorem ck_Set___init__ : toBody (tbOf prog gls bls f_Set___init__) (defScope t_Set___init__) [] 60 (defBody t_Set___init__) = some f_Set___init__.body := by kernel_rfl
abbrev t_Set_back : Stmt := (cbody (top 21)).getD 3 (.Pass ⟨0, 0, 0, 0⟩)
theorem sc_Set_back : FnScope f_Set_back.N f_Set_back.ps (defScope t_Set_back) := ⟨rfl, rfl, rfl, by decide +kernel, rfl, by decide +kernel, by decide +kernel⟩
theorem ck_Set_back : toBody (tbOf prog gls bls f_Set_back) (defScope t_Set_back) [] 60 (defBody t_Set_back) = some f_Set_back.body := by kernel_rfl
abbrev t_Set_told : Stmt := (cbody (top 21)).getD 4 (.Pass ⟨0, 0, 0, 0⟩)
theorem sc_Set_told : FnScope f_Set_told.N f_Set_told.ps (defScope t_Set_told) := ⟨rfl, rfl, rfl, by decide +kernel, rfl, by decide +kernel, by decide +kernel⟩
theorem ck_Set_told : toBody (tbOf prog gls bls f_Set_told) (defScope t_Set_told) [] 60 (defBody t_Set_told) = some f_Set_told.body := by kernel_rfl
abbrev t_both_find : Stmt := top 27
theorem sc_both_find : FnScope f_both_find.N f_both_find.ps (defScope t_both_find) := ⟨rfl, rfl, rfl, by decide +kernel, rfl, by decide +kernel, by decide +kernel⟩
theorem ck_both_find : toBody (tbOf prog gls bls f_both_find) (defScope t_both_find) [] 60 (defBody t_both_find) = some f_both_find.body := by kernel_rfl
abbrev t_clash : Stmt := top 30
theorem sc_clash : FnScope f_clash.N f_clash.ps (defScope t_clash) := ⟨rfl, rfl, rfl, by decide +kernel, rfl, by decide +kernel, by decide +kernel⟩
theorem ck_clash : toBody (tbOf prog gls bls f_clash) (defScope t_clash) [800184, 800186, 800188, 800190, 800192] 60 (defBody t_clash) = some f_clash.body := by kernel_rfl
abbrev t_taken_out : Stmt := top 32
theorem sc_taken_out : FnScope f_taken_out.N f_taken_out.ps (defScope t_taken_out) := ⟨rfl, rfl, rfl, by decide +kernel, rfl, by decide +kernel, by decide +kernel⟩
theorem ck_taken_out : toBody (tbOf prog gls bls f_taken_out) (defScope t_taken_out) [2, 800204, 800205] 60 (defBody t_taken_out) = some f_taken_out.body := by kernel_rfl
abbrev t_put_in : Stmt := top 33
theorem sc_put_in : FnScope f_put_in.N f_put_in.ps (defScope t_put_in) := ⟨rfl, rfl, rfl, by decide +kernel, rfl, by decide +kernel, by decide +kernel⟩
theorem ck_put_in : toBody (tbOf prog gls bls f_put_in) (defScope t_put_in) [3, 800216, 800217] 60 (defBody t_put_in) = some f_put_in.body := by kernel_rfl
abbrev t_parted : Stmt := top 34
theorem sc_parted : FnScope f_parted.N f_parted.ps (defScope t_parted) := ⟨rfl, rfl, rfl, by decide +kernel, rfl, by decide +kernel, by decide +kernel⟩
theorem ck_parted : toBody (tbOf prog gls bls f_parted) (defScope t_parted) [2, 3, 4, 5, 500229, 900228, 800235, 800236] 60 (defBody t_parted) = some f_parted.body := by kernel_rfl
abbrev t__law_at : Stmt := top 36
theorem sc__law_at : FnScope f__law_at.N f__law_at.ps (defScope t__law_at) := ⟨rfl, rfl, rfl, by decide +kernel, rfl, by decide +kernel, by decide +kernel⟩
theorem ck__law_at : toBody (tbOf prog gls bls f__law_at) (defScope t__law_at) [] 60 (defBody t__law_at) = some f__law_at.body := by kernel_rfl
abbrev t__law_is : Stmt := top 37
theorem sc__law_is : FnScope f__law_is.N f__law_is.ps (defScope t__law_is) := ⟨rfl, rfl, rfl, by decide +kernel, rfl, by decide +kernel, by decide +kernel⟩
theorem ck__law_is : toBody (tbOf prog gls bls f__law_is) (defScope t__law_is) [] 60 (defBody t__law_is) = some f__law_is.body := by kernel_rfl
abbrev t__law_number : Stmt := top 38
theorem sc__law_number : FnScope f__law_number.N f__law_number.ps (defScope t__law_number) := ⟨rfl, rfl, rfl, by decide +kernel, rfl, by decide +kernel, by decide +kernel⟩
theorem ck__law_number : toBody (tbOf prog gls bls f__law_number) (defScope t__law_number) [] 60 (defBody t__law_number) = some f__law_number.body := by kernel_rfl
abbrev t__law_kind : Stmt := top 39
theorem sc__law_kind : FnScope f__law_kind.N f__law_kind.ps (defScope t__law_kind) := ⟨rfl, rfl, rfl, by decide +kernel, rfl, by decide +kernel, by decide +kernel⟩
theorem ck__law_kind : toBody (tbOf prog gls bls f__law_kind) (defScope t__law_kind) [800250, 800251, 800252, 800253, 800255] 60 (defBody t__law_kind) = some f__law_kind.body := by kernel_rfl
abbrev t__law_asked : Stmt := top 40
theorem sc__law_asked : FnScope f__law_asked.N f__law_asked.ps (defScope t__law_asked) := ⟨rfl, rfl, rfl, by decide +kernel, rfl, by decide +kernel, by decide +kernel⟩
theorem ck__law_asked : toBody (tbOf prog gls bls f__law_asked) (defScope t__law_asked) [4, 500262, 500264, 500266, 900260, 100004] 60 (defBody t__law_asked) = some f__law_asked.body := by kernel_rfl
abbrev t__law_hangs : Stmt := top 41
theorem sc__law_hangs : FnScope f__law_hangs.N f__law_hangs.ps (defScope t__law_hangs) := ⟨rfl, rfl, rfl, by decide +kernel, rfl, by decide +kernel, by decide +kernel⟩
theorem ck__law_hangs : toBody (tbOf prog gls bls f__law_hangs) (defScope t__law_hangs) [] 60 (defBody t__law_hangs) = some f__law_hangs.body := by kernel_rfl
abbrev t__law_row : Stmt := top 42
theorem sc__law_row : FnScope f__law_row.N f__law_row.ps (defScope t__law_row) := ⟨rfl, rfl, rfl, by decide +kernel, rfl, by decide +kernel, by decide +kernel⟩
theorem ck__law_row : toBody (tbOf prog gls bls f__law_row) (defScope t__law_row) [] 60 (defBody t__law_row) = some f__law_row.body := by kernel_rfl
abbrev t__law_out : Stmt := top 43
theorem sc__law_out : FnScope f__law_out.N f__law_out.ps (defScope t__law_out) := ⟨rfl, rfl, rfl, by decide +kernel, rfl, by decide +kernel, by decide +kernel⟩
theorem ck__law_out : toBody (tbOf prog gls bls f__law_out) (defScope t__law_out) [4, 5, 1286, 700283, 100004, 100005] 60 (defBody t__law_out) = some f__law_out.body := by kernel_rfl
abbrev t__law_put : Stmt := top 44
theorem sc__law_put : FnScope f__law_put.N f__law_put.ps (defScope t__law_put) := ⟨rfl, rfl, rfl, by decide +kernel, rfl, by decide +kernel, by decide +kernel⟩
theorem ck__law_put : toBody (tbOf prog gls bls f__law_put) (defScope t__law_put) [5, 100005] 60 (defBody t__law_put) = some f__law_put.body := by kernel_rfl
abbrev t__law_parted : Stmt := top 45
theorem sc__law_parted : FnScope f__law_parted.N f__law_parted.ps (defScope t__law_parted) := ⟨rfl, rfl, rfl, by decide +kernel, rfl, by decide +kernel, by decide +kernel⟩
theorem ck__law_parted : toBody (tbOf prog gls bls f__law_parted) (defScope t__law_parted) [3, 1307, 600304, 100003] 60 (defBody t__law_parted) = some f__law_parted.body := by kernel_rfl
abbrev t__law_strangers : Stmt := top 46
theorem sc__law_strangers : FnScope f__law_strangers.N f__law_strangers.ps (defScope t__law_strangers) := ⟨rfl, rfl, rfl, by decide +kernel, rfl, by decide +kernel, by decide +kernel⟩
theorem ck__law_strangers : toBody (tbOf prog gls bls f__law_strangers) (defScope t__law_strangers) [] 60 (defBody t__law_strangers) = some f__law_strangers.body := by kernel_rfl
abbrev t_law : Stmt := top 47
theorem sc_law : FnScope f_law.N f_law.ps (defScope t_law) := ⟨rfl, rfl, rfl, by decide +kernel, rfl, by decide +kernel, by decide +kernel⟩
theorem ck_law : toBody (tbOf prog gls bls f_law) (defScope t_law) [4] 60 (defBody t_law) = some f_law.body := by kernel_rfl
abbrev xt_Hangs : Stmt := (cbody (top 5)).getD 0 (.Pass ⟨0, 0, 0, 0⟩)
theorem xs_Hangs : FnScope ["self", "at", "part"] ["self", "at", "part"] (defScope xt_Hangs) := ⟨rfl, rfl, rfl, by decide +kernel, rfl, by decide +kernel, by decide +kernel⟩
theorem xy_Hangs : defBody xt_Hangs = xi2Body "BoughError" "self" "at" "part" "a deed that hangs on another one" "at" "part" 0 ⟨23, 8, 23, 18⟩ ⟨23, 8, 23, 27⟩ ⟨23, 28, 23, 32⟩ ⟨23, 34, 23, 68⟩ ⟨23, 8, 23, 69⟩ ⟨23, 8, 23, 69⟩ ⟨24, 8, 24, 12⟩ ⟨24, 8, 24, 15⟩ ⟨24, 18, 24, 20⟩ ⟨24, 8, 24, 20⟩ ⟨25, 8, 25, 12⟩ ⟨25, 8, 25, 17⟩ ⟨25, 20, 25, 24⟩ ⟨25, 8, 25, 24⟩ := by kernel_rfl
theorem kx__law_kind : kdBody (defScope t__law_kind) "_law_e" "_law_kinds" (defBody t__law_kind) = some (["Clash", "Empty", "Hangs", "NoDeed", "NoRoom", "NoStand", "NoText", "NoWord", "Twice", "Unfit"] : List Str) := by kernel_rfl
section
variable {K : PySem.W.Frag} {h : Heap} {mg : Str → Option Value}
theorem stat (X : K.In h) (G : h.Ns mainGlobals mg) {fa0 fa1 fa2 fa3 fa4 fa5 fa6 fa7 fa8 fa9 fa10 fa11 fa12 fa13 fa14 fa15 fa16 fa17 fa18 fa19 ca0 ca1 ca2 ca3 ca4 ca5 ca6 ca7 ca8 ca9 ca10 ca11 xf5 : Addr} (a0 : FnIs K "__init__" "Set.__init__" t_Set___init__ fa0) (a1 : FnIs K "back" "Set.back" t_Set_back fa1) (a2 : FnIs K "told" "Set.told" t_Set_told fa2) (a3 : FnIs K "both_find" "both_find" t_both_find fa3) (a4 : FnIs K "clash" "clash" t_clash fa4) (a5 : FnIs K "taken_out" "taken_out" t_taken_out fa5) (a6 : FnIs K "put_in" "put_in" t_put_in fa6) (a7 : FnIs K "parted" "parted" t_parted fa7) (a8 : FnIs K "_law_at" "_law_at" t__law_at fa8) (a9 : FnIs K "_law_is" "_law_is" t__law_is fa9) (a10 : FnIs K "_law_number" "_law_number" t__law_number fa10) (a11 : FnIs K "_law_kind" "_law_kind" t__law_kind fa11) (a12 : FnIs K "_law_asked" "_law_asked" t__law_asked fa12) (a13 : FnIs K "_law_hangs" "_law_hangs" t__law_hangs fa13) (a14 : FnIs K "_law_row" "_law_row" t__law_row fa14) (a15 : FnIs K "_law_out" "_law_out" t__law_out fa15) (a16 : FnIs K "_law_put" "_law_put" t__law_put fa16) (a17 : FnIs K "_law_parted" "_law_parted" t__law_parted fa17) (a18 : FnIs K "_law_strangers" "_law_strangers" t__law_strangers fa18) (a19 : FnIs K "law" "law" t_law fa19) (p3 : PySem.W.nsIn K mainGlobals "both_find" = some (some (.ref fa3))) (p4 : PySem.W.nsIn K mainGlobals "clash" = some (some (.ref fa4))) (p5 : PySem.W.nsIn K mainGlobals "taken_out" = some (some (.ref fa5))) (p6 : PySem.W.nsIn K mainGlobals "put_in" = some (some (.ref fa6))) (p7 : PySem.W.nsIn K mainGlobals "parted" = some (some (.ref fa7))) (p8 : PySem.W.nsIn K mainGlobals "_law_at" = some (some (.ref fa8))) (p9 : PySem.W.nsIn K mainGlobals "_law_is" = some (some (.ref fa9))) (p10 : PySem.W.nsIn K mainGlobals "_law_number" = some (some (.ref fa10))) (p11 : PySem.W.nsIn K mainGlobals "_law_kind" = some (some (.ref fa11))) (p12 : PySem.W.nsIn K mainGlobals "_law_asked" = some (some (.ref fa12))) (p13 : PySem.W.nsIn K mainGlobals "_law_hangs" = some (some (.ref fa13))) (p14 : PySem.W.nsIn K mainGlobals "_law_row" = some (some (.ref fa14))) (p15 : PySem.W.nsIn K mainGlobals "_law_out" = some (some (.ref fa15))) (p16 : PySem.W.nsIn K mainGlobals "_law_put" = some (some (.ref fa16))) (p17 : PySem.W.nsIn K mainGlobals "_law_parted" = some (some (.ref fa17))) (p18 : PySem.W.nsIn K mainGlobals "_law_strangers" = some (some (.ref fa18))) (p19 : PySem.W.nsIn K mainGlobals "law" = some (some (.ref fa19))) (c0 : PySem.W.nsIn K mainGlobals "Set" = some (some (.ref ca0))) (c1 : PySem.W.nsIn K mainGlobals "BoughError" = some (some (.ref ca1))) (c2 : PySem.W.nsIn K mainGlobals "Unfit" = some (some (.ref ca2))) (c3 : PySem.W.nsIn K mainGlobals "NoText" = some (some (.ref ca3))) (c4 : PySem.W.nsIn K mainGlobals "Clash" = some (some (.ref ca4))) (c5 : PySem.W.nsIn K mainGlobals "Hangs" = some (some (.ref ca5))) (c6 : PySem.W.nsIn K mainGlobals "NoStand" = some (some (.ref ca6))) (c7 : PySem.W.nsIn K mainGlobals "NoDeed" = some (some (.ref ca7))) (c8 : PySem.W.nsIn K mainGlobals "Empty" = some (some (.ref ca8))) (c9 : PySem.W.nsIn K mainGlobals "NoWord" = some (some (.ref ca9))) (c10 : PySem.W.nsIn K mainGlobals "Twice" = some (some (.ref ca10))) (c11 : PySem.W.nsIn K mainGlobals "NoRoom" = some (some (.ref ca11))) (k0 : Cls K ca0) (m0 : Meth K ca0 "back" fa1) (m1 : Meth K ca0 "told" fa2) (i0 : Mk K ca0 fa0) (f0 : PySem.W.findIn K (.ref ca0) "path" = some none) (f1 : PySem.W.findIn K (.ref ca0) "old" = some none) (f2 : PySem.W.findIn K (.ref ca0) "new" = some none) (xe7 : XcOk K ca7) (xk7 : ExcC K ca7) (xk5 : ExcC K ca5) (xo1 : XoOk K ca1) (xo2 : XoOk K ca2) (xo3 : XoOk K ca3) (xo4 : XoOk K ca4) (xo5 : XoOk K ca5) (xo6 : XoOk K ca6) (xo7 : XoOk K ca7) (xo8 : XoOk K ca8) (xo9 : XoOk K ca9) (xo10 : XoOk K ca10) (xo11 : XoOk K ca11) (xgg5 : PySem.W.findIn K (.ref ca5) "part" = some none) (xa5 : FnIs K "__init__" "Hangs.__init__" (xt_Hangs) xf5) (xb5 : OexC K ca5) (xc5 : PySem.W.findIn K (.ref ca5) "__init__" = some (some (.ref xf5))) (xd5 : PySem.W.typeIn K (.ref xf5) = some (.type "function")) (xg5 : PySem.W.findIn K (.ref ca5) "at" = some none) (xh5 : ClX.CRead K ca1 (.type "type")) (xi5 : PySem.W.findCls K (.ref ca1) (.type "type") "__init__" = some (.val (.builtin "ValueError.__init__"))) (xq0 : PySem.W.kitOne K (.ref ca7) (.ref ca1) = some true) (xq1 : PySem.W.kitOne K (.ref ca7) (.ref ca2) = some false) (xq2 : PySem.W.kitOne K (.ref ca7) (.ref ca3) = some false) (xq3 : PySem.W.kitOne K (.ref ca7) (.ref ca4) = some false) (xq4 : PySem.W.kitOne K (.ref ca7) (.ref ca5) = some false) (xq5 : PySem.W.kitOne K (.ref ca7) (.ref ca6) = some false) (xq6 : PySem.W.kitOne K (.ref ca7) (.ref ca7) = some true) (xq7 : PySem.W.kitOne K (.ref ca7) (.ref ca8) = some false) (xq8 : PySem.W.kitOne K (.ref ca7) (.ref ca9) = some false) (xq9 : PySem.W.kitOne K (.ref ca7) (.ref ca10) = some false) (xq10 : PySem.W.kitOne K (.ref ca7) (.ref ca11) = some false) (xq11 : PySem.W.kitOne K (.ref ca5) (.ref ca1) = some true) (xq12 : PySem.W.kitOne K (.ref ca5) (.ref ca2) = some false) (xq13 : PySem.W.kitOne K (.ref ca5) (.ref ca3) = some false) (xq14 : PySem.W.kitOne K (.ref ca5) (.ref ca4) = some false) (xq15 : PySem.W.kitOne K (.ref ca5) (.ref ca5) = some true) (xq16 : PySem.W.kitOne K (.ref ca5) (.ref ca6) = some false) (xq17 : PySem.W.kitOne K (.ref ca5) (.ref ca7) = some false) (xq18 : PySem.W.kitOne K (.ref ca5) (.ref ca8) = some false) (xq19 : PySem.W.kitOne K (.ref ca5) (.ref ca9) = some false) (xq20 : PySem.W.kitOne K (.ref ca5) (.ref ca10) = some false) (xq21 : PySem.W.kitOne K (.ref ca5) (.ref ca11) = some false) (xq22 : PySem.W.kitOne K (.ref ca7) (.type "ValueError") = some true) (xq23 : PySem.W.kitOne K (.ref ca5) (.type "ValueError") = some true) (xr0 : PySem.W.subIn K (.ref ca7) (.ref ca1) = some true) (xr1 : PySem.W.subIn K (.ref ca7) (.ref ca2) = some false) (xr2 : PySem.W.subIn K (.ref ca7) (.ref ca3) = some false) (xr3 : PySem.W.subIn K (.ref ca7) (.ref ca4) = some false) (xr4 : PySem.W.subIn K (.ref ca7) (.ref ca5) = some false) (xr5 : PySem.W.subIn K (.ref ca7) (.ref ca6) = some false) (xr6 : PySem.W.subIn K (.ref ca7) (.ref ca7) = some true) (xr7 : PySem.W.subIn K (.ref ca7) (.ref ca8) = some false) (xr8 : PySem.W.subIn K (.ref ca7) (.ref ca9) = some false) (xr9 : PySem.W.subIn K (.ref ca7) (.ref ca10) = some false) (xr10 : PySem.W.subIn K (.ref ca7) (.ref ca11) = some false) (xr11 : PySem.W.subIn K (.ref ca5) (.ref ca1) = some true) (xr12 : PySem.W.subIn K (.ref ca5) (.ref ca2) = some false) (xr13 : PySem.W.subIn K (.ref ca5) (.ref ca3) = some false) (xr14 : PySem.W.subIn K (.ref ca5) (.ref ca4) = some false) (xr15 : PySem.W.subIn K (.ref ca5) (.ref ca5) = some true) (xr16 : PySem.W.subIn K (.ref ca5) (.ref ca6) = some false) (xr17 : PySem.W.subIn K (.ref ca5) (.ref ca7) = some false) (xr18 : PySem.W.subIn K (.ref ca5) (.ref ca8) = some false) (xr19 : PySem.W.subIn K (.ref ca5) (.ref ca9) = some false) (xr20 : PySem.W.subIn K (.ref ca5) (.ref ca10) = some false) (xr21 : PySem.W.subIn K (.ref ca5) (.ref ca11) = some false) (z0 : PySem.W.nsIn K mainGlobals "ValueError" = some none) (z1 : PySem.W.nsIn K mainGlobals "bool" = some none) (z2 : PySem.W.nsIn K mainGlobals "int" = some none) (z3 : PySem.W.nsIn K mainGlobals "isinstance" = some none) (z4 : PySem.W.nsIn K mainGlobals "len" = some none) (z5 : PySem.W.nsIn K mainGlobals "list" = some none) (z6 : PySem.W.nsIn K mainGlobals "range" = some none) (z7 : PySem.W.nsIn K mainGlobals "reversed" = some none) (z8 : PySem.W.nsIn K mainGlobals "tuple" = some none) : Stat K mg prog gls bls glv (adOf [("Set", ca0), ("BoughError", ca1), ("Unfit", ca2), ("NoText", ca3), ("Clash", ca4), ("Hangs", ca5), ("NoStand", ca6), ("NoDeed", ca7), ("Empty", ca8), ("NoWord", ca9), ("Twice", ca10), ("NoRoom", ca11)]) (adOf [("Set.__init__", fa0), ("Set.back", fa1), ("Set.told", fa2), ("both_find", fa3), ("clash", fa4), ("taken_out", fa5), ("put_in", fa6), ("parted", fa7), ("_law_at", fa8), ("_law_is", fa9), ("_law_number", fa10), ("_law_kind", fa11), ("_law_asked", fa12), ("_law_hangs", fa13), ("_law_row", fa14), ("_law_out", fa15), ("_law_put", fa16), ("_law_parted", fa17), ("_law_strangers", fa18), ("law", fa19)]) := by
  have e0 : adOf [("Set.__init__", fa0), ("Set.back", fa1), ("Set.told", fa2), ("both_find", fa3), ("clash", fa4), ("taken_out", fa5), ("put_in", fa6), ("parted", fa7), ("_law_at", fa8), ("_law_is", fa9), ("_law_number", fa10), ("_law_kind", fa11), ("_law_asked", fa12), ("_law_hangs", fa13), ("_law_row", fa14), ("_law_out", fa15), ("_law_put", fa16), ("_law_parted", fa17), ("_law_strangers", fa18), ("law", fa19)] "Set.__init__" = fa0 := by kernel_rfl
  have e1 : adOf [("Set.__init__", fa0), ("Set.back", fa1), ("Set.told", fa2), ("both_find", fa3), ("clash", fa4), ("taken_out", fa5), ("put_in", fa6), ("parted", fa7), ("_law_at", fa8), ("_law_is", fa9), ("_law_number", fa10), ("_law_kind", fa11), ("_law_asked", fa12), ("_law_hangs", fa13), ("_law_row", fa14), ("_law_out", fa15), ("_law_put", fa16), ("_law_parted", fa17), ("_law_strangers", fa18), ("law", fa19)] "Set.back" = fa1 := by kernel_rfl
  have e2 : adOf [("Set.__init__", fa0), ("Set.back", fa1), ("Set.told", fa2), ("both_find", fa3), ("clash", fa4), ("taken_out", fa5), ("put_in", fa6), ("parted", fa7), ("_law_at", fa8), ("_law_is", fa9), ("_law_number", fa10), ("_law_kind", fa11), ("_law_asked", fa12), ("_law_hangs", fa13), ("_law_row", fa14), ("_law_out", fa15), ("_law_put", fa16), ("_law_parted", fa17), ("_law_strangers", fa18), ("law", fa19)] "Set.told" = fa2 := by kernel_rfl
  have e3 : adOf [("Set.__init__", fa0), ("Set.back", fa1), ("Set.told", fa2), ("both_find", fa3), ("clash", fa4), ("taken_out", fa5), ("put_in", fa6), ("parted", fa7), ("_law_at", fa8), ("_law_is", fa9), ("_law_number", fa10), ("_law_kind", fa11), ("_law_asked", fa12), ("_law_hangs", fa13), ("_law_row", fa14), ("_law_out", fa15), ("_law_put", fa16), ("_law_parted", fa17), ("_law_strangers", fa18), ("law", fa19)] "both_find" = fa3 := by kernel_rfl
  have e4 : adOf [("Set.__init__", fa0), ("Set.back", fa1), ("Set.told", fa2), ("both_find", fa3), ("clash", fa4), ("taken_out", fa5), ("put_in", fa6), ("parted", fa7), ("_law_at", fa8), ("_law_is", fa9), ("_law_number", fa10), ("_law_kind", fa11), ("_law_asked", fa12), ("_law_hangs", fa13), ("_law_row", fa14), ("_law_out", fa15), ("_law_put", fa16), ("_law_parted", fa17), ("_law_strangers", fa18), ("law", fa19)] "clash" = fa4 := by kernel_rfl
  have e5 : adOf [("Set.__init__", fa0), ("Set.back", fa1), ("Set.told", fa2), ("both_find", fa3), ("clash", fa4), ("taken_out", fa5), ("put_in", fa6), ("parted", fa7), ("_law_at", fa8), ("_law_is", fa9), ("_law_number", fa10), ("_law_kind", fa11), ("_law_asked", fa12), ("_law_hangs", fa13), ("_law_row", fa14), ("_law_out", fa15), ("_law_put", fa16), ("_law_parted", fa17), ("_law_strangers", fa18), ("law", fa19)] "taken_out" = fa5 := by kernel_rfl
  have e6 : adOf [("Set.__init__", fa0), ("Set.back", fa1), ("Set.told", fa2), ("both_find", fa3), ("clash", fa4), ("taken_out", fa5), ("put_in", fa6), ("parted", fa7), ("_law_at", fa8), ("_law_is", fa9), ("_law_number", fa10), ("_law_kind", fa11), ("_law_asked", fa12), ("_law_hangs", fa13), ("_law_row", fa14), ("_law_out", fa15), ("_law_put", fa16), ("_law_parted", fa17), ("_law_strangers", fa18), ("law", fa19)] "put_in" = fa6 := by kernel_rfl
  have e7 : adOf [("Set.__init__", fa0), ("Set.back", fa1), ("Set.told", fa2), ("both_find", fa3), ("clash", fa4), ("taken_out", fa5), ("put_in", fa6), ("parted", fa7), ("_law_at", fa8), ("_law_is", fa9), ("_law_number", fa10), ("_law_kind", fa11), ("_law_asked", fa12), ("_law_hangs", fa13), ("_law_row", fa14), ("_law_out", fa15), ("_law_put", fa16), ("_law_parted", fa17), ("_law_strangers", fa18), ("law", fa19)] "parted" = fa7 := by kernel_rfl
  have e8 : adOf [("Set.__init__", fa0), ("Set.back", fa1), ("Set.told", fa2), ("both_find", fa3), ("clash", fa4), ("taken_out", fa5), ("put_in", fa6), ("parted", fa7), ("_law_at", fa8), ("_law_is", fa9), ("_law_number", fa10), ("_law_kind", fa11), ("_law_asked", fa12), ("_law_hangs", fa13), ("_law_row", fa14), ("_law_out", fa15), ("_law_put", fa16), ("_law_parted", fa17), ("_law_strangers", fa18), ("law", fa19)] "_law_at" = fa8 := by kernel_rfl
  have e9 : adOf [("Set.__init__", fa0), ("Set.back", fa1), ("Set.told", fa2), ("both_find", fa3), ("clash", fa4), ("taken_out", fa5), ("put_in", fa6), ("parted", fa7), ("_law_at", fa8), ("_law_is", fa9), ("_law_number", fa10), ("_law_kind", fa11), ("_law_asked", fa12), ("_law_hangs", fa13), ("_law_row", fa14), ("_law_out", fa15), ("_law_put", fa16), ("_law_parted", fa17), ("_law_strangers", fa18), ("law", fa19)] "_law_is" = fa9 := by kernel_rfl
  have e10 : adOf [("Set.__init__", fa0), ("Set.back", fa1), ("Set.told", fa2), ("both_find", fa3), ("clash", fa4), ("taken_out", fa5), ("put_in", fa6), ("parted", fa7), ("_law_at", fa8), ("_law_is", fa9), ("_law_number", fa10), ("_law_kind", fa11), ("_law_asked", fa12), ("_law_hangs", fa13), ("_law_row", fa14), ("_law_out", fa15), ("_law_put", fa16), ("_law_parted", fa17), ("_law_strangers", fa18), ("law", fa19)] "_law_number" = fa10 := by kernel_rfl
  have e11 : adOf [("Set.__init__", fa0), ("Set.back", fa1), ("Set.told", fa2), ("both_find", fa3), ("clash", fa4), ("taken_out", fa5), ("put_in", fa6), ("parted", fa7), ("_law_at", fa8), ("_law_is", fa9), ("_law_number", fa10), ("_law_kind", fa11), ("_law_asked", fa12), ("_law_hangs", fa13), ("_law_row", fa14), ("_law_out", fa15), ("_law_put", fa16), ("_law_parted", fa17), ("_law_strangers", fa18), ("law", fa19)] "_law_kind" = fa11 := by kernel_rfl
  have e12 : adOf [("Set.__init__", fa0), ("Set.back", fa1), ("Set.told", fa2), ("both_find", fa3), ("clash", fa4), ("taken_out", fa5), ("put_in", fa6), ("parted", fa7), ("_law_at", fa8), ("_law_is", fa9), ("_law_number", fa10), ("_law_kind", fa11), ("_law_asked", fa12), ("_law_hangs", fa13), ("_law_row", fa14), ("_law_out", fa15), ("_law_put", fa16), ("_law_parted", fa17), ("_law_strangers", fa18), ("law", fa19)] "_law_asked" = fa12 := by kernel_rfl
  have e13 : adOf [("Set.__init__", fa0), ("Set.back", fa1), ("Set.told", fa2), ("both_find", fa3), ("clash", fa4), ("taken_out", fa5), ("put_in", fa6), ("parted", fa7), ("_law_at", fa8), ("_law_is", fa9), ("_law_number", fa10), ("_law_kind", fa11), ("_law_asked", fa12), ("_law_hangs", fa13), ("_law_row", fa14), ("_law_out", fa15), ("_law_put", fa16), ("_law_parted", fa17), ("_law_strangers", fa18), ("law", fa19)] "_law_hangs" = fa13 := by kernel_rfl
  have e14 : adOf [("Set.__init__", fa0), ("Set.back", fa1), ("Set.told", fa2), ("both_find", fa3), ("clash", fa4), ("taken_out", fa5), ("put_in", fa6), ("parted", fa7), ("_law_at", fa8), ("_law_is", fa9), ("_law_number", fa10), ("_law_kind", fa11), ("_law_asked", fa12), ("_law_hangs", fa13), ("_law_row", fa14), ("_law_out", fa15), ("_law_put", fa16), ("_law_parted", fa17), ("_law_strangers", fa18), ("law", fa19)] "_law_row" = fa14 := by kernel_rfl
  have e15 : adOf [("Set.__init__", fa0), ("Set.back", fa1), ("Set.told", fa2), ("both_find", fa3), ("clash", fa4), ("taken_out", fa5), ("put_in", fa6), ("parted", fa7), ("_law_at", fa8), ("_law_is", fa9), ("_law_number", fa10), ("_law_kind", fa11), ("_law_asked", fa12), ("_law_hangs", fa13), ("_law_row", fa14), ("_law_out", fa15), ("_law_put", fa16), ("_law_parted", fa17), ("_law_strangers", fa18), ("law", fa19)] "_law_out" = fa15 := by kernel_rfl
  have e16 : adOf [("Set.__init__", fa0), ("Set.back", fa1), ("Set.told", fa2), ("both_find", fa3), ("clash", fa4), ("taken_out", fa5), ("put_in", fa6), ("parted", fa7), ("_law_at", fa8), ("_law_is", fa9), ("_law_number", fa10), ("_law_kind", fa11), ("_law_asked", fa12), ("_law_hangs", fa13), ("_law_row", fa14), ("_law_out", fa15), ("_law_put", fa16), ("_law_parted", fa17), ("_law_strangers", fa18), ("law", fa19)] "_law_put" = fa16 := by kernel_rfl
  have e17 : adOf [("Set.__init__", fa0), ("Set.back", fa1), ("Set.told", fa2), ("both_find", fa3), ("clash", fa4), ("taken_out", fa5), ("put_in", fa6), ("parted", fa7), ("_law_at", fa8), ("_law_is", fa9), ("_law_number", fa10), ("_law_kind", fa11), ("_law_asked", fa12), ("_law_hangs", fa13), ("_law_row", fa14), ("_law_out", fa15), ("_law_put", fa16), ("_law_parted", fa17), ("_law_strangers", fa18), ("law", fa19)] "_law_parted" = fa17 := by kernel_rfl
  have e18 : adOf [("Set.__init__", fa0), ("Set.back", fa1), ("Set.told", fa2), ("both_find", fa3), ("clash", fa4), ("taken_out", fa5), ("put_in", fa6), ("parted", fa7), ("_law_at", fa8), ("_law_is", fa9), ("_law_number", fa10), ("_law_kind", fa11), ("_law_asked", fa12), ("_law_hangs", fa13), ("_law_row", fa14), ("_law_out", fa15), ("_law_put", fa16), ("_law_parted", fa17), ("_law_strangers", fa18), ("law", fa19)] "_law_strangers" = fa18 := by kernel_rfl
  have e19 : adOf [("Set.__init__", fa0), ("Set.back", fa1), ("Set.told", fa2), ("both_find", fa3), ("clash", fa4), ("taken_out", fa5), ("put_in", fa6), ("parted", fa7), ("_law_at", fa8), ("_law_is", fa9), ("_law_number", fa10), ("_law_kind", fa11), ("_law_asked", fa12), ("_law_hangs", fa13), ("_law_row", fa14), ("_law_out", fa15), ("_law_put", fa16), ("_law_parted", fa17), ("_law_strangers", fa18), ("law", fa19)] "law" = fa19 := by kernel_rfl
  have d0 : adOf [("Set", ca0), ("BoughError", ca1), ("Unfit", ca2), ("NoText", ca3), ("Clash", ca4), ("Hangs", ca5), ("NoStand", ca6), ("NoDeed", ca7), ("Empty", ca8), ("NoWord", ca9), ("Twice", ca10), ("NoRoom", ca11)] "Set" = ca0 := by kernel_rfl
  have d1 : adOf [("Set", ca0), ("BoughError", ca1), ("Unfit", ca2), ("NoText", ca3), ("Clash", ca4), ("Hangs", ca5), ("NoStand", ca6), ("NoDeed", ca7), ("Empty", ca8), ("NoWord", ca9), ("Twice", ca10), ("NoRoom", ca11)] "BoughError" = ca1 := by kernel_rfl
  have d2 : adOf [("Set", ca0), ("BoughError", ca1), ("Unfit", ca2), ("NoText", ca3), ("Clash", ca4), ("Hangs", ca5), ("NoStand", ca6), ("NoDeed", ca7), ("Empty", ca8), ("NoWord", ca9), ("Twice", ca10), ("NoRoom", ca11)] "Unfit" = ca2 := by kernel_rfl
  have d3 : adOf [("Set", ca0), ("BoughError", ca1), ("Unfit", ca2), ("NoText", ca3), ("Clash", ca4), ("Hangs", ca5), ("NoStand", ca6), ("NoDeed", ca7), ("Empty", ca8), ("NoWord", ca9), ("Twice", ca10), ("NoRoom", ca11)] "NoText" = ca3 := by kernel_rfl
  have d4 : adOf [("Set", ca0), ("BoughError", ca1), ("Unfit", ca2), ("NoText", ca3), ("Clash", ca4), ("Hangs", ca5), ("NoStand", ca6), ("NoDeed", ca7), ("Empty", ca8), ("NoWord", ca9), ("Twice", ca10), ("NoRoom", ca11)] "Clash" = ca4 := by kernel_rfl
  have d5 : adOf [("Set", ca0), ("BoughError", ca1), ("Unfit", ca2), ("NoText", ca3), ("Clash", ca4), ("Hangs", ca5), ("NoStand", ca6), ("NoDeed", ca7), ("Empty", ca8), ("NoWord", ca9), ("Twice", ca10), ("NoRoom", ca11)] "Hangs" = ca5 := by kernel_rfl
  have d6 : adOf [("Set", ca0), ("BoughError", ca1), ("Unfit", ca2), ("NoText", ca3), ("Clash", ca4), ("Hangs", ca5), ("NoStand", ca6), ("NoDeed", ca7), ("Empty", ca8), ("NoWord", ca9), ("Twice", ca10), ("NoRoom", ca11)] "NoStand" = ca6 := by kernel_rfl
  have d7 : adOf [("Set", ca0), ("BoughError", ca1), ("Unfit", ca2), ("NoText", ca3), ("Clash", ca4), ("Hangs", ca5), ("NoStand", ca6), ("NoDeed", ca7), ("Empty", ca8), ("NoWord", ca9), ("Twice", ca10), ("NoRoom", ca11)] "NoDeed" = ca7 := by kernel_rfl
  have d8 : adOf [("Set", ca0), ("BoughError", ca1), ("Unfit", ca2), ("NoText", ca3), ("Clash", ca4), ("Hangs", ca5), ("NoStand", ca6), ("NoDeed", ca7), ("Empty", ca8), ("NoWord", ca9), ("Twice", ca10), ("NoRoom", ca11)] "Empty" = ca8 := by kernel_rfl
  have d9 : adOf [("Set", ca0), ("BoughError", ca1), ("Unfit", ca2), ("NoText", ca3), ("Clash", ca4), ("Hangs", ca5), ("NoStand", ca6), ("NoDeed", ca7), ("Empty", ca8), ("NoWord", ca9), ("Twice", ca10), ("NoRoom", ca11)] "NoWord" = ca9 := by kernel_rfl
  have d10 : adOf [("Set", ca0), ("BoughError", ca1), ("Unfit", ca2), ("NoText", ca3), ("Clash", ca4), ("Hangs", ca5), ("NoStand", ca6), ("NoDeed", ca7), ("Empty", ca8), ("NoWord", ca9), ("Twice", ca10), ("NoRoom", ca11)] "Twice" = ca10 := by kernel_rfl
  have d11 : adOf [("Set", ca0), ("BoughError", ca1), ("Unfit", ca2), ("NoText", ca3), ("Clash", ca4), ("Hangs", ca5), ("NoStand", ca6), ("NoDeed", ca7), ("Empty", ca8), ("NoWord", ca9), ("Twice", ca10), ("NoRoom", ca11)] "NoRoom" = ca11 := by kernel_rfl
  generalize adOf [("Set.__init__", fa0), ("Set.back", fa1), ("Set.told", fa2), ("both_find", fa3), ("clash", fa4), ("taken_out", fa5), ("put_in", fa6), ("parted", fa7), ("_law_at", fa8), ("_law_is", fa9), ("_law_number", fa10), ("_law_kind", fa11), ("_law_asked", fa12), ("_law_hangs", fa13), ("_law_row", fa14), ("_law_out", fa15), ("_law_put", fa16), ("_law_parted", fa17), ("_law_strangers", fa18), ("law", fa19)] = fad at *
  generalize adOf [("Set", ca0), ("BoughError", ca1), ("Unfit", ca2), ("NoText", ca3), ("Clash", ca4), ("Hangs", ca5), ("NoStand", ca6), ("NoDeed", ca7), ("Empty", ca8), ("NoWord", ca9), ("Twice", ca10), ("NoRoom", ca11)] = ad at *
  subst e0 e1 e2 e3 e4 e5 e6 e7 e8 e9 e10 e11 e12 e13 e14 e15 e16 e17 e18 e19 d0 d1 d2 d3 d4 d5 d6 d7 d8 d9 d10 d11
  refine ⟨fun f fd hf => ?_, fun f n hf => ?_, fun C hc => ?_, fun C m f n hf => ?_, fun C f n hf => ?_, fun C f hf => ?_, fun C D b hf => ?_, fun C hc => ?_, fun C hc => ?_, fun C D b hf => ?_, fun C f hf => ?_, fun g hc => ?_, fun C f g hf => ?_, fun g Cs hf => ?_, fun x hx => ?_, fun x t hx ht => ?_⟩
  ·
    have hm := lookup_mem hf
    simp only [prog, List.mem_cons, List.not_mem_nil, or_false, Prod.mk.injEq] at hm
    rcases hm with ⟨rfl, rfl⟩ | ⟨rfl, rfl⟩ | ⟨rfl, rfl⟩ | ⟨rfl, rfl⟩ | ⟨rfl, rfl⟩ | ⟨rfl, rfl⟩ | ⟨rfl, rfl⟩ | ⟨rfl, rfl⟩ | ⟨rfl, rfl⟩ | ⟨rfl, rfl⟩ | ⟨rfl, rfl⟩ | ⟨rfl, rfl⟩ | ⟨rfl, rfl⟩ | ⟨rfl, rfl⟩ | ⟨rfl, rfl⟩ | ⟨rfl, rfl⟩ | ⟨rfl, rfl⟩ | ⟨rfl, rfl⟩ | ⟨rfl, rfl⟩ | ⟨rfl, rfl⟩
    · exact fn_is a0 rfl sc_Set___init__ ck_Set___init__ fun _ _ _ _ _ _ us hl => match us, hl with | [_, _, _, _], _ => rfl
    · exact fn_is a1 rfl sc_Set_back ck_Set_back fun _ _ _ _ _ _ us hl => match us, hl with | [_], _ => rfl
    · exact fn_is a2 rfl sc_Set_told ck_Set_told fun _ _ _ _ _ _ us hl => match us, hl with | [_], _ => rfl
    · exact fn_is a3 rfl sc_both_find ck_both_find fun _ _ _ _ _ _ us hl => match us, hl with | [_, _], _ => rfl
    · exact fn_is a4 rfl sc_clash ck_clash fun _ _ _ _ _ _ us hl => match us, hl with | [_, _], _ => rfl
    · exact fn_is a5 rfl sc_taken_out ck_taken_out fun _ _ _ _ _ _ us hl => match us, hl with | [_, _], _ => rfl
    · exact fn_is a6 rfl sc_put_in ck_put_in fun _ _ _ _ _ _ us hl => match us, hl with | [_, _, _], _ => rfl
    · exact fn_is a7 rfl sc_parted ck_parted fun _ _ _ _ _ _ us hl => match us, hl with | [_, _], _ => rfl
    · exact fn_is a8 rfl sc__law_at ck__law_at fun _ _ _ _ _ _ us hl => match us, hl with | [_, _], _ => rfl
    · exact fn_is a9 rfl sc__law_is ck__law_is fun _ _ _ _ _ _ us hl => match us, hl with | [_, _], _ => rfl
    · exact fn_is a10 rfl sc__law_number ck__law_number fun _ _ _ _ _ _ us hl => match us, hl with | [_], _ => rfl
    · exact fn_is a11 rfl sc__law_kind ck__law_kind fun _ _ _ _ _ _ us hl => match us, hl with | [_], _ => rfl
    · exact fn_is a12 rfl sc__law_asked ck__law_asked fun _ _ _ _ _ _ us hl => match us, hl with | [_, _, _, _], _ => rfl
    · exact fn_is a13 rfl sc__law_hangs ck__law_hangs fun _ _ _ _ _ _ us hl => match us, hl with | [_, _, _], _ => rfl
    · exact fn_is a14 rfl sc__law_row ck__law_row fun _ _ _ _ _ _ us hl => match us, hl with | [_, _], _ => rfl
    · exact fn_is a15 rfl sc__law_out ck__law_out fun _ _ _ _ _ _ us hl => match us, hl with | [_, _, _, _], _ => rfl
    · exact fn_is a16 rfl sc__law_put ck__law_put fun _ _ _ _ _ _ us hl => match us, hl with | [_, _, _, _, _], _ => rfl
    · exact fn_is a17 rfl sc__law_parted ck__law_parted fun _ _ _ _ _ _ us hl => match us, hl with | [_, _, _], _ => rfl
    · exact fn_is a18 rfl sc__law_strangers ck__law_strangers fun _ _ _ _ _ _ us hl => match us, hl with | [_, _, _], _ => rfl
    · exact fn_is a19 rfl sc_law ck_law fun _ _ _ _ _ _ us hl => match us, hl with | [_], _ => rfl
  ·
    have hm := lookup_mem hf
    simp only [prog, List.mem_cons, List.not_mem_nil, or_false, Prod.mk.injEq] at hm
    rcases hm with ⟨rfl, rfl⟩ | ⟨rfl, rfl⟩ | ⟨rfl, rfl⟩ | ⟨rfl, rfl⟩ | ⟨rfl, rfl⟩ | ⟨rfl, rfl⟩ | ⟨rfl, rfl⟩ | ⟨rfl, rfl⟩ | ⟨rfl, rfl⟩ | ⟨rfl, rfl⟩ | ⟨rfl, rfl⟩ | ⟨rfl, rfl⟩ | ⟨rfl, rfl⟩ | ⟨rfl, rfl⟩ | ⟨rfl, rfl⟩ | ⟨rfl, rfl⟩ | ⟨rfl, rfl⟩
    · exact ⟨PySem.W.mg_of X G p3, f_both_find, by kernel_rfl, rfl⟩
    · exact ⟨PySem.W.mg_of X G p4, f_clash, by kernel_rfl, rfl⟩
    · exact ⟨PySem.W.mg_of X G p5, f_taken_out, by kernel_rfl, rfl⟩
    · exact ⟨PySem.W.mg_of X G p6, f_put_in, by kernel_rfl, rfl⟩
    · exact ⟨PySem.W.mg_of X G p7, f_parted, by kernel_rfl, rfl⟩
    · exact ⟨PySem.W.mg_of X G p8, f__law_at, by kernel_rfl, rfl⟩
    · exact ⟨PySem.W.mg_of X G p9, f__law_is, by kernel_rfl, rfl⟩
    · exact ⟨PySem.W.mg_of X G p10, f__law_number, by kernel_rfl, rfl⟩
    · exact ⟨PySem.W.mg_of X G p11, f__law_kind, by kernel_rfl, rfl⟩
    · exact ⟨PySem.W.mg_of X G p12, f__law_asked, by kernel_rfl, rfl⟩
    · exact ⟨PySem.W.mg_of X G p13, f__law_hangs, by kernel_rfl, rfl⟩
    · exact ⟨PySem.W.mg_of X G p14, f__law_row, by kernel_rfl, rfl⟩
    · exact ⟨PySem.W.mg_of X G p15, f__law_out, by kernel_rfl, rfl⟩
    · exact ⟨PySem.W.mg_of X G p16, f__law_put, by kernel_rfl, rfl⟩
    · exact ⟨PySem.W.mg_of X G p17, f__law_parted, by kernel_rfl, rfl⟩
    · exact ⟨PySem.W.mg_of X G p18, f__law_strangers, by kernel_rfl, rfl⟩
    · exact ⟨PySem.W.mg_of X G p19, f_law, by kernel_rfl, rfl⟩
  ·
    simp only [prog, List.contains_eq_any_beq, List.any_cons, List.any_nil, Bool.or_false, Bool.or_eq_true, beq_iff_eq] at hc
    rcases hc with rfl
    · exact PySem.W.mg_of X G c0
  ·
    have hm := lookup_mem hf
    simp only [prog, ct, List.mem_cons, List.not_mem_nil, or_false, Prod.mk.injEq] at hm
    rcases hm with ⟨⟨rfl, rfl⟩, rfl, rfl⟩ | ⟨⟨rfl, rfl⟩, rfl, rfl⟩
    · exact ⟨k0, m0, f_Set_back, by kernel_rfl, rfl⟩
    · exact ⟨k0, m1, f_Set_told, by kernel_rfl, rfl⟩
  ·
    have hm := lookup_mem hf
    simp only [prog, ct, List.mem_cons, List.not_mem_nil, or_false, Prod.mk.injEq] at hm
    rcases hm with ⟨rfl, rfl, rfl⟩
    · exact ⟨i0, f_Set___init__, by kernel_rfl, rfl⟩
  ·
    simp only [prog, ct, List.contains_eq_any_beq, List.any_cons, List.any_nil, Bool.or_false, Bool.or_eq_true, beq_iff_eq, Prod.mk.injEq] at hf
    rcases hf with ⟨rfl, rfl⟩ | ⟨rfl, rfl⟩ | ⟨rfl, rfl⟩
    · exact ⟨k0, f0⟩
    · exact ⟨k0, f1⟩
    · exact ⟨k0, f2⟩
  ·
    simp [prog, ct] at hf
  ·
    simp only [prog, List.contains_eq_any_beq, List.any_cons, List.any_nil, Bool.or_false, Bool.or_eq_true, beq_iff_eq] at hc
    rcases hc with rfl | rfl | rfl | rfl | rfl | rfl | rfl | rfl | rfl | rfl | rfl
    · exact PySem.W.mg_of X G c1
    · exact PySem.W.mg_of X G c2
    · exact PySem.W.mg_of X G c3
    · exact PySem.W.mg_of X G c4
    · exact PySem.W.mg_of X G c5
    · exact PySem.W.mg_of X G c6
    · exact PySem.W.mg_of X G c7
    · exact PySem.W.mg_of X G c8
    · exact PySem.W.mg_of X G c9
    · exact PySem.W.mg_of X G c10
    · exact PySem.W.mg_of X G c11
  ·
    simp only [prog, ct, List.contains_eq_any_beq, List.any_cons, List.any_nil, Bool.or_false, Bool.or_eq_true, beq_iff_eq] at hc
    rcases hc with rfl
    · exact xe7
  ·
    have hm := lookup_mem hf
    simp only [prog, ct, List.mem_cons, List.not_mem_nil, or_false, Prod.mk.injEq] at hm
    rcases hm with ⟨⟨rfl, rfl⟩, rfl⟩ | ⟨⟨rfl, rfl⟩, rfl⟩ | ⟨⟨rfl, rfl⟩, rfl⟩ | ⟨⟨rfl, rfl⟩, rfl⟩ | ⟨⟨rfl, rfl⟩, rfl⟩ | ⟨⟨rfl, rfl⟩, rfl⟩ | ⟨⟨rfl, rfl⟩, rfl⟩ | ⟨⟨rfl, rfl⟩, rfl⟩ | ⟨⟨rfl, rfl⟩, rfl⟩ | ⟨⟨rfl, rfl⟩, rfl⟩ | ⟨⟨rfl, rfl⟩, rfl⟩ | ⟨⟨rfl, rfl⟩, rfl⟩ | ⟨⟨rfl, rfl⟩, rfl⟩ | ⟨⟨rfl, rfl⟩, rfl⟩ | ⟨⟨rfl, rfl⟩, rfl⟩ | ⟨⟨rfl, rfl⟩, rfl⟩ | ⟨⟨rfl, rfl⟩, rfl⟩ | ⟨⟨rfl, rfl⟩, rfl⟩ | ⟨⟨rfl, rfl⟩, rfl⟩ | ⟨⟨rfl, rfl⟩, rfl⟩ | ⟨⟨rfl, rfl⟩, rfl⟩ | ⟨⟨rfl, rfl⟩, rfl⟩ | ⟨⟨rfl, rfl⟩, rfl⟩ | ⟨⟨rfl, rfl⟩, rfl⟩
    · exact xs_own (cA := ⟨K, ad⟩) (by decide) xq0 xo1 xr0 xk7
    · exact xs_own (cA := ⟨K, ad⟩) (by decide) xq1 xo2 xr1 xk7
    · exact xs_own (cA := ⟨K, ad⟩) (by decide) xq2 xo3 xr2 xk7
    · exact xs_own (cA := ⟨K, ad⟩) (by decide) xq3 xo4 xr3 xk7
    · exact xs_own (cA := ⟨K, ad⟩) (by decide) xq4 xo5 xr4 xk7
    · exact xs_own (cA := ⟨K, ad⟩) (by decide) xq5 xo6 xr5 xk7
    · exact xs_own (cA := ⟨K, ad⟩) (by decide) xq6 xo7 xr6 xk7
    · exact xs_own (cA := ⟨K, ad⟩) (by decide) xq7 xo8 xr7 xk7
    · exact xs_own (cA := ⟨K, ad⟩) (by decide) xq8 xo9 xr8 xk7
    · exact xs_own (cA := ⟨K, ad⟩) (by decide) xq9 xo10 xr9 xk7
    · exact xs_own (cA := ⟨K, ad⟩) (by decide) xq10 xo11 xr10 xk7
    · exact xs_own (cA := ⟨K, ad⟩) (by decide) xq11 xo1 xr11 xk5
    · exact xs_own (cA := ⟨K, ad⟩) (by decide) xq12 xo2 xr12 xk5
    · exact xs_own (cA := ⟨K, ad⟩) (by decide) xq13 xo3 xr13 xk5
    · exact xs_own (cA := ⟨K, ad⟩) (by decide) xq14 xo4 xr14 xk5
    · exact xs_own (cA := ⟨K, ad⟩) (by decide) xq15 xo5 xr15 xk5
    · exact xs_own (cA := ⟨K, ad⟩) (by decide) xq16 xo6 xr16 xk5
    · exact xs_own (cA := ⟨K, ad⟩) (by decide) xq17 xo7 xr17 xk5
    · exact xs_own (cA := ⟨K, ad⟩) (by decide) xq18 xo8 xr18 xk5
    · exact xs_own (cA := ⟨K, ad⟩) (by decide) xq19 xo9 xr19 xk5
    · exact xs_own (cA := ⟨K, ad⟩) (by decide) xq20 xo10 xr20 xk5
    · exact xs_own (cA := ⟨K, ad⟩) (by decide) xq21 xo11 xr21 xk5
    · exact xs_val (cA := ⟨K, ad⟩) xq22 xk7
    · exact xs_val (cA := ⟨K, ad⟩) xq23 xk5
  ·
    simp [prog, ct] at hf
  ·
    simp [prog, ct] at hc
  ·
    have hm := lookup_mem hf
    simp only [prog, ct, List.mem_cons, List.not_mem_nil, or_false, Prod.mk.injEq] at hm
    rcases hm with ⟨rfl, rfl, rfl⟩
    · exact xi2_is xa5 xb5 xc5 xd5 xg5 xgg5 xs_Hangs xy_Hangs (PySem.W.mg_of X G c1) (by kernel_rfl) (by decide +kernel) (by decide +kernel) (by decide +kernel) (by decide +kernel) xh5 xi5 (by kernel_rfl) (by kernel_rfl) (by kernel_rfl) (by kernel_rfl) fun _ _ _ _ _ _ us hl => match us, hl with | [_, _, _], _ => rfl
  ·
    have hm := lookup_mem hf
    simp only [prog, ct, List.mem_cons, List.not_mem_nil, or_false, Prod.mk.injEq] at hm
    rcases hm with ⟨rfl, rfl⟩
    · refine xk_is a11 (PySem.W.mg_of X G p11) sc__law_kind kx__law_kind (by decide) (by kernel_rfl) (by kernel_rfl) (PySem.W.mg_none_of X G z3) (PySem.W.mg_none_of X G z0) (fun C hC => ?_) (by decide +kernel) (by decide +kernel) (by decide +kernel) (by kernel_rfl) (by kernel_rfl) fun _ _ _ _ _ _ us hl => match us, hl with | [_], _ => rfl
      simp only [List.mem_cons, List.not_mem_nil, or_false] at hC
      rcases hC with rfl | rfl | rfl | rfl | rfl | rfl | rfl | rfl | rfl | rfl
      · exact PySem.W.mg_of X G c4
      · exact PySem.W.mg_of X G c8
      · exact PySem.W.mg_of X G c5
      · exact PySem.W.mg_of X G c7
      · exact PySem.W.mg_of X G c11
      · exact PySem.W.mg_of X G c6
      · exact PySem.W.mg_of X G c3
      · exact PySem.W.mg_of X G c9
      · exact PySem.W.mg_of X G c10
      · exact PySem.W.mg_of X G c2
  · simp only [bls, List.contains_eq_any_beq, List.any_cons, List.any_nil, Bool.or_false, Bool.or_eq_true, beq_iff_eq] at hx
    rcases hx with rfl | rfl | rfl | rfl | rfl | rfl | rfl | rfl | rfl
    · exact PySem.W.mg_none_of X G z0
    · exact PySem.W.mg_none_of X G z1
    · exact PySem.W.mg_none_of X G z2
    · exact PySem.W.mg_none_of X G z3
    · exact PySem.W.mg_none_of X G z4
    · exact PySem.W.mg_none_of X G z5
    · exact PySem.W.mg_none_of X G z6
    · exact PySem.W.mg_none_of X G z7
    · exact PySem.W.mg_none_of X G z8
  · simp [gls] at hx
end
end L51
open PySem PySem.W PyProof.Rows
set_option maxRecDepth 100000 in
set_option maxHeartbeats 0 in
theorem PySem.Challenge.cw_boughback_k51_sets_of_one_part_holds : PySem.Challenge.rw_boughback_k51_sets_of_one_part.Holds := by
  w_on; o_law; k_head; (case hw => w_witness2)
  k_fill
  refine Bv.law_walk (l := PySem.Challenge.rw_boughback_k51_sets_of_one_part) (pr := L51.prog) (gls := L51.gls) (bls := L51.bls) (gl := L51.glv) (d := 20) (f := "law") (x := "_law_script") (fdl := L51.f_law) rfl rfl (by kernel_rfl) (by kernel_rfl) rfl ⟨rfl, by decide, by decide⟩ (fun w h Y => PySem.W.kIn_of Y) (fun p hp => nomatch hp) (fun _ _ _ _ p hp => nomatch hp) L51.law_true ?F
  case F =>
    intro w mg fa h KX G hmg
    refine' ⟨_, _, L51.stat KX G (Bv.fnIs_mk ?l0 ?c0 ?k0) (Bv.fnIs_mk ?l1 ?c1 ?k1) (Bv.fnIs_mk ?l2 ?c2 ?k2) (Bv.fnIs_mk ?l3 ?c3 ?k3) (Bv.fnIs_mk ?l4 ?c4 ?k4) (Bv.fnIs_mk ?l5 ?c5 ?k5) (Bv.fnIs_mk ?l6 ?c6 ?k6) (Bv.fnIs_mk ?l7 ?c7 ?k7) (Bv.fnIs_mk ?l8 ?c8 ?k8) (Bv.fnIs_mk ?l9 ?c9 ?k9) (Bv.fnIs_mk ?l10 ?c10 ?k10) (Bv.fnIs_mk ?l11 ?c11 ?k11) (Bv.fnIs_mk ?l12 ?c12 ?k12) (Bv.fnIs_mk ?l13 ?c13 ?k13) (Bv.fnIs_mk ?l14 ?c14 ?k14) (Bv.fnIs_mk ?l15 ?c15 ?k15) (Bv.fnIs_mk ?l16 ?c16 ?k16) (Bv.fnIs_mk ?l17 ?c17 ?k17) (Bv.fnIs_mk ?l18 ?c18 ?k18) (Bv.fnIs_mk ?l19 ?c19 ?k19) ?p3 ?p4 ?p5 ?p6 ?p7 ?p8 ?p9 ?p10 ?p11 ?p12 ?p13 ?p14 ?p15 ?p16 ?p17 ?p18 ?p19 ?ca0 ?ca1 ?ca2 ?ca3 ?ca4 ?ca5 ?ca6 ?ca7 ?ca8 ?ca9 ?ca10 ?ca11 ⟨?kp0, ?kh0, ?ko0, ?ks0⟩ ⟨?ma0, ?mf0, ?mk0⟩ ⟨?ma1, ?mf1, ?mk1⟩ ⟨?im0, ?ii0, ?if0, ?ik0⟩ ?fl0 ?fl1 ?fl2 ⟨?xa7, ?xb7, ?xc7, ?xd7⟩ ⟨?xk7_0, ?xk7_1, ?xk7_2, ?xk7_3, ?xk7_4, ?xk7_5, ?xk7_6, ?xk7_7⟩ ⟨?xk5_0, ?xk5_1, ?xk5_2, ?xk5_3, ?xk5_4, ?xk5_5, ?xk5_6, ?xk5_7⟩ ⟨?xo1_0, ?xo1_1, ?xo1_2⟩ ⟨?xo2_0, ?xo2_1, ?xo2_2⟩ ⟨?xo3_0, ?xo3_1, ?xo3_2⟩ ⟨?xo4_0, ?xo4_1, ?xo4_2⟩ ⟨?xo5_0, ?xo5_1, ?xo5_2⟩ ⟨?xo6_0, ?xo6_1, ?xo6_2⟩ ⟨?xo7_0, ?xo7_1, ?xo7_2⟩ ⟨?xo8_0, ?xo8_1, ?xo8_2⟩ ⟨?xo9_0, ?xo9_1, ?xo9_2⟩ ⟨?xo10_0, ?xo10_1, ?xo10_2⟩ ⟨?xo11_0, ?xo11_1, ?xo11_2⟩ ?xzz5 (Bv.fnIs_mk ?xl5 ?xm5 ?xn5) (Bv.oexC_mk ?xu5 ?xv5 ?xw5_0 ?xw5_1 ?xw5_2 ?xw5_3) ?xx5 ?xy5 ?xz5 ⟨?xp5_0, ?xp5_1⟩ ?xs5 ?xq0 ?xq1 ?xq2 ?xq3 ?xq4 ?xq5 ?xq6 ?xq7 ?xq8 ?xq9 ?xq10 ?xq11 ?xq12 ?xq13 ?xq14 ?xq15 ?xq16 ?xq17 ?xq18 ?xq19 ?xq20 ?xq21 ?xq22 ?xq23 ?xr0 ?xr1 ?xr2 ?xr3 ?xr4 ?xr5 ?xr6 ?xr7 ?xr8 ?xr9 ?xr10 ?xr11 ?xr12 ?xr13 ?xr14 ?xr15 ?xr16 ?xr17 ?xr18 ?xr19 ?xr20 ?xr21 ?z0 ?z1 ?z2 ?z3 ?z4 ?z5 ?z6 ?z7 ?z8⟩
    (case ca0 => k_is)
    (case ca1 => k_is)
    (case ca2 => k_is)
    (case ca3 => k_is)
    (case ca4 => k_is)
    (case ca5 => k_is)
    (case ca6 => k_is)
    (case ca7 => k_is)
    (case ca8 => k_is)
    (case ca9 => k_is)
    (case ca10 => k_is)
    (case ca11 => k_is)
    (case p3 => k_is)
    (case p4 => k_is)
    (case p5 => k_is)
    (case p6 => k_is)
    (case p7 => k_is)
    (case p8 => k_is)
    (case p9 => k_is)
    (case p10 => k_is)
    (case p11 => k_is)
    (case p12 => k_is)
    (case p13 => k_is)
    (case p14 => k_is)
    (case p15 => k_is)
    (case p16 => k_is)
    (case p17 => k_is)
    (case p18 => k_is)
    (case p19 => k_is)
    (case ma0 => k_is)
    (case ma1 => k_is)
    (case im0 => k_is); (case ii0 => k_is); (case if0 => k_is); (case ik0 => k_is)
    (case mf0 => k_is); (case mk0 => k_is)
    (case mf1 => k_is); (case mk1 => k_is)
    (case l0 => k_is); (case c0 => k_is); (case k0 => k_is)
    (case l1 => k_is); (case c1 => k_is); (case k1 => k_is)
    (case l2 => k_is); (case c2 => k_is); (case k2 => k_is)
    (case l3 => k_is); (case c3 => k_is); (case k3 => k_is)
    (case l4 => k_is); (case c4 => k_is); (case k4 => k_is)
    (case l5 => k_is); (case c5 => k_is); (case k5 => k_is)
    (case l6 => k_is); (case c6 => k_is); (case k6 => k_is)
    (case l7 => k_is); (case c7 => k_is); (case k7 => k_is)
    (case l8 => k_is); (case c8 => k_is); (case k8 => k_is)
    (case l9 => k_is); (case c9 => k_is); (case k9 => k_is)
    (case l10 => k_is); (case c10 => k_is); (case k10 => k_is)
    (case l11 => k_is); (case c11 => k_is); (case k11 => k_is)
    (case l12 => k_is); (case c12 => k_is); (case k12 => k_is)
    (case l13 => k_is); (case c13 => k_is); (case k13 => k_is)
    (case l14 => k_is); (case c14 => k_is); (case k14 => k_is)
    (case l15 => k_is); (case c15 => k_is); (case k15 => k_is)
    (case l16 => k_is); (case c16 => k_is); (case k16 => k_is)
    (case l17 => k_is); (case c17 => k_is); (case k17 => k_is)
    (case l18 => k_is); (case c18 => k_is); (case k18 => k_is)
    (case l19 => k_is); (case c19 => k_is); (case k19 => k_is)
    (case kp0 => k_is); (case kh0 => k_is); (case ko0 => k_is); (case ks0 => k_is)
    (case fl0 => k_is)
    (case fl1 => k_is)
    (case fl2 => k_is)
    (case xa7 => k_exc)
    (case xb7 => k_is); (case xc7 => k_is); (case xd7 => k_is)
    (case xk7_0 => k_is); (case xk7_1 => k_is); (case xk7_2 => k_is); (case xk7_3 => k_is); (case xk7_4 => k_is); (case xk7_5 => k_is); (case xk7_6 => k_is); (case xk7_7 => k_is)
    (case xk5_0 => k_is); (case xk5_1 => k_is); (case xk5_2 => k_is); (case xk5_3 => k_is); (case xk5_4 => k_is); (case xk5_5 => k_is); (case xk5_6 => k_is); (case xk5_7 => k_is)
    (case xzz5 => k_is)
    (case xx5 => k_is); (case xy5 => k_is)
    (case xl5 => k_is); (case xm5 => k_is); (case xn5 => k_is)
    (case xu5 => k_is); (case xv5 => decide +kernel)
    (case xw5_0 => k_is); (case xw5_1 => k_is); (case xw5_2 => k_is); (case xw5_3 => k_is)
    (case xz5 => k_is); (case xp5_0 => k_is); (case xp5_1 => k_is); (case xs5 => k_is)
    (case xo1_0 => k_is); (case xo1_1 => k_is); (case xo1_2 => k_is)
    (case xo2_0 => k_is); (case xo2_1 => k_is); (case xo2_2 => k_is)
    (case xo3_0 => k_is); (case xo3_1 => k_is); (case xo3_2 => k_is)
    (case xo4_0 => k_is); (case xo4_1 => k_is); (case xo4_2 => k_is)
    (case xo5_0 => k_is); (case xo5_1 => k_is); (case xo5_2 => k_is)
    (case xo6_0 => k_is); (case xo6_1 => k_is); (case xo6_2 => k_is)
    (case xo7_0 => k_is); (case xo7_1 => k_is); (case xo7_2 => k_is)
    (case xo8_0 => k_is); (case xo8_1 => k_is); (case xo8_2 => k_is)
    (case xo9_0 => k_is); (case xo9_1 => k_is); (case xo9_2 => k_is)
    (case xo10_0 => k_is); (case xo10_1 => k_is); (case xo10_2 => k_is)
    (case xo11_0 => k_is); (case xo11_1 => k_is); (case xo11_2 => k_is)
    (case xq0 => kit_is)
    (case xr0 => first | rfl | k_is)
    (case xq1 => kit_is)
    (case xr1 => first | rfl | k_is)
    (case xq2 => kit_is)
    (case xr2 => first | rfl | k_is)
    (case xq3 => kit_is)
    (case xr3 => first | rfl | k_is)
    (case xq4 => kit_is)
    (case xr4 => first | rfl | k_is)
    (case xq5 => kit_is)
    (case xr5 => first | rfl | k_is)
    (case xq6 => kit_is)
    (case xr6 => first | rfl | k_is)
    (case xq7 => kit_is)
    (case xr7 => first | rfl | k_is)
    (case xq8 => kit_is)
    (case xr8 => first | rfl | k_is)
    (case xq9 => kit_is)
    (case xr9 => first | rfl | k_is)
    (case xq10 => kit_is)
    (case xr10 => first | rfl | k_is)
    (case xq11 => kit_is)
    (case xr11 => first | rfl | k_is)
    (case xq12 => kit_is)
    (case xr12 => first | rfl | k_is)
    (case xq13 => kit_is)
    (case xr13 => first | rfl | k_is)
    (case xq14 => kit_is)
    (case xr14 => first | rfl | k_is)
    (case xq15 => kit_is)
    (case xr15 => first | rfl | k_is)
    (case xq16 => kit_is)
    (case xr16 => first | rfl | k_is)
    (case xq17 => kit_is)
    (case xr17 => first | rfl | k_is)
    (case xq18 => kit_is)
    (case xr18 => first | rfl | k_is)
    (case xq19 => kit_is)
    (case xr19 => first | rfl | k_is)
    (case xq20 => kit_is)
    (case xr20 => first | rfl | k_is)
    (case xq21 => kit_is)
    (case xr21 => first | rfl | k_is)
    (case xq22 => kit_is)
    (case xq23 => kit_is)
    (case z0 => k_is)
    (case z1 => k_is)
    (case z2 => k_is)
    (case z3 => k_is)
    (case z4 => k_is)
    (case z5 => k_is)
    (case z6 => k_is)
    (case z7 => k_is)
    (case z8 => k_is)
