import PyProof.Rows.All
import Wide.All
import OpenK.AllK
import Wide.FinOn
import HandS.ForMost
import PyProof.ReprRoads
import KE.SortData
import HandS.Style
import HandS.TupAny
import HandS.Exc
import HandS.ExcInit
import HandS.ExcIs
import KE.KTryMore
import HandS.Lambda
import HandS.Wide
import HandS.WideBits
import HandS.Deep
import HandS.NoneIn
import KE.DataCmp
import HandS.IsInst
import PyProof.ReprLen
import HandS.ExcOwn
import HandS.Zip
import HandS.Iter
import HandS.Small
import KE.KExcInit
import HandS.Sort
import HandS.Comp
import HandS.DictComp
import HandS.Text
import HandS.HeadEnd
import HandS.HeadHook2
import HandS.Head2
import PySem.Challenge.RW_spiderwires_k02_numbers_and_scalars
set_option Elab.async false
set_option linter.all false
set_option autoImplicit false

section
/-! ViA: data trees, the small language (IR), its evaluator. -/
namespace VI
open PySem

/-! ### data -/
inductive D where
  | non
  | bl (b : Bool)
  | int (i : Int)
  | str (s : List Char)
  | tup (xs : List D)
  | lst (m : Bool) (xs : List D)
  /-- a dict; t: its keys are tuples -/
  | dic (m t : Bool) (ks vs : List D)
  | obj (c : String) (ns : List String) (vs : List D)
  /-- a tuple of the module's own -/
  | ktup (xs : List D)
  /-- the script -/
  | scr (xs : List D)
  /-- the text that repr gives of such data -/
  | rep (p : PyData)
  /-- a caught error of the class c, its field f -/
  | exn (c f : String) (a : D)
  /-- (of the proofs alone) something; a known object -/
  | hole
  | raw (o : L2.HO)
  deriving Inhabited

mutual
def D.pure : D → Bool
  | .tup xs => pureL xs
  | .lst m xs => !m && pureL xs
  | .dic m _ _ vs => !m && pureL vs
  | .obj _ _ _ => false
  | .non => true
  | .bl _ => true
  | .int _ => true
  | .str _ => true
  | .rep _ => true
  | .scr xs => pureL xs
  | .ktup xs => pureL xs
  | .exn _ _ a => D.pure a
  | .hole => false
  | .raw _ => false
def pureL : List D → Bool
  | [] => true
  | d :: ds => D.pure d && pureL ds
end
mutual
def D.frz : D → D
  | .tup xs => .tup (frzL xs)
  | .lst _ xs => .lst false (frzL xs)
  | .dic _ t ks vs => .dic false t ks (frzL vs)
  | .obj c ns vs => .obj c ns vs
  | .non => .non
  | .bl b => .bl b
  | .int i => .int i
  | .str s => .str s
  | .rep p => .rep p
  | .scr xs => .scr xs
  | .ktup xs => .ktup xs
  | .exn c f a => .exn c f a
  | .hole => .hole
  | .raw o => .raw o
def frzL : List D → List D
  | [] => []
  | d :: ds => D.frz d :: frzL ds
end
/-- the parts are pure -/
def D.cpure : D → Bool
  | .tup xs => pureL xs
  | .lst _ xs => pureL xs
  | .dic _ _ _ vs => pureL vs
  | .scr xs => pureL xs
  | .ktup xs => pureL xs
  | .obj _ _ _ => false
  | .hole => false
  | .raw _ => false
  | _ => true
/-- no hole -/
def D.seen : D → Bool
  | .hole => false
  | .raw _ => false
  | _ => true

mutual
/-- == of Python on data without dicts and instances -/
def peq : D → D → Bool
  | .non, .non => true
  | .bl a, .bl b => a == b
  | .bl a, .int j => (if a then (1 : Int) else 0) == j
  | .int i, .bl b => i == (if b then (1 : Int) else 0)
  | .int i, .int j => i == j
  | .str x, .str y => decide (x = y)
  | .tup xs, .tup ys => peqL xs ys
  | .tup xs, .ktup ys => peqL xs ys
  | .ktup xs, .tup ys => peqL xs ys
  | .ktup xs, .ktup ys => peqL xs ys
  | .lst _ xs, .lst _ ys => peqL xs ys
  | _, _ => false
def peqL : List D → List D → Bool
  | [], [] => true
  | x :: xs, y :: ys => peq x y && peqL xs ys
  | _, _ => false
end
/-- data of at most n levels, no dict, no instance -/
def lev : Nat → D → Bool
  | _, .non => true
  | _, .bl _ => true
  | _, .int _ => true
  | _, .str _ => true
  | n + 1, .tup xs => xs.all (lev n)
  | n + 1, .ktup xs => xs.all (lev n)
  | n + 1, .lst _ xs => xs.all (lev n)
  | _, _ => false
/-- the same, to be shown; empty dicts, too -/
def levD : Nat → D → Bool
  | _, .non => true
  | _, .bl _ => true
  | _, .int i => decide (i.natAbs.log2 < 1920)
  | _, .str _ => true
  | n + 1, .tup xs => xs.all (levD n)
  | n + 1, .ktup xs => xs.all (levD n)
  | n + 1, .lst _ xs => xs.all (levD n)
  | _ + 1, .dic _ _ ks vs => ks.isEmpty && vs.isEmpty
  | _, _ => false

/-! ### keys of dicts -/
def D.scal : D → Bool
  | .int _ => true
  | .str _ => true
  | _ => false
def D.isTup : D → Bool
  | .tup _ => true
  | _ => false
def D.key : D → Bool
  | .int _ => true
  | .str _ => true
  | .tup xs => xs.all D.scal
  | _ => false
def skeq : D → D → Bool
  | .int i, .int j => decide (i = j)
  | .str x, .str y => decide (x = y)
  | _, _ => false
def skeqL : List D → List D → Bool
  | [], [] => true
  | x :: xs, y :: ys => skeq x y && skeqL xs ys
  | _, _ => false
def keq : D → D → Bool
  | .int i, .int j => decide (i = j)
  | .str x, .str y => decide (x = y)
  | .tup xs, .tup ys => skeqL xs ys
  | _, _ => false
def dfind (k : D) : List D → List D → Option D
  | k' :: ks, v :: vs => if keq k' k then some v else dfind k ks vs
  | _, _ => none
/-- the first entry of the key -/
def dset1 (k x : D) : List D → List D → List D
  | k' :: ks, v :: vs => if keq k' k then x :: vs else v :: dset1 k x ks vs
  | _, vs => vs
def dputV (k x : D) : List D → List D → List D
  | k' :: ks, v :: vs => if keq k' k then x :: vs else v :: dputV k x ks vs
  | _, _ => [x]
def dputK (k : D) : List D → List D
  | k' :: ks => if keq k' k then k' :: ks else k' :: dputK k ks
  | [] => [k]
def ddelK (k : D) : List D → List D
  | k' :: ks => if keq k' k then ks else k' :: ddelK k ks
  | [] => []
def ddelV (k : D) : List D → List D → List D
  | k' :: ks, v :: vs => if keq k' k then vs else v :: ddelV k ks vs
  | _, _ => []
/-- a key for a dict of this kind -/
def kOk (k : D) (t : Bool) : Bool := k.key && (k.isTup == t)

/-! ### fields of instances -/
def ofind (f : String) : List String → List D → Option D
  | n :: ns, v :: vs => if n = f then some v else ofind f ns vs
  | _, _ => none
def oputN (f : String) : List String → List String
  | n :: ns => if n = f then n :: ns else n :: oputN f ns
  | [] => [f]
def oputV (f : String) (x : D) : List String → List D → List D
  | n :: ns, v :: vs => if n = f then x :: vs else v :: oputV f x ns vs
  | _, _ => [x]

/-! ### places -/
inductive Sp1 where
  | ix (n : Nat)
  | ky (k : D)
  | fd (f : String)
  deriving Inhabited
def D.step : D → Sp1 → Option D
  | .tup xs, .ix n => xs[n]?
  | .lst _ xs, .ix n => xs[n]?
  | .scr xs, .ix n => xs[n]?
  | .ktup xs, .ix n => xs[n]?
  | .dic _ _ ks vs, .ky k => dfind k ks vs
  | .obj _ ns vs, .fd f => ofind f ns vs
  | _, _ => none
def D.get : D → List Sp1 → Option D
  | d, [] => some d
  | d, p :: ps => match d.step p with
    | some e => e.get ps
    | none => none
/-- the same tree with x at the place -/
def D.put1 : D → Sp1 → D → D
  | .tup xs, .ix n, x => .tup (xs.set n x)
  | .lst m xs, .ix n, x => .lst m (xs.set n x)
  | .dic m t ks vs, .ky k, x => .dic m t ks (dset1 k x ks vs)
  | .obj c ns vs, .fd f, x => .obj c ns (oputV f x ns vs)
  | d, _, _ => d
def D.put : D → List Sp1 → D → D
  | _, [], x => x
  | d, p :: ps, x => match d.step p with
    | some e => d.put1 p (e.put ps x)
    | none => d

/-! ### results -/
abbrev Fr := List (Option D)
inductive Rv where
  | tmp (d : D)
  | plc (x : Nat) (p : List Sp1)
  deriving Inhabited
inductive Rs (α : Type) where
  | ok (a : α) (fr : Fr) (q : Bool)
  | ex (c : String) (a : D) (fr : Fr)
  | no
  deriving Inhabited
def Rs.bind {α β : Type} (x : Rs α) (f : α → Fr → Rs β) : Rs β :=
  match x with
  | .ok a fr q => match f a fr with
    | .ok b fr' q' => .ok b fr' (q && q')
    | .ex c e fr' => .ex c e fr'
    | .no => .no
  | .ex c e fr => .ex c e fr
  | .no => .no
def Rv.deep : Rv → Bool
  | .plc _ (_ :: _) => true
  | _ => false
/-- .. r stands ahead: behind it nothing may change if r is a place inside -/
def Rs.bindD {α β : Type} (r : Rv) (x : Rs α) (f : α → Fr → Rs β) : Rs β :=
  match x with
  | .ok a fr q => if r.deep && !q then .no else Rs.bind (.ok a fr q) f
  | .ex c e fr => .ex c e fr
  | .no => .no
inductive CR where
  | ok (r : D) (outs : List (Option D))
  | ex (c : String) (a : D) (outs : List (Option D))
  | no
  deriving Inhabited
inductive Fl where
  | nx (fr : Fr)
  | rt (d : D) (fr : Fr)
  | bk (fr : Fr)
  | ct (fr : Fr)
  | ex (c : String) (a : D) (fr : Fr)
  | no
  deriving Inhabited

def slot (fr : Fr) (x : Nat) : Option D := match fr[x]? with
  | some (some d) => some d
  | _ => none
def Rv.val (r : Rv) (fr : Fr) : Option D := match r with
  | .tmp d => some d
  | .plc x p => match slot fr x with
    | some d => d.get p
    | none => none
/-- a place whose value is pure is as good as its value -/
def Rv.norm (r : Rv) (fr : Fr) : Rs Rv := match r with
  | .tmp d => .ok (.tmp d) fr true
  | .plc x p => match (Rv.plc x p).val fr with
    | some d => if d.pure then .ok (.tmp d) fr true else .ok (.plc x p) fr true
    | none => .no
/-- the place x, p is frozen -/
def freeze (x : Nat) (p : List Sp1) (fr : Fr) : Rs D := match slot fr x with
  | some d => match d.get p with
    | some e => if e.frz.pure then .ok e.frz (fr.set x (some (d.put p e.frz))) false else .no
    | none => .no
  | none => .no
/-- as a value of one's own -/
def Rv.own (r : Rv) (fr : Fr) : Rs D := match r with
  | .tmp d => .ok d fr true
  | .plc x p => match (Rv.plc x p).val fr with
    | some d => if d.pure then (if p.isEmpty then .ok d fr true else .no) else freeze x p fr
    | none => .no
/-- to be read: its parts are pure -/
def Rv.view (r : Rv) (fr : Fr) : Rs D := match r with
  | .tmp d => if d.cpure then .ok d fr true else if d.frz.pure then .ok d.frz fr true else .no
  | .plc x p => match (Rv.plc x p).val fr with
    | some d => if d.pure && !p.isEmpty then .no else if d.cpure then .ok d fr true else freeze x p fr
    | none => .no
/-- to be looked at -/
def Rv.look (r : Rv) (fr : Fr) : Rs D := match r with
  | .tmp d => .ok d fr true
  | .plc x p => match (Rv.plc x p).val fr with
    | some d => if d.pure && !p.isEmpty then .no else .ok d fr true
    | none => .no

/-! ### the language -/
inductive O2 | add | sub | mul | fdiv | mod | pow | shl | shr | band | bxor
  deriving DecidableEq, Inhabited
inductive CO | eq | ne | lt | le | gt | ge | is | isnot | isin | notin
  deriving DecidableEq, Inhabited
/-- built-ins called by their names -/
inductive BI | len | tuple | list | sorted | int | str | repr | min | max | sum | all | any | abs | divmod | dict | sortedItems | listItems
  deriving DecidableEq, Inhabited
/-- methods that read -/
inductive MR | get | count | index | join | split | find
  deriving DecidableEq, Inhabited
/-- methods that write -/
inductive MW | append | extend | pop | remove | update | insert | reverse
  deriving DecidableEq, Inhabited

mutual
inductive T where
  | n (i : Nat)
  | t (ts : Ts)
inductive Ts where
  | nil
  | cons (t : T) (ts : Ts)
end
mutual
inductive E where
  | v (i : Nat)
  | mv (i : Nat)
  | g (x : String)
  | non
  | tt (b : Bool)
  | i (n : Int)
  | s (x : String)
  | bin (o : O2) (a b : E)
  | neg (a : E)
  | cmp (o : CO) (a b : E)
  | chain (o o' : CO) (a b c : E)
  | notv (a : E)
  | and (a b : E)
  | or (a b : E)
  | ifx (c : C) (a b : E)
  | tup (es : Es)
  | lst (es : Es)
  | dic (kvs : Kvs)
  | dnew (t : Bool)
  | sub (a b : E)
  | slc (a : E) (lo hi : Eo)
  | rsl (a : E)
  | fld (a : E) (f : String)
  | call (f : String) (es : Es)
  | callk (f : String) (perm : List Nat) (es : Es)
  | new (c : String) (es : Es)
  | meth (c m : String) (a : E) (es : Es)
  | bi (f : BI) (es : Es)
  | isi (a : E) (ts : List String)
  | mr (m : MR) (a : E) (es : Es)
  | mw (m : MW) (a : E) (es : Es)
  | lc (own : List Nat) (tg : T) (it : I) (c : Co) (e : E)
  | dc (own : List Nat) (tg : T) (it : I) (c : Co) (k e : E)
  /-- a in range(es) -/
  | inr (a : E) (es : Es)
  /-- f(lambda: g(es)); the lambda's call within f -/
  | lamc (f g : String) (es : Es)
  | thk (i : Nat)
  /-- not reached -/
  | never
inductive Es where
  | nil
  | cons (e : E) (es : Es)
inductive Kvs where
  | nil
  | cons (k e : E) (r : Kvs)
inductive Eo where
  | none
  | some (e : E)
inductive C where
  | e (e : E)
  | cmp (o : CO) (a b : E)
  | chain (o o' : CO) (a b c : E)
  | not (c : C)
  | and (a b : C)
  | or (a b : C)
inductive Co where
  | none
  | some (c : C)
inductive I where
  | e (e : E)
  | rng (es : Es)
  | enum (e : E)
  | zip (a b : E)
  | items (e : E)
  | values (e : E)
  /-- a dict by its keys; it stands still from then on -/
  | keys (i : Nat)
end
mutual
inductive S where
  | asg (tg : T) (e : E)
  | par (xs : List Nat) (es : Es)
  | aug (i : Nat) (o : O2) (e : E)
  | seti (a i e : E)
  | augi (a i : E) (o : O2) (e : E)
  | setf (a : E) (f : String) (e : E)
  | ex (e : E)
  | ret (e : E)
  | retn
  | iff (c : C) (a b : Ss)
  | for_ (fz : Bool) (tg : T) (it : I) (body : Ss)
  | wh (c : C) (body : Ss)
  | brk
  | cnt
  | pass
  | rais (c : String) (e : E)
  /-- try: body; except cs as i: suite -/
  | tryas (body : Ss) (cs : List String) (i : Nat) (suite : Ss)
  /-- not reached -/
  | never
inductive Ss where
  | nil
  | cons (s : S) (ss : Ss)
end

/-! ### what the operators give -/
def mulOk (i j : Int) : Bool := decide (i.natAbs < 2 ^ 64) || decide (j.natAbs < 2 ^ 64) || decide (i.natAbs.log2 + j.natAbs.log2 < 1000000)
def divOk (j : Int) : Bool := decide (0 < j) && decide (j.natAbs.log2 < 9000)
def powOk (i j : Int) : Bool := decide (0 ≤ j) && decide (j ≤ 1000000) && decide (i.natAbs < 2 ^ 64)
def shlOk (i j : Int) : Bool := decide (0 ≤ j) && decide (j ≤ 100000) && decide ((Builtin.Int.intBits i : Int) + j ≤ 2 ^ 27)
def line : Nat := 16777216
def dBin : O2 → D → D → Option D
  | .add, .int i, .int j => some (.int (i + j))
  | .add, .str x, .str y => if x.length + y.length ≤ line then some (.str (x ++ y)) else none
  | .add, .tup xs, .tup ys => if xs.length + ys.length ≤ line then some (.tup (xs ++ ys)) else none
  | .add, .tup xs, .ktup ys => if !xs.isEmpty && !ys.isEmpty && decide (xs.length + ys.length ≤ line) then some (.tup (xs ++ ys)) else none
  | .add, .ktup xs, .tup ys => if !xs.isEmpty && !ys.isEmpty && decide (xs.length + ys.length ≤ line) then some (.tup (xs ++ ys)) else none
  | .add, .lst _ xs, .lst _ ys => if xs.length + ys.length ≤ line then some (.lst true (xs ++ ys)) else none
  | .sub, .int i, .int j => some (.int (i - j))
  | .mul, .int i, .int j => if mulOk i j then some (.int (i * j)) else none
  | .mul, .lst _ xs, .int k => if decide (0 ≤ k) && decide (k ≤ 1000000) && decide (xs.length * k.toNat ≤ line) then some (.lst true (List.replicate k.toNat xs).flatten) else none
  | .fdiv, .int i, .int j => if divOk j then some (.int (i / j)) else none
  | .mod, .int i, .int j => if decide (0 < j) then some (.int (i % j)) else none
  | .pow, .int i, .int j => if powOk i j then some (.int (i ^ j.toNat)) else none
  | .shl, .int i, .int j => if shlOk i j then some (.int (i * 2 ^ j.toNat)) else none
  | .shr, .int i, .int j => if decide (0 ≤ j) then some (.int (i / 2 ^ j.toNat)) else none
  | .band, .int i, .int j => some (.int (Builtin.bitAnd i j))
  | .bxor, .int i, .int j => some (.int (Builtin.bitXor i j))
  | _, _, _ => none
def D.truth : D → Option Bool
  | .non => some false
  | .bl b => some b
  | .int i => some (decide (i ≠ 0))
  | .str s => if s.length ≤ line then some (!s.isEmpty) else none
  | .tup xs => some (!xs.isEmpty)
  | .lst _ xs => some (!xs.isEmpty)
  | .scr xs => some (!xs.isEmpty)
  | .ktup xs => some (!xs.isEmpty)
  | _ => none
/-- lists of codes in order -/
def ltL : List Nat → List Nat → Bool
  | [], [] => false
  | [], _ :: _ => true
  | _ :: _, [] => false
  | x :: xs, y :: ys => if x = y then ltL xs ys else decide (x < y)
def chs (s : List Char) : List Nat := s.map Char.toNat
def strLt (x y : List Char) : Bool := ltL (chs x) (chs y)
mutual
/-- < of data alike place by place -/
def dlt : D → D → Bool
  | .bl a, .bl b => !a && b
  | .int i, .int j => decide (i < j)
  | .str x, .str y => strLt x y
  | .tup xs, .tup ys => dltL xs ys
  | .lst _ xs, .lst _ ys => dltL xs ys
  | _, _ => false
def dltL : List D → List D → Bool
  | [], [] => false
  | [], _ :: _ => true
  | _ :: _, [] => false
  | x :: xs, y :: ys => if peq x y then dltL xs ys else dlt x y
end
mutual
/-- alike, place by place, of one length -/
def alikeD : D → D → Bool
  | .bl _, .bl _ => true
  | .int _, .int _ => true
  | .str _, .str _ => true
  | .tup xs, .tup ys => alikeL xs ys
  | _, _ => false
def alikeL : List D → List D → Bool
  | [], [] => true
  | x :: xs, y :: ys => alikeD x y && alikeL xs ys
  | _, _ => false
end
/-- a text's codes -/
def sv (s : List Char) : Str := ⟨(s.map Char.toNat).toArray⟩
mutual
/-- the data, the flags forgotten -/
def pd : D → PyData
  | .non => .none
  | .bl b => .bool b
  | .int i => .int i
  | .str s => .str (sv s)
  | .tup xs => .tuple (pdL xs)
  | .ktup xs => .tuple (pdL xs)
  | .lst _ xs => .list (pdL xs)
  | .dic _ _ ks vs => .dict ((pdL ks).zip (pdL vs))
  | _ => .none
def pdL : List D → List PyData
  | [] => []
  | d :: ds => pd d :: pdL ds
end
/-- lists of different lengths -/
def diffL : D → D → Bool
  | .lst _ xs, .lst _ ys => xs.length != ys.length
  | _, _ => false
def dCmp : CO → D → D → Option Bool
  | .eq, .rep a, .rep b => some (decide (a.shown = b.shown))
  | .ne, .rep a, .rep b => some (!decide (a.shown = b.shown))
  | .eq, .rep a, .str b => some (decide (a.shown = sv b))
  | .ne, .rep a, .str b => some (!decide (a.shown = sv b))
  | .eq, x, y => if lev 8 x && lev 8 y then some (peq x y) else if diffL x y then some false else none
  | .ne, x, y => if lev 8 x && lev 8 y then some (!peq x y) else if diffL x y then some true else none
  | .lt, .int i, .int j => some (decide (i < j))
  | .le, .int i, .int j => some (decide (i ≤ j))
  | .gt, .int i, .int j => some (decide (j < i))
  | .ge, .int i, .int j => some (decide (j ≤ i))
  | .lt, .str x, .str y => some (strLt x y)
  | .le, .str x, .str y => some (!strLt y x)
  | .gt, .str x, .str y => some (strLt y x)
  | .is, .non, .non => some true
  | .isnot, .non, .non => some false
  | .is, x, .non => if x.seen then some false else none
  | .isnot, x, .non => if x.seen then some true else none
  | .isin, x, .lst _ ys => if lev 8 x && lev 8 (.lst true ys) then some (ys.any fun y => peq y x) else none
  | .isin, k, .dic _ t ks vs => if kOk k t then some (dfind k ks vs).isSome else none
  | .isin, .str [c], .str y => some (y.contains c)
  | .notin, x, .lst _ ys => if lev 8 x && lev 8 (.lst true ys) then some (!ys.any fun y => peq y x) else none
  | .notin, k, .dic _ t ks vs => if kOk k t then some (!(dfind k ks vs).isSome) else none
  | .notin, .str [c], .str y => some (!y.contains c)
  | .isin, x, .tup ys => if lev 8 x && lev 8 (.tup ys) then some (ys.any fun y => peq y x) else none
  | .isin, x, .ktup ys => if lev 8 x && lev 8 (.ktup ys) then some (ys.any fun y => peq y x) else none
  | .notin, x, .tup ys => if lev 8 x && lev 8 (.tup ys) then some (!ys.any fun y => peq y x) else none
  | .notin, x, .ktup ys => if lev 8 x && lev 8 (.ktup ys) then some (!ys.any fun y => peq y x) else none
  | .lt, .tup xs, .tup ys => if alikeL xs ys && lev 8 (.tup xs) && lev 8 (.tup ys) then some (dltL xs ys) else none
  | .le, .tup xs, .tup ys => if alikeL xs ys && lev 8 (.tup xs) && lev 8 (.tup ys) then some (!dltL ys xs) else none
  | _, _, _ => none
/-- a place in a row of n, from the left or from the right -/
def ixOf (n : Nat) (i : Int) : Option Nat :=
  if 0 ≤ i then (if i < n then some i.toNat else none) else if -(n : Int) ≤ i then some (i + n).toNat else none
/-- a bound of a slice -/
def cutAt (n : Nat) (dflt : Nat) : Option Int → Nat
  | none => dflt
  | some i => if i < 0 then (i + (n : Int)).toNat else min i.toNat n
def cutL {α : Type} (xs : List α) (lo hi : Option Int) : List α :=
  (xs.drop (cutAt xs.length 0 lo)).take (cutAt xs.length xs.length hi - cutAt xs.length 0 lo)
/-- decimal digits of an int -/
def intStr (i : Int) : List Char := (toString i).toList
def sumI : List D → Option Int
  | [] => some 0
  | .int i :: ds => (sumI ds).map (i + ·)
  | _ :: _ => none
def boolsOf : List D → Option (List Bool)
  | [] => some []
  | .bl b :: ds => (boolsOf ds).map (b :: ·)
  | _ :: _ => none
def intsOf : List D → Option (List Int)
  | [] => some []
  | .int b :: ds => (intsOf ds).map (b :: ·)
  | _ :: _ => none
end VI

end

section
/-! ViB: the evaluator of the small language. -/
namespace VI
open PySem

/-- a class of errors: its name, its field ("": it is never raised), itself and what it is derived from -/
structure Ecl where
  nm : String
  fld : String
  anc : List String
structure Cv where
  call : String → List D → CR
  glob : String → Option D
  W : Nat
  prot : List Nat
  exc : List Ecl := []
  /-- what the call of a handed lambda gives -/
  thk : CR := .no
  /-- f(lambda: g(ds)) -/
  callT : String → String → List D → CR := fun _ _ _ => .no
def eclOf (ex : List Ecl) (k : String) : Option Ecl := ex.find? fun e => e.nm == k
/-- is k derived from t? -/
def subE (ex : List Ecl) (k t : String) : Option Bool := match eclOf ex k, eclOf ex t with
  | some e, some _ => some (e.anc.contains t)
  | _, _ => none
def anyE (ex : List Ecl) (k : String) : List String → Option Bool
  | [] => some false
  | t :: ts => match subE ex k t, anyE ex k ts with
    | some a, some b => some (a || b)
    | _, _ => none
/-- the field of the class k, where it is raised -/
def fldE (ex : List Ecl) (k : String) : Option String := match eclOf ex k with
  | some e => if e.fld = "" then none else some e.fld
  | none => none

def noEmpty : D → Bool
  | .tup [] => false
  | _ => true
/-- what sorted takes: data alike, place by place -/
def sortOk (xs : List D) : Bool := xs.all (fun x => xs.all (alikeD x)) && xs.all (lev 8) && xs.all noEmpty
def sortM (xs : List D) : List D := xs.mergeSort fun a b => !dlt b a
mutual
/-- no less than the length of what repr gives -/
def rsz : D → Nat
  | .non => 10
  | .bl _ => 10
  | .int _ => 1925
  | .str s => 10 * s.length + 2
  | .tup xs => rszL xs + 3
  | .ktup xs => rszL xs + 3
  | .lst _ xs => rszL xs + 3
  | .dic _ _ _ _ => 2
  | _ => 0
def rszL : List D → Nat
  | [] => 0
  | d :: ds => rsz d + 4 + rszL ds
end
def maxI : List Int → Int → Int
  | [], m => m
  | x :: xs, m => maxI xs (if m < x then x else m)
def minI : List Int → Int → Int
  | [], m => m
  | x :: xs, m => minI xs (if x < m then x else m)
/-- a dict out of pairs -/
def dictOf : List D → List D → List D → Option (List D × List D)
  | [], ks, vs => some (ks, vs)
  | .tup [k, v] :: ps, ks, vs => if k.scal then dictOf ps (dputK k ks) (dputV k v ks vs) else none
  | _ :: _, _, _ => none
def pairsOf : List D → List D → List D
  | k :: ks, v :: vs => .tup [k, v] :: pairsOf ks vs
  | _, _ => []
def lenD : D → Option Nat
  | .str s => if s.length ≤ line then some s.length else none
  | .tup xs => some xs.length
  | .lst _ xs => some xs.length
  | .scr xs => some xs.length
  | .ktup xs => some xs.length
  | _ => none
def rowOf : D → Option (List D)
  | .tup xs => some xs
  | .lst _ xs => some xs
  | _ => none
/-- built-ins by name, on values whose parts are pure -/
def biV : BI → List D → Option D
  | .tuple, [.tup xs] => some (.tup xs)
  | .tuple, [.lst _ xs] => some (.tup xs)
  | .tuple, [.scr xs] => some (.tup xs)
  | .tuple, [.ktup xs] => some (.ktup xs)
  | .list, [.tup xs] => some (.lst true xs)
  | .list, [.lst _ xs] => some (.lst true xs)
  | .list, [.scr xs] => some (.lst true xs)
  | .list, [.ktup xs] => some (.lst true xs)
  | .int, [.int i] => some (.int i)
  | .int, [.bl b] => some (.int (if b then 1 else 0))
  | .str, [.int i] => if decide (i.natAbs.log2 < 1920) then some (.str (intStr i)) else none
  | .repr, [d] => if levD 8 d && decide (rsz d ≤ line) then some (.rep (pd d)) else none
  | .min, [.int i, .int j] => some (.int (if j < i then j else i))
  | .max, [.int i, .int j] => some (.int (if j > i then j else i))
  | .min, [.lst _ xs] => match intsOf xs with
    | some (i :: is) => some (.int (minI is i))
    | _ => none
  | .max, [.lst _ xs] => match intsOf xs with
    | some (i :: is) => some (.int (maxI is i))
    | _ => none
  | .sum, [.lst _ xs] => (intsOf xs).map fun is => .int is.sum
  | .all, [.lst _ xs] => (boolsOf xs).map fun bs => .bl (bs.all id)
  | .any, [.lst _ xs] => (boolsOf xs).map fun bs => .bl (bs.any id)
  | .abs, [.int i] => some (.int (if i < 0 then -i else i))
  | .divmod, [.int i, .int j] => if decide (0 < j) && decide (j < 1073741824) then some (.tup [.int (i / j), .int (i % j)]) else none
  | .sorted, [.lst _ xs] => if sortOk xs then some (.lst true (sortM xs)) else none
  | .dict, [.lst _ ps] => if pureL ps then (dictOf ps [] []).map fun p => .dic true false p.1 p.2 else none
  | _, _ => none
def joinS (sep : List Char) : List (List Char) → List Char
  | [] => []
  | [x] => x
  | x :: y :: r => x ++ sep ++ joinS sep (y :: r)
def strsOf : List D → Option (List (List Char))
  | [] => some []
  | .str s :: ds => (strsOf ds).map (s :: ·)
  | _ :: _ => none
def placeOf (x : D) : List D → Option Nat
  | [] => none
  | y :: ys => if peq y x then some 0 else (placeOf x ys).map (· + 1)
/-- methods that only read: the receiver, the arguments -/
def mrV : MR → D → List D → Option D
  | .get, .dic _ t ks vs, [k] => if kOk k t then (match dfind k ks vs with
      | some v => if v.pure then some v else none
      | none => some .non) else none
  | .get, .dic _ t ks vs, [k, x] => if kOk k t then (match dfind k ks vs with
      | some v => if v.pure then some v else none
      | none => if x.pure then some x else none) else none
  | .count, .lst _ xs, [x] => if lev 8 x && xs.all (lev 8) then some (.int (xs.countP fun y => peq y x)) else none
  | .index, .lst _ xs, [x] => if lev 8 x && xs.all (lev 8) then (placeOf x xs).map fun n => .int n else none
  | .join, .str s, [.lst _ xs] => (strsOf xs).bind fun l => if (l.map (·.length)).sum + l.length * s.length ≤ line then some (.str (joinS s l)) else none
  | _, _, _ => none
/-- methods that write: the receiver and the arguments; what comes back, the receiver behind it -/
def mwV : MW → D → List D → Option (D × D)
  | .append, .lst true xs, [x] => if xs.length < line then some (.non, .lst true (xs ++ [x])) else none
  | .extend, .lst true xs, [.lst _ ys] => if xs.length + ys.length ≤ line && pureL ys then some (.non, .lst true (xs ++ ys)) else none
  | .pop, .lst true xs, [] => match xs.getLast? with
    | some x => some (x, .lst true xs.dropLast)
    | none => none
  | .pop, .lst true xs, [.int i] => match ixOf xs.length i with
    | some n => match xs[n]? with
      | some x => some (x, .lst true (xs.eraseIdx n))
      | none => none
    | none => none
  | .pop, .dic true t ks vs, [k] => if kOk k t then (match dfind k ks vs with
      | some v => some (v, .dic true t (ddelK k ks) (ddelV k ks vs))
      | none => none) else none
  | .remove, .lst true xs, [x] => if lev 8 x && xs.all (lev 8) then (match placeOf x xs with
      | some n => some (.non, .lst true (xs.eraseIdx n))
      | none => none) else none
  | .reverse, .lst true xs, [] => some (.non, .lst true xs.reverse)
  | _, _, _ => none
/-- the receiver's type -/
def mwT : MW → D → Option String
  | .append, .lst _ _ => some "list"
  | .extend, .lst _ _ => some "list"
  | .pop, .lst _ _ => some "list"
  | .remove, .lst _ _ => some "list"
  | .reverse, .lst _ _ => some "list"
  | _, _ => none
def mrT : MR → D → Option String
  | .get, .dic _ _ _ _ => some "dict"
  | .count, .lst _ _ => some "list"
  | .count, .str _ => some "str"
  | .index, .lst _ _ => some "list"
  | .join, .str _ => some "str"
  | .split, .str _ => some "str"
  | .find, .str _ => some "str"
  | _, _ => none
def mwDo (m : MW) (t : Option String) (r : Rv) (ds : List D) (fr : Fr) : Rs Rv := match r with
  | .plc x p => (match slot fr x with
    | some d => (match d.get p with
      | some e => if t.isSome && decide (mwT m e = t) then (match mwV m e ds with
        | some (res, e') => .ok (.tmp res) (fr.set x (some (d.put p e'))) false
        | none => .no) else .no
      | none => .no)
    | none => .no)
  | .tmp _ => .no
def mrDo (m : MR) (t : Option String) (d : D) (ds : List D) (fr : Fr) : Rs Rv := if t.isSome && decide (mrT m d = t) then (match mrV m d ds with
    | some e => .ok (.tmp e) fr true
    | none => .no) else .no
/-- a value's type, by name -/
def tyD : D → Option String
  | .non => some "NoneType"
  | .bl _ => some "bool"
  | .int _ => some "int"
  | .str _ => some "str"
  | .rep _ => some "str"
  | .tup _ => some "tuple"
  | .ktup _ => some "tuple"
  | .lst _ _ => some "list"
  | .scr _ => some "list"
  | .dic _ false _ _ => some "dict"
  | _ => none
def isTs : List String := ["int", "bool", "tuple", "list", "str"]
def isT (T : String) (d : D) : Option Bool := match tyD d with
  | some t => if isTs.contains T then some (t == T || (t == "bool" && T == "int")) else none
  | none => none
def isAny : List String → D → Option Bool
  | [], _ => some false
  | t :: ts, d => match isT t d, isAny ts d with
    | some a, some b => some (a || b)
    | _, _ => none
def isAnyX (ex : List Ecl) (ts : List String) : D → Option Bool
  | .exn k _ _ => if ts.any isTs.contains || !(fldE ex k).isSome then none else anyE ex k ts
  | d => isAny ts d
def kInr (i : Int) (rs : List Rv) (fr : Fr) : Rs Rv := match rs with
  | [.tmp (.int hi)] => .ok (.tmp (.bl (decide (0 ≤ i ∧ i < hi)))) fr true
  | [.tmp (.int lo), .tmp (.int hi)] => .ok (.tmp (.bl (decide (lo ≤ i ∧ i < hi)))) fr true
  | _ => .no
/-- the values of temporaries -/
def tmpsD : List Rv → Option (List D)
  | [] => some []
  | .tmp d :: rs => (tmpsD rs).map (d :: ·)
  | .plc _ _ :: _ => none
def kLam (c : Cv) (f g : String) : Rs (List Rv) → Rs Rv
  | .ok rs fr true => match tmpsD rs with
    | some ds => if pureL ds then (match c.callT f g ds with
      | .ok r _ => .ok (.tmp r) fr false
      | _ => .no) else .no
    | none => .no
  | _ => .no
def kThk (c : Cv) (fr : Fr) : Rs Rv := match c.thk with
  | .ok d _ => .ok (.tmp d) fr false
  | .ex k a _ => .ex k a fr
  | .no => .no
/-- an item or an entry -/
def subV : D → D → Option Sp1
  | .tup xs, .int i => (ixOf xs.length i).map .ix
  | .lst _ xs, .int i => (ixOf xs.length i).map .ix
  | .scr xs, .int i => (ixOf xs.length i).map .ix
  | .ktup xs, .int i => (ixOf xs.length i).map .ix
  | .dic _ t ks _, k => if kOk k t then some (.ky k) else none
  | _, _ => none
def sliceV (d : D) (lo hi : Option Int) : Option D := match d with
  | .tup xs => some (.tup (cutL xs lo hi))
  | .ktup xs => if cutAt xs.length 0 lo = 0 ∧ cutAt xs.length xs.length hi = xs.length then some (.ktup xs) else some (.tup (cutL xs lo hi))
  | .lst _ xs => some (.lst true (cutL xs lo hi))
  | .scr xs => some (.lst true (cutL xs lo hi))
  | .str s => if s.length ≤ line then some (.str (cutL s lo hi)) else none
  | _ => none
/-! ### targets -/
mutual
def setT (prot : List Nat) : T → D → Fr → Option Fr
  | .n i, d, fr => if i < fr.length && !prot.contains i then some (fr.set i (some d)) else none
  | .t ts, .tup xs, fr => setTs prot ts xs fr
  | .t ts, .ktup xs, fr => setTs prot ts xs fr
  | .t _, _, _ => none
def setTs (prot : List Nat) : Ts → List D → Fr → Option Fr
  | .nil, [], fr => some fr
  | .cons t ts, x :: xs, fr => match setT prot t x fr with
    | some fr' => setTs prot ts xs fr'
    | none => none
  | _, _, _ => none
end
def hideAll (fr : Fr) : List Nat → Fr
  | [] => fr
  | i :: is => (hideAll fr is).set i none
def backAll (old fr : Fr) : List Nat → Fr
  | [] => fr
  | i :: is => (backAll old fr is).set i (slot old i)

/-! ### operands -/
def Rv.ownN (r : Rv) (fr : Fr) : Rs D := r.own fr
/-- all as values of one's own, from the left -/
def owns : List Rv → Fr → Rs (List D)
  | [], fr => .ok [] fr true
  | r :: rs, fr => (r.own fr).bind fun d fr => (owns rs fr).bind fun ds fr => .ok (d :: ds) fr true
def views : List Rv → Fr → Rs (List D)
  | [], fr => .ok [] fr true
  | r :: rs, fr => (r.view fr).bind fun d fr => (views rs fr).bind fun ds fr => .ok (d :: ds) fr true
/-- arguments of a call: places of whole names go by reference -/
def args : List Rv → Fr → Option (List D × List (Option Nat) × Fr)
  | [], fr => some ([], [], fr)
  | .tmp d :: rs, fr => match args rs fr with
    | some (ds, xs, fr') => some (d :: ds, none :: xs, fr')
    | none => none
  | .plc x [] :: rs, fr => match slot fr x with
    | some d => match args rs (fr.set x none) with
      | some (ds, xs, fr') => some (d :: ds, some x :: xs, fr')
      | none => none
    | none => none
  | .plc _ (_ :: _) :: _, _ => none
def backs : List (Option Nat) → List (Option D) → Fr → Fr
  | none :: xs, _ :: os, fr => backs xs os fr
  | some x :: xs, o :: os, fr => backs xs os (fr.set x o)
  | _, _, fr => fr
def doCall (c : Cv) (f : String) (rs : List Rv) (fr : Fr) : Rs Rv :=
  match args rs fr with
  | some (ds, xs, fr') => match c.call f ds with
    | .ok r outs => if outs.length = ds.length then .ok (.tmp r) (backs xs outs fr') (xs.all (·.isNone) && pureL ds) else .no
    | .ex e a outs => if outs.length = ds.length then .ex e a (backs xs outs fr') else .no
    | .no => .no
  | none => .no
def doNew (c : Cv) (k : String) (rs : List Rv) (fr : Fr) : Rs Rv :=
  match args rs fr with
  | some (ds, xs, fr') => match c.call (k ++ ".__init__") (.obj k [] [] :: ds) with
    | .ok .non (some self :: outs) => .ok (.tmp self) (backs xs outs fr') (xs.all (·.isNone) && pureL ds)
    | .ok _ _ => .no
    | .ex e a (_ :: outs) => .ex e a (backs xs outs fr')
    | .ex _ _ [] => .no
    | .no => .no
  | none => .no
/-- the arguments in the parameters' order -/
def pick {α : Type} (p : List Nat) (rs : List α) : List α := p.filterMap fun i => rs[i]?
/-- what is walked: the items; a place that is hidden meanwhile -/
structure Wk where
  items : List D
  back : Option (Nat × D)
/-- a place is hidden while it is walked, a value stands by itself -/
def walk2 (r : Rv) (d : D) (xs : List D) (fr : Fr) : Rs Wk := match r with
  | .tmp _ => .ok ⟨xs, none⟩ fr true
  | .plc x _ => match slot fr x with
    | some e => if d.pure then .ok ⟨xs, none⟩ fr true else .ok ⟨xs, some (x, e)⟩ (fr.set x none) true
    | none => .no
def walked (r : Rv) (f : D → Option (List D)) (fr : Fr) : Rs Wk :=
  (r.view fr).bind fun d fr => match f d with
    | some xs => walk2 r d xs fr
    | none => .no
def Wk.done (w : Wk) (fr : Fr) : Fr := match w.back with
  | some (x, d) => fr.set x (some d)
  | none => fr
def iterV : D → Option (List D)
  | .tup xs => some xs
  | .lst _ xs => some xs
  | .scr xs => some xs
  | .ktup xs => some xs
  | .str s => some (s.map fun c => .str [c])
  | _ => none
/-- a dict is frozen, its keys are walked -/
def keysR (i : Nat) (fr : Fr) : Rs Wk := (freeze i [] fr).bind fun d fr => match d with
  | .dic _ false ks _ => .ok ⟨ks, none⟩ fr true
  | _ => .no
def itemsV : D → Option (List D)
  | .dic _ _ ks vs => some (pairsOf ks vs)
  | _ => none
def valuesV : D → Option (List D)
  | .dic _ _ _ vs => some vs
  | _ => none
def enumL : Nat → List D → List D
  | _, [] => []
  | n, x :: xs => .tup [.int n, x] :: enumL (n + 1) xs
def enumV : D → Option (List D)
  | .lst _ xs => some (enumL 0 xs)
  | .scr xs => some (enumL 0 xs)
  | _ => none
def zipL : List D → List D → List D
  | x :: xs, y :: ys => .tup [x, y] :: zipL xs ys
  | _, _ => []
def zipV : D → D → Option (List D)
  | .lst _ xs, .lst _ ys => if pureL xs && pureL ys then some (zipL xs ys) else none
  | .tup xs, .tup ys => if pureL xs && pureL ys then some (zipL xs ys) else none
  | .tup xs, .lst _ ys => if pureL xs && pureL ys then some (zipL xs ys) else none
  | .lst _ xs, .tup ys => if pureL xs && pureL ys then some (zipL xs ys) else none
  | _, _ => none
def rngL (lo : Int) : Nat → List D
  | 0 => []
  | n + 1 => .int lo :: rngL (lo + 1) n
def rngOk (i : Int) : Bool := decide (-(2 ^ 62) ≤ i) && decide (i < 2 ^ 62)
def rngV : List D → Option (List D)
  | [.int n] => if rngOk n then some (rngL 0 n.toNat) else none
  | [.int a, .int b] => if rngOk a && rngOk b then some (rngL a (b - a).toNat) else none
  | _ => none
/-- one turn after another -/
def lcLoop (turn : D → Fr → Rs (Option D)) : List D → Fr → Rs (List D)
  | [], fr => .ok [] fr true
  | x :: xs, fr => (turn x fr).bind fun o fr => (lcLoop turn xs fr).bind fun ds fr => .ok (match o with
    | some d => d :: ds
    | none => ds) fr true
def dcLoop (turn : D → Fr → Rs (Option (D × D))) : List D → List D → List D → Fr → Rs (List D × List D)
  | [], ks, vs, fr => .ok (ks, vs) fr true
  | x :: xs, ks, vs, fr => (turn x fr).bind fun o fr => match o with
    | some (k, v) => if k.scal && decide (ks.length < line) then dcLoop turn xs (dputK k ks) (dputV k v ks vs) fr else .no
    | none => dcLoop turn xs ks vs fr
def noEx {α : Type} : Rs α → Rs α
  | .ok a fr q => .ok a fr q
  | _ => .no
def truthR (r : Rv) (fr : Fr) : Rs Bool := (r.look fr).bind fun d fr => match d.truth with
  | some b => .ok b fr true
  | none => .no

def sl2 (lo hi : Fr → Rs (Option Int)) (fr : Fr) : Rs (Option Int × Option Int) := (lo fr).bind fun l fr => (hi fr).bind fun h fr => .ok (l, h) fr true
/-- a part of what was looked at -/
def partR (r : Rv) (s : Sp1) (e : D) : Rv := if e.pure then .tmp e else match r with
  | .tmp _ => .tmp e
  | .plc x p => .plc x (p ++ [s])
def strAt (s : List Char) (i : Int) : Option D := if s.length ≤ line then (match ixOf s.length i with
  | some n => s[n]?.map fun c => .str [c]
  | none => none) else none
def subR (r : Rv) (d k : D) (fr : Fr) : Rs Rv := match d, k with
  | .str s, .int i => (match strAt s i with
    | some e => .ok (.tmp e) fr true
    | none => .no)
  | d, k => match subV d k with
    | some s => match d.step s with
      | some e => .ok (partR r s e) fr true
      | none => .no
    | none => .no
def andK (r : Rv) (x : Rs Rv) (fr : Fr) : Rs Rv := match r with
  | .tmp (.bl true) => x
  | .tmp (.bl false) => .ok (.tmp (.bl false)) fr true
  | _ => .no
def orK (r : Rv) (x : Rs Rv) (fr : Fr) : Rs Rv := match r with
  | .tmp (.bl true) => .ok (.tmp (.bl true)) fr true
  | .tmp (.bl false) => x
  | _ => .no
/-- two operands -/
def op2 (a b : Fr → Rs Rv) (fr : Fr) : Rs (Rv × Rv) :=
  (a fr).bind fun r fr => match b fr with
    | .ok r' fr q => if r.deep && !q then .no else .ok (r, r') fr q
    | .ex e x fr => .ex e x fr
    | .no => .no
def opCmp (o : CO) (a b : Fr → Rs Rv) (fr : Fr) : Rs Bool :=
  (op2 a b fr).bind fun r fr => (r.1.look fr).bind fun x fr => (r.2.look fr).bind fun y fr => match dCmp o x y with
    | some b => .ok b fr true
    | none => .no
def opChain (o o' : CO) (a b d : Fr → Rs Rv) (fr : Fr) : Rs Bool :=
  (op2 a b fr).bind fun r fr => (r.1.look fr).bind fun x fr => (r.2.look fr).bind fun y fr => if y.pure then (match dCmp o x y with
    | some true => (d fr).bind fun r3 fr => (r3.look fr).bind fun z fr => (match dCmp o' y z with
      | some k => .ok k fr true
      | none => .no)
    | some false => .ok false fr true
    | none => .no) else .no

mutual
def ev (c : Cv) : E → Fr → Rs Rv
  | .v i, fr => (Rv.plc i []).norm fr
  | .mv i, fr => match slot fr i with
    | some d => if d.pure then .ok (.tmp d) fr true else .ok (.tmp d) (fr.set i none) false
    | none => .no
  | .g x, fr => match c.glob x with
    | some d => .ok (.tmp d) fr true
    | none => .no
  | .non, fr => .ok (.tmp .non) fr true
  | .tt b, fr => .ok (.tmp (.bl b)) fr true
  | .i n, fr => .ok (.tmp (.int n)) fr true
  | .s x, fr => .ok (.tmp (.str x.toList)) fr true
  | .bin o a b, fr => (op2 (ev c a) (ev c b) fr).bind fun r fr => (r.1.view fr).bind fun x fr => (r.2.view fr).bind fun y fr => match dBin o x y with
    | some d => .ok (.tmp d) fr true
    | none => .no
  | .neg a, fr => (ev c a fr).bind fun r fr => match r with
    | .tmp (.int i) => .ok (.tmp (.int (-i))) fr true
    | _ => .no
  | .cmp o a b, fr => (opCmp o (ev c a) (ev c b) fr).bind fun b fr => .ok (.tmp (.bl b)) fr true
  | .chain o o' a b d, fr => (opChain o o' (ev c a) (ev c b) (ev c d) fr).bind fun b fr => .ok (.tmp (.bl b)) fr true
  | .never, _ => .no
  | .inr a es, fr => (ev c a fr).bind fun r fr => match r with
    | .tmp (.int i) => (evs c es fr).bind fun rs fr => kInr i rs fr
    | _ => .no
  | .lamc f g es, fr => kLam c f g (evs c es fr)
  | .thk _, fr => kThk c fr
  | .notv a, fr => (ev c a fr).bind fun r fr => match r with
    | .tmp (.bl b) => .ok (.tmp (.bl (!b))) fr true
    | _ => .no
  | .and a b, fr => (ev c a fr).bind fun r fr => andK r (ev c b fr) fr
  | .or a b, fr => (ev c a fr).bind fun r fr => orK r (ev c b fr) fr
  | .ifx t a b, fr => (evC c t fr).bind fun k fr => if k then ev c a fr else ev c b fr
  | .tup es, fr => (evs c es fr).bind fun rs fr => (owns rs fr).bind fun ds fr => if ds.length ≤ line then .ok (.tmp (.tup ds)) fr true else .no
  | .lst es, fr => (evs c es fr).bind fun rs fr => (owns rs fr).bind fun ds fr => if ds.length ≤ line then .ok (.tmp (.lst true ds)) fr true else .no
  | .dic kvs, fr => (evKv c kvs [] [] fr).bind fun p fr => .ok (.tmp (.dic true false p.1 p.2)) fr true
  | .dnew t, fr => .ok (.tmp (.dic true t [] [])) fr true
  | .sub a b, fr => (op2 (ev c a) (ev c b) fr).bind fun r fr => (r.1.look fr).bind fun d fr => (r.2.look fr).bind fun k fr => subR r.1 d k fr
  | .slc a lo hi, fr => (ev c a fr).bind fun r fr => (sl2 (evO c lo) (evO c hi) fr).bindD r fun lh fr => (r.view fr).bind fun d fr => match sliceV d lh.1 lh.2 with
    | some e => .ok (.tmp e) fr true
    | none => .no
  | .rsl a, fr => (ev c a fr).bind fun r fr => (r.view fr).bind fun d fr => match d with
    | .lst _ xs => .ok (.tmp (.lst true xs.reverse)) fr true
    | .scr xs => .ok (.tmp (.lst true xs.reverse)) fr true
    | .tup xs => .ok (.tmp (.tup xs.reverse)) fr true
    | _ => .no
  | .fld a f, fr => (ev c a fr).bind fun r fr => (r.look fr).bind fun d fr => match d with
    | .obj _ ns vs => match ofind f ns vs with
      | some e => .ok (partR r (.fd f) e) fr true
      | none => .no
    | .exn k g x => if g = f ∧ fldE c.exc k = some g then .ok (.tmp x) fr true else .no
    | _ => .no
  | .call f es, fr => (evs c es fr).bind fun rs fr => doCall c f rs fr
  | .callk f p es, fr => (evs c es fr).bind fun rs fr => if rs.length = p.length ∧ p.isPerm (List.range p.length) = true then doCall c f (pick p rs) fr else .no
  | .new k es, fr => (evs c es fr).bind fun rs fr => doNew c k rs fr
  | .meth k m a es, fr => (ev c a fr).bind fun r fr => match r with
    | .plc x [] => (evs c es fr).bind fun rs fr => (match slot fr x with
      | some (.obj k' _ _) => if k' = k then doCall c (k ++ "." ++ m) (r :: rs) fr else .no
      | _ => .no)
    | _ => .no
  | .bi .len es, fr => (evs c es fr).bind fun rs fr => match rs with
    | [r] => (r.look fr).bind fun d fr => (match lenD d with
      | some n => .ok (.tmp (.int n)) fr true
      | none => .no)
    | _ => .no
  | .bi f es, fr => (evs c es fr).bind fun rs fr => (views rs fr).bind fun ds fr => match biV f ds with
    | some d => .ok (.tmp d) fr true
    | none => .no
  | .isi a ts, fr => (ev c a fr).bind fun r fr => (r.look fr).bind fun d fr => match isAnyX c.exc ts d with
    | some b => .ok (.tmp (.bl b)) fr true
    | none => .no
  | .mr m a es, fr => (ev c a fr).bind fun r fr => (r.look fr).bind fun d0 fr => if (mrT m d0).isSome then ((evs c es fr).bindD r fun rs fr => (r.look fr).bind fun d fr => (views rs fr).bind fun ds fr => mrDo m (mrT m d0) d ds fr) else .no
  | .mw m a es, fr => (ev c a fr).bind fun r fr => (r.look fr).bind fun d0 fr => if (mwT m d0).isSome then ((evs c es fr).bindD r fun rs fr => (owns rs fr).bind fun ds fr => mwDo m (mwT m d0) r ds fr) else .no
  | .lc own tg it t e, fr => (evI c it fr).bind fun w fr => (noEx (lcLoop (fun x fr' => match setT [] tg x (hideAll fr' own) with
      | some fr1 => (evCo c t fr1).bind fun b fr2 => if b then (ev c e fr2).bind fun r fr3 => (r.own fr3).bind fun d fr4 => .ok (some d) (hideAll fr4 own) true else .ok none (hideAll fr2 own) true
      | none => .no) w.items (hideAll fr own))).bind fun ds fr' => if ds.length ≤ line then .ok (.tmp (.lst true ds)) (w.done (backAll fr fr' own)) true else .no
  | .dc own tg it t k e, fr => (evI c it fr).bind fun w fr => (noEx (dcLoop (fun x fr' => match setT [] tg x (hideAll fr' own) with
      | some fr1 => (evCo c t fr1).bind fun b fr2 => if b then (ev c k fr2).bind fun rk fr3 => (rk.own fr3).bind fun dk fr4 => (ev c e fr4).bind fun r fr5 => (r.own fr5).bind fun d fr6 => .ok (some (dk, d)) (hideAll fr6 own) true else .ok none (hideAll fr2 own) true
      | none => .no) w.items [] [] (hideAll fr own))).bind fun p fr' => .ok (.tmp (.dic true false p.1 p.2)) (w.done (backAll fr fr' own)) true
def evs (c : Cv) : Es → Fr → Rs (List Rv)
  | .nil, fr => .ok [] fr true
  | .cons e es, fr => (ev c e fr).bind fun r fr => match evs c es fr with
    | .ok rs fr q => if r.deep && !q then .no else .ok (r :: rs) fr q
    | .ex e x fr => .ex e x fr
    | .no => .no
def evKv (c : Cv) : Kvs → List D → List D → Fr → Rs (List D × List D)
  | .nil, ks, vs, fr => .ok (ks, vs) fr true
  | .cons k e r, ks, vs, fr => (ev c k fr).bind fun rk fr => (rk.own fr).bind fun dk fr => (ev c e fr).bind fun re fr => (re.own fr).bind fun d fr =>
    if dk.scal then evKv c r (dputK dk ks) (dputV dk d ks vs) fr else .no
def evO (c : Cv) : Eo → Fr → Rs (Option Int)
  | .none, fr => .ok none fr true
  | .some e, fr => (ev c e fr).bind fun r fr => match r with
    | .tmp (.int i) => .ok (some i) fr true
    | _ => .no
def evC (c : Cv) : C → Fr → Rs Bool
  | .e e, fr => (ev c e fr).bind fun r fr => truthR r fr
  | .cmp o a b, fr => opCmp o (ev c a) (ev c b) fr
  | .chain o o' a b d, fr => opChain o o' (ev c a) (ev c b) (ev c d) fr
  | .not t, fr => (evC c t fr).bind fun b fr => .ok (!b) fr true
  | .and a b, fr => (evC c a fr).bind fun k fr => if k then evC c b fr else .ok false fr true
  | .or a b, fr => (evC c a fr).bind fun k fr => if k then .ok true fr true else evC c b fr
def evCo (c : Cv) : Co → Fr → Rs Bool
  | .none, fr => .ok true fr true
  | .some t, fr => evC c t fr
def evI (c : Cv) : I → Fr → Rs Wk
  | .e e, fr => (ev c e fr).bind fun r fr => walked r iterV fr
  | .rng es, fr => (evs c es fr).bind fun rs fr => (owns rs fr).bind fun ds fr => match rngV ds with
    | some xs => .ok ⟨xs, none⟩ fr true
    | none => .no
  | .enum e, fr => (ev c e fr).bind fun r fr => walked r enumV fr
  | .zip a b, fr => (op2 (ev c a) (ev c b) fr).bind fun r fr => (r.1.own fr).bind fun x fr => (r.2.own fr).bind fun y fr => match zipV x y with
    | some xs => .ok ⟨xs, none⟩ fr true
    | none => .no
  | .items e, fr => (ev c e fr).bind fun r fr => walked r itemsV fr
  | .values e, fr => (ev c e fr).bind fun r fr => walked r valuesV fr
  | .keys i, fr => keysR i fr
end
end VI

end

section
/-! ViC: statements, defs, the program. -/
namespace VI
open PySem

/-- a result as a step of a statement -/
def Rs.fl {α : Type} (x : Rs α) (f : α → Fr → Fl) : Fl := match x with
  | .ok a fr _ => f a fr
  | .ex c e fr => .ex c e fr
  | .no => .no
def Wk.prot (w : Wk) : List Nat := match w.back with
  | some (x, _) => [x]
  | none => []
/-- the turns of a for -/
def forLoop (turn : D → Fr → Fl) : List D → Fr → Fl
  | [], fr => .nx fr
  | x :: xs, fr => match turn x fr with
    | .nx fr' => forLoop turn xs fr'
    | .ct fr' => forLoop turn xs fr'
    | .bk fr' => .nx fr'
    | .rt d fr' => .rt d fr'
    | .ex c e fr' => .ex c e fr'
    | .no => .no
def Fl.done (w : Wk) : Fl → Fl
  | .nx fr => .nx (w.done fr)
  | .rt d fr => .rt d (w.done fr)
  | .bk fr => .bk (w.done fr)
  | .ct fr => .ct (w.done fr)
  | .ex c e fr => .ex c e (w.done fr)
  | .no => .no
def whLoop (test : Fr → Rs Bool) (turn : Fr → Fl) : Nat → Fr → Fl
  | 0, _ => .no
  | n + 1, fr => match test fr with
    | .ok true fr' _ => (match turn fr' with
      | .nx fr2 => whLoop test turn n fr2
      | .ct fr2 => whLoop test turn n fr2
      | .bk fr2 => .nx fr2
      | .rt d fr2 => .rt d fr2
      | .ex c e fr2 => .ex c e fr2
      | .no => .no)
    | .ok false fr' _ => .nx fr'
    | .ex c e fr' => .ex c e fr'
    | .no => .no
def Fl.then (x : Fl) (f : Fr → Fl) : Fl := match x with
  | .nx fr => f fr
  | .rt d fr => .rt d fr
  | .bk fr => .bk fr
  | .ct fr => .ct fr
  | .ex c e fr => .ex c e fr
  | .no => .no
/-- op= on ints -/
def dAug : O2 → D → D → Option D
  | .add, .int i, .int j => some (.int (i + j))
  | .sub, .int i, .int j => some (.int (i - j))
  | _, _, _ => none
def setAll (prot : List Nat) : List Nat → List D → Fr → Option Fr
  | [], [], fr => some fr
  | i :: is, d :: ds, fr => if i < fr.length && !prot.contains i then setAll prot is ds (fr.set i (some d)) else none
  | _, _, _ => none
/-- the place x, p gets e at k -/
def setItem (x : Nat) (p : List Sp1) (k e : D) (fr : Fr) : Fl := match slot fr x with
  | some d => (match d.get p with
    | some (.lst true xs) => (match k with
      | .int i => (match ixOf xs.length i with
        | some n => .nx (fr.set x (some (d.put p (.lst true (xs.set n e)))))
        | none => .no)
      | _ => .no)
    | some (.dic true t ks vs) => if kOk k t && decide (ks.length < line) then .nx (fr.set x (some (d.put p (.dic true t (dputK k ks) (dputV k e ks vs))))) else .no
    | _ => .no)
  | none => .no
def getItem (x : Nat) (p : List Sp1) (k : D) (fr : Fr) : Option D := match slot fr x with
  | some d => (match d.get p with
    | some e => (match subV e k with
      | some q => e.step q
      | none => none)
    | none => none)
  | none => none
/-- a try with one clause -/
def tryF (ex : List Ecl) (prot : List Nat) (cs : List String) (i : Nat) (x : Fl) (s : Fr → Fl) : Fl := match x with
  | .ex k a fr => (match anyE ex k cs, fldE ex k with
    | some true, some f => if a.pure && decide (i < fr.length) && !prot.contains i then (match s (fr.set i (some (.exn k f a))) with
      | .nx fr => .nx (fr.set i none)
      | _ => .no) else .no
    | some false, _ => .ex k a fr
    | _, _ => .no)
  | .nx fr => .nx fr
  | .rt d fr => .rt d fr
  | .bk fr => .bk fr
  | .ct fr => .ct fr
  | .no => .no
mutual
def ex (c : Cv) : S → Fr → Fl
  | .asg tg e, fr => (ev c e fr).fl fun r fr => (r.own fr).fl fun d fr => match setT c.prot tg d fr with
    | some fr' => .nx fr'
    | none => .no
  | .par xs es, fr => (evs c es fr).fl fun rs fr => (owns rs fr).fl fun ds fr => match setAll c.prot xs ds fr with
    | some fr' => .nx fr'
    | none => .no
  | .aug i o e, fr => if (slot fr i).isSome then ((ev c e fr).fl fun r fr => (r.view fr).fl fun y fr => match slot fr i with
    | some x => if decide (i < fr.length) && !c.prot.contains i then (match dAug o x y with
      | some z => .nx (fr.set i (some z))
      | none => .no) else .no
    | none => .no) else .no
  | .seti a i e, fr => ((ev c e fr).bind fun re fr => (re.own fr).bind fun d fr => (ev c a fr).bind fun r fr => (ev c i fr).bindD r fun rk fr => (rk.own fr).bind fun k fr => .ok (d, r, k) fr true).fl fun o fr => match o.2.1 with
    | .plc x p => setItem x p o.2.2 o.1 fr
    | .tmp _ => .no
  | .augi a i o e, fr => ((op2 (ev c a) (ev c i) fr).bind fun r fr => (r.1.look fr).bind fun d fr => (r.2.look fr).bind fun k fr => match subV d k with
      | some s => (match d.step s with
        | some (.int u) => (ev c e fr).bindD r.1 fun re fr => (re.view fr).bind fun y fr => (match dAug o (.int u) y with
          | some z => .ok (r.1, k, z) fr true
          | none => .no)
        | _ => .no)
      | none => .no).fl fun o fr => match o.1 with
    | .plc x p => setItem x p o.2.1 o.2.2 fr
    | .tmp _ => .no
  | .setf a f e, fr => (ev c e fr).fl fun re fr => (re.own fr).fl fun d fr => (ev c a fr).fl fun r fr => match r with
    | .plc x p => (match slot fr x with
      | some w => (match w.get p with
        | some (.obj k ns vs) => if ns.length < 100 then .nx (fr.set x (some (w.put p (.obj k (oputN f ns) (oputV f d ns vs))))) else .no
        | _ => .no)
      | none => .no)
    | .tmp _ => .no
  | .ex e, fr => (ev c e fr).fl fun _ fr => .nx fr
  | .ret e, fr => (ev c e fr).fl fun r fr => (r.own fr).fl fun d fr => .rt d fr
  | .retn, fr => .rt .non fr
  | .iff t a b, fr => (evC c t fr).fl fun k fr => if k then exs c a fr else exs c b fr
  | .for_ fz tg it body, fr => (evI c it fr).fl fun w fr => (forLoop (fun x fr => match setT (w.prot ++ c.prot) tg x fr with
      | some fr' => exs { c with prot := w.prot ++ c.prot } body fr'
      | none => .no) w.items fr).done w
  | .wh t body, fr => whLoop (evC c t) (exs c body) c.W fr
  | .brk, fr => .bk fr
  | .cnt, fr => .ct fr
  | .pass, fr => .nx fr
  | .never, _ => .no
  | .rais k e, fr => (ev c e fr).fl fun r fr => (r.own fr).fl fun d fr => if (fldE c.exc k).isSome then .ex k d fr else .no
  | .tryas body cs i suite, fr => tryF c.exc c.prot cs i (exs c body fr) fun fr => exs c suite fr
def exs (c : Cv) : Ss → Fr → Fl
  | .nil, fr => .nx fr
  | .cons s ss, fr => (ex c s fr).then fun fr => exs c ss fr
end

structure Fn where
  ps : Nat
  n : Nat
  /-- parameters that are never stored to -/
  prot : List Nat
  body : Ss
def outs (f : Fn) (fr : Fr) : List (Option D) := (List.range f.ps).map fun i => if f.prot.contains i then slot fr i else none
def start (f : Fn) (ds : List D) : Fr := ds.map some ++ List.replicate (f.n - ds.length) none
def runF (c : Cv) (f : Fn) (ds : List D) : CR :=
  if ds.length = f.ps then (match exs { c with prot := f.prot } f.body (start f ds) with
    | .nx fr => .ok .non (outs f fr)
    | .rt d fr => .ok d (outs f fr)
    | .ex k a fr => .ex k a (outs f fr)
    | _ => .no) else .no
/-- a def that is handed a lambda: tr is what its call gives -/
def runT (c : Cv) (f : Fn) (tr : CR) : CR := runF { c with thk := tr } f [.hole]
structure Pg where
  defs : List (String × Fn)
  glob : String → Option D
  exc : List Ecl := []
/-- g(lambda: h(ds)); cl: calls two levels below -/
def callTX (p : Pg) (W : Nat) (cl : String → List D → CR) (g h : String) (ds : List D) : CR := match p.defs.lookup g with
  | some fg => runT { call := fun _ _ => .no, glob := p.glob, W := W, prot := [], exc := p.exc } fg (cl h ds)
  | none => .no
/-- a def is called; c: calls below it -/
def callX (p : Pg) (W : Nat) (c cl : String → List D → CR) (f : String) (ds : List D) : CR := match p.defs.lookup f with
  | some fn => runF { call := c, glob := p.glob, W := W, prot := [], exc := p.exc, callT := callTX p W cl } fn ds
  | none => .no
def callS (p : Pg) (W : Nat) : Nat → (String → List D → CR) × (String → List D → CR)
  | 0 => (fun _ _ => .no, fun _ _ => .no)
  | n + 1 => (callX p W (callS p W n).1 (callS p W n).2, (callS p W n).1)
def callN (p : Pg) (W n : Nat) : String → List D → CR := (callS p W n).1
def callL (p : Pg) (W n : Nat) : String → List D → CR := (callS p W n).2
def callTN (p : Pg) (W n : Nat) : String → String → List D → CR := callTX p W (callL p W n)
end VI

end

section
/-! ViQ0: rules at the library's level that the kit does not have: t[::-1] of a tuple. -/
namespace VI
open PySem L2 PyProof.Rows

section
variable {prog : Program} {w : World} {A : Around} {E : Value → Shared → Prop} {s : Shared}
theorem adjust_rev (n : Nat) : Builtin.Slice.sliceAdjust none none (-1) (n : Int) = ((n : Int) - 1, -1) := by
  have h1 : ((-1 : Int) < 0) := by omega
  unfold Builtin.Slice.sliceAdjust
  simp only [h1, if_true]
theorem places_rev (n : Nat) : Builtin.Slice.slicePlaces ((n : Int) - 1) (-1) (-1) = n := by
  unfold Builtin.Slice.slicePlaces
  rw [if_neg (by omega)]
  by_cases h : (n : Int) - 1 > -1
  · rw [if_pos h]
    simp
  · rw [if_neg h]
    omega
theorem sliceApplied_rev {sl : Addr} {n : Nat} {vl vu vs : Value} {Q : Int × Int × Nat → Shared → Prop} (hs : s.heap.IsSliceOf sl vl vu vs) (pl : IsPart vl none) (pu : IsPart vu none) (ps : IsPart vs (some (-1)))
    (h : Q ((n : Int) - 1, -1, n) s) : wpAny (model prog w) A (Builtin.Slice.sliceApplied (.ref sl) (pure (n : Int))) Q E s := by
  obtain ⟨os, hos, hcs, hds⟩ := id hs
  unfold Builtin.Slice.sliceApplied Builtin.Slice.sliceFields
  refine wpAny_bind (wpAny_bind (wpAny_field hos hds (x := vl) rfl (wpAny_bind (wpAny_field hos hds (x := vu) rfl (wpAny_bind (wpAny_field hos hds (x := vs) rfl (wpAny_pure ?_)))))))
  refine wpAny_bind (HT.slicePart_ ps ?_)
  show wpAny _ _ (if ((-1 : Int) == 0) = true then _ else _) _ _ s
  rw [if_neg (by decide)]
  refine wpAny_bind (HT.slicePart_ pl (wpAny_bind (HT.slicePart_ pu (wpAny_bind (wpAny_pure ?_)))))
  show wpAny _ _ (match Builtin.Slice.sliceAdjust none none (-1) (n : Int) with | (lo, hi) => pure (lo, (-1 : Int), Builtin.Slice.slicePlaces lo hi (-1))) _ _ s
  rw [adjust_rev]
  show wpAny _ _ (pure (((n : Int) - 1), (-1 : Int), Builtin.Slice.slicePlaces ((n : Int) - 1) (-1) (-1))) _ _ s
  rw [places_rev]
  exact wpAny_pure h
theorem filterMap_ext {α β : Type} {f g : α → Option β} : ∀ {l : List α}, (∀ m ∈ l, f m = g m) → l.filterMap f = l.filterMap g
  | [], _ => rfl
  | x :: l, h => by
    rw [List.filterMap_cons, List.filterMap_cons, h x (List.mem_cons_self ..), filterMap_ext fun m hm => h m (List.mem_cons_of_mem _ hm)]
theorem pick_rev (xs : Array Value) : ((List.range xs.size).filterMap fun (m : Nat) => xs[((xs.size : Int) - 1 + (m : Int) * -1).toNat]?).toArray = xs.toList.reverse.toArray := by
  congr 1
  apply List.ext_getElem?
  have e : (List.range xs.size).filterMap (fun (m : Nat) => xs[((xs.size : Int) - 1 + (m : Int) * -1).toNat]?) = (List.range xs.size).map (fun m => xs[xs.size - 1 - m]?.getD default) := by
    rw [← List.filterMap_eq_map]
    refine filterMap_ext fun m hm => ?_
    have hm := List.mem_range.mp hm
    have e1 : ((xs.size : Int) - 1 + (m : Int) * -1).toNat = xs.size - 1 - m := by omega
    have hx : xs[xs.size - 1 - m]? = some xs[xs.size - 1 - m] := Array.getElem?_eq_getElem (by omega)
    show _ = some (xs[xs.size - 1 - m]?.getD default)
    rw [e1, hx]; rfl
  intro i
  rw [e, List.getElem?_map]
  by_cases hi : i < xs.size
  · rw [List.getElem?_range hi, List.getElem?_reverse (by simpa using hi)]
    simp only [Option.map_some, Array.length_toList, Array.getElem?_toList]
    rw [Array.getElem?_eq_getElem (by omega)]
    rfl
  · rw [List.getElem?_eq_none (by simpa using hi), List.getElem?_eq_none (by simpa using hi)]
    rfl
theorem getItem_tuple_rev {t sl : Addr} {items : Array Value} {vl vu vs : Value} {Q : Value → Shared → Prop} (ht : IsTup s.heap t items) (hs : s.heap.IsSliceOf sl vl vu vs) (pl : IsPart vl none) (pu : IsPart vu none) (ps : IsPart vs (some (-1)))
    (h : Q (.ref s.heap.objs.size) { s with heap := s.heap.push { cls := .type "tuple", data := .seq items.toList.reverse.toArray } })
    (hsz : items.size ≤ sizeLine) : wpAny (model prog w) A (PySem.getItem (.ref t) (.ref sl)) Q E s := by
  have htake : sizeOk (.seq items.toList.reverse.toArray) := by
    show (items.toList.reverse).toArray.size ≤ sizeLine
    simpa using hsz
  obtain ⟨os, hos, hcs, hds⟩ := id hs
  have hTs : s.TypeIs (.ref sl) "slice" := ⟨os, hos, hcs⟩
  unfold PySem.getItem
  try with_reducible refine wpAny_holding ?_
  first | refine wpAny_bind (wpAny_pure ?_) | skip
  refine wpAny_bind (wpAny_sequenceKey ht.typeIs (by decide) ?_)
  refine wpAny_bind (wpAny_callSpecial?_slot (name := Str.ofString "__getitem__") ht.typeIs PyProof.Rows.slot_tuple_getitem
    (wpAny_call_entry PyProof.Rows.slot_tuple_getitem ht.typeIs entry_tuple_getitem ?_ (args_tuple_getitem _ _)))
  show wpAny _ _ (Builtin.Tuple.tupleItemsOf (.ref t) >>= _) _ _ s
  refine wpAny_bind (PyProof.Rows.tupleItemsOf_ ht ?_)
  refine wpAny_bind (wpAny_typeOf hTs ?_)
  rw [if_pos (by decide)]
  refine wpAny_bind (sliceApplied_rev hs pl pu ps ?_)
  have hno : ¬ ((((items.size : Int) - 1) == 0 && (-1 : Int) == 1 && items.size == items.size) = true) := by
    intro q
    rw [Bool.and_eq_true, Bool.and_eq_true] at q
    have q1 : ((-1 : Int)) = 1 := eq_of_beq q.1.2
    omega
  show wpAny _ _ (if (((items.size : Int) - 1) == 0 && (-1 : Int) == 1 && items.size == items.size) = true then _ else _) _ _ s
  rw [if_neg hno, pick_rev]
  first
    | exact wpAny_bind (m := Builtin.Tuple.tupleExact _) (wpAny_newObj_type (wpAny_pure ⟨_, rfl, wpAny_pure h⟩) htake)
    | exact wpAny_bind (m := Builtin.Tuple.tupleExact _) (wpAny_newObj_type (wpAny_bind (wpAny_pure (wpAny_pure ⟨_, rfl, wpAny_pure h⟩))) htake)
    | exact wpAny_bind (wpAny_bind (m := Builtin.Tuple.tupleExact _) (wpAny_newObj_type (wpAny_pure (wpAny_pure ⟨_, rfl, wpAny_pure h⟩)) htake))
    | exact wpAny_bind (wpAny_bind (m := Builtin.Tuple.tupleExact _) (wpAny_newObj_type (wpAny_pure ⟨_, rfl, wpAny_pure h⟩) htake))
end
/-- xs[::-1] of a list or a tuple -/
def tRevA (K : PySem.W.Frag) (te : TE) : TE := fun σ H Q => te σ H fun x H1 => ∃ a xs, x = .ref a ∧ ((SqL K H1 a xs ∧ ∀ p, H1 p = none → Q (.ref p) (upd H1 p (.lst xs.reverse))) ∨ (SqT K H1 a xs ∧ ∀ p, H1 p = none → Q (.ref p) (upd H1 p (.tup xs.reverse))))
theorem pe_revA {X : Cx} {e : Expr} {te : TE} {k : Nat} {p1 p2 p3 pos : Pos} (he : PE X e te) : PE X (.Subscript e (.Slice none none (some (.UnaryOp .USub (.Constant (.int 1) k p1) p2)) p3) pos) (tRevA X.K te) := by
  refine ⟨fun pins s σ H Q I h => ?_⟩
  refine Subscript_ (thn (he.run pins s σ H _ I h) fun v s1 ⟨x, H1, I1, r1, q1⟩ => ?_)
  obtain ⟨a, xs, ex, q⟩ := q1
  subst ex
  cases r1
  have hst : PO X (some (.UnaryOp .USub (.Constant (.int 1) k p1) p2)) (tPart (tUn (rU fun i => .int (-i)) (tC (.int 1)))) := po_some (pe_un un_neg pe_int)
  refine wpAny_Slice (thn (po_none.run pins s1 σ H1 (fun o H2 => o = none ∧ H2 = H1) I1 ⟨rfl, rfl⟩) fun vl s2 ⟨l, H2, I2, pl, el, e2⟩ => ?_)
  subst el e2
  refine thn (po_none.run pins s2 σ H2 (fun o H3 => o = none ∧ H3 = H2) I2 ⟨rfl, rfl⟩) fun vu s3 ⟨u, H3, I3, pu, eu, e3⟩ => ?_
  subst eu e3
  refine thn (hst.run pins s3 σ H3 (fun o H4 => o = some (-1) ∧ H4 = H3) I3 ⟨1, rfl, -1, rfl, rfl, rfl⟩) fun vs s4 ⟨o, H4, I4, ps, eo, e4⟩ => ?_
  subst eo e4
  have I5 : Inv X pins σ H4 { s4 with heap := s4.heap.push { cls := .type "slice", data := .fields #[vl, vu, vs] } } := I4.kept (t' := s4.toks) fun b ob q => Heap.get?_push_of_some _ q
  show wpAny (model X.prog X.w) X.A (subscriptTail e (.Slice none none (some (.UnaryOp .USub (.Constant (.int 1) k p1) p2)) p3) (.ref a) (.ref s4.heap.objs.size)) (EP X pins σ Q) X.xe { s4 with heap := s4.heap.push { cls := .type "slice", data := .fields #[vl, vu, vs] } }
  rcases q with ⟨hx, q⟩ | ⟨hx, q⟩
  · obtain ⟨its, r, ht, hz⟩ := I5.list hx
    have hlen := r.length
    refine tail_any (ops := [.ref a, .ref s4.heap.objs.size]) ht.isList.typeIs (PySem.slot_list_getitem.lookup) ?_ (by with_unfolding_all rfl)
    refine wpAny_getItem_list_slice ht.isList (Heap.IsSliceOf.new _ vl vu vs) pl pu ps (by decide) ?_ (by rw [List.size_toArray]; omega)
    rw [PySem.W.krv_pick]
    refine ⟨.ref _, _, I5.laid (t' := s4.toks) (o := .lst xs.reverse) (fun b ob q => Heap.get?_push_of_some _ q) (Nat.le_refl _) ?_, rfl, q _ (I5.hok.fresh (Nat.le_refl _))⟩
    exact ⟨by rw [List.length_reverse]; exact hz, _, 0, r.reverse, Heap.get?_push_size _ rfl⟩
  · obtain ⟨its, r, ht, hz⟩ := I5.tuple hx
    have hlen := r.length
    refine tail_any (ops := [.ref a, .ref s4.heap.objs.size]) ht.typeIs (PyProof.Rows.slot_tuple_getitem.lookup) ?_ (by with_unfolding_all rfl)
    refine getItem_tuple_rev ht (Heap.IsSliceOf.new _ vl vu vs) pl pu ps ?_ (by rw [List.size_toArray]; omega)
    refine ⟨.ref _, _, I5.laid (t' := s4.toks) (o := .tup xs.reverse) (fun b ob q => Heap.get?_push_of_some _ q) (Nat.le_refl _) ?_, rfl, q _ (I5.hok.fresh (Nat.le_refl _))⟩
    exact ⟨by rw [List.length_reverse]; exact hz, _, r.reverse, IsTup.new _ _⟩
end VI

end

section
/-! ViQ1: a caught error that outlives its suite. -/
namespace VI
open PySem L2 PyProof.Rows

/-- at a: an error of the class at C, its dict at d -/
def exnO (a C d : Addr) : HO := .ext fun h => ∃ (oe : Obj) (vs : Array Value), h.get? a = some oe ∧ oe.cls = .ref C ∧ oe.dict = some d ∧ oe.data = .fields vs
theorem exnO_frz {a C d : Addr} (u : Obj) (w : HO) : exnO a C d ≠ HO.frz u w := fun z => by
  have y : HO.ext _ = HO.frz u w := z
  cases y
theorem exnO_tup {a C d : Addr} {vs : List V} : exnO a C d ≠ HO.tup vs := fun z => by
  have y : HO.ext _ = HO.tup vs := z
  cases y
theorem xd_frz {fs : List (Str × V)} (u : Obj) (w : HO) : HO.xd fs ≠ HO.frz u w := fun z => by cases z
theorem exnO_ok {P : Program} {w : World} {H : Hp} {h : Heap} {a C d : Addr} (x : ∃ (oe : Obj) (vs : Array Value), h.get? a = some oe ∧ oe.cls = .ref C ∧ oe.dict = some d ∧ oe.data = .fields vs) : ObjOk P w H h a (exnO a C d) := by
  obtain ⟨oe, vs, h1, h2⟩ := x
  exact ⟨⟨oe, vs, h1, h2⟩, ⟨oe, h1⟩, fun g1 g2 ⟨o, v, z1, z2⟩ k => ⟨o, v, k _ z1, z2⟩⟩
theorem exnO_at {P : Program} {w : World} {H H' : Hp} {h : Heap} {a C d : Addr} (x : ObjOk P w H' h a (exnO a C d)) : ∃ (oe : Obj) (vs : Array Value), h.get? a = some oe ∧ oe.cls = .ref C ∧ oe.dict = some d ∧ oe.data = .fields vs := by
  have y : ObjOk P w H' h a (.ext fun h => ∃ (oe : Obj) (vs : Array Value), h.get? a = some oe ∧ oe.cls = .ref C ∧ oe.dict = some d ∧ oe.data = .fields vs) := x
  exact y.1
section
variable {X : Cx} {pins : List (Addr × Obj)} {σ : L2.St} {H : Hp}
/-- the object at a, which was not there, is known from now on -/
theorem adopt {sI s : Shared} {a C d : Addr} (J : Inv X pins σ H sI) (na : sI.heap.get? a = none) (I : Inv X pins σ H s) (ob : ∃ (oe : Obj) (vs : Array Value), s.heap.get? a = some oe ∧ oe.cls = .ref C ∧ oe.dict = some d ∧ oe.data = .fields vs) (hn : H a = none) : Inv X pins σ (upd H a (exnO a C d)) s := by
  have ne : ∀ {b : Addr} {o : Obj}, sI.heap.get? b = some o → b ≠ a := fun {b o} e z => by rw [z, na] at e; cases e
  have nH : ∀ {b : Addr} {o : HO}, H b = some o → b ≠ a := fun {b o} e z => by rw [z, hn] at e; cases e
  refine ⟨I.ok, I.os, I.bare, ⟨I.base.keep, I.base.slot, fun b o e n hx => ?_, I.base.there, fun b xs e => ?_, fun b o v e => ?_, fun b ps e => ?_⟩, I.loc, I.cell, ?_, fun y c e => ?_, fun p hp => ?_, fun b o e => ?_, I.len⟩
  · obtain ⟨o', e'⟩ := J.base.there b o e hx
    rw [upd_ne (ne e')]
    exact I.base.free b o e n hx
  · have := I.base.tups b xs e
    rw [upd_ne (nH this)]; exact this
  · have := I.base.frzs b o v e
    rw [upd_ne (nH this)]; exact this
  · obtain ⟨more, this⟩ := I.base.tbls b ps e
    exact ⟨more, by rw [upd_ne (nH this)]; exact this⟩
  · obtain ⟨m, hm, _⟩ := J.loc
    obtain ⟨o, es, ep, e, _⟩ := hm
    rw [upd_ne (ne e)]; exact I.free
  · obtain ⟨v, o, e', _⟩ := J.cell y c e
    rw [upd_ne (ne e')]; exact I.freeC y c e
  · obtain ⟨h1, h2, h3⟩ := I.pin p hp
    obtain ⟨g1, _⟩ := J.pin p hp
    exact ⟨h1, by rw [upd_ne (ne g1)]; exact h2, h3⟩
  · by_cases hb : b = a
    · subst hb
      rw [upd_same] at e
      cases e
      exact exnO_ok ob
    · rw [upd_ne hb] at e
      refine (I.hok b o e).stay (fun c v _ q => q) (fun c q => ?_) fun c xs q => ?_
      · rw [upd_ne (nH q)]; exact q
      · rw [upd_ne (nH q)]; exact q
/-- an object that is tracked already -/
theorem suite_inv {s : Shared} {a : Addr} {pn : List (Addr × Obj)} (I : Inv X pins σ H s) (hp : ∀ p ∈ pn, p ∈ X.pn ++ pins) : Inv (X.suite a pn) [] σ H s :=
  ⟨I.ok.suite _ _, I.os, I.bare, I.base, I.loc, I.cell, I.free, I.freeC, fun p hq => I.pin p (hp p (by rw [List.append_nil] at hq; exact hq)), I.hok, I.len⟩
theorem unsuite_inv {s : Shared} {a : Addr} {pn' : List (Addr × Obj)} (I : Inv (X.suite a (X.pn ++ pins)) pn' σ H s) (ok : X.Ok) : Inv X pins σ H s :=
  ⟨ok, I.os, I.bare, I.base, I.loc, I.cell, I.free, I.freeC, fun p hp => I.pin p (List.mem_append_left _ hp), I.hok, I.len⟩
end
theorem flying_more {B h h' : Heap} {l : List Env} {e : Addr} {Z : Obj → Prop} (x : HandSPX.FlyingZ B l e Z h) (k : ∀ b o, h.get? b = some o → h'.get? b = some o) : HandSPX.FlyingZ B l e Z h' := by
  obtain ⟨f1, f2, f3, oe, vs, T, oT, ts, he, hz, hd, h1, hn, hne, hT, r⟩ := x
  exact ⟨fun b o q => k b o (f1 b o q), f2, f3.of_keeps fun b o q _ => ⟨o, k b o q, rfl⟩, oe, vs, T, oT, ts, k _ _ he, hz, hd, h1, hn, hne, k _ _ hT, r⟩
/-- the classes of an except clause -/
structure ClsE (X : Cx) (te : Expr) (cs : List Value) : Prop where
  run : ∀ {a : Addr} {pn : List (Addr × Obj)} {σ : L2.St} {H : Hp} {s : Shared} {cls : Value} {b : Bool} {Q : Bool → Shared → Prop} {E : Value → Shared → Prop}, Inv (X.suite a pn) [] σ H s → PySem.W.Looks (model X.prog X.w) s.heap (typeOf (.ref a)) cls → PySem.W.exmAny X.K cls cs = some b →
    (∀ h', (∀ q o, s.heap.get? q = some o → h'.get? q = some o) → Q b { s with heap := h' }) → wpAny (model X.prog X.w) (X.A.mark (some (.ref a))) (eval te X.env) (fun c s₁ => wpAny (model X.prog X.w) (X.A.mark (some (.ref a))) (excMatches (.ref a) c) Q E s₁) E s
section
variable {X : Cx}
theorem clsE_name {x : Str} {c : Value} {p : Pos} (hc : Names X x c) : ClsE X (.Name x p) [c] := ⟨fun {a pn σ H s cls b Q E} I LT e q => by
  obtain ⟨b1, d1, e1, e2, eb⟩ := PySem.W.exmAny_cons e
  cases (show d1 = false by cases e2; rfl)
  rw [Bool.or_false] at eb
  subst eb
  have LM := PySem.W.exm_one (M := model X.prog X.w) I.kIn LT e1
  have fin := LM.here (Q := Q) (E := E) (A := X.A.mark (some (.ref a))) (q s.heap fun _ _ z => z)
  obtain ⟨hg, hdb, hm | ⟨hm, hv, hnn⟩⟩ := hc
  · exact ld_glob (X := X.suite a pn) I hg hm fin hdb
  · exact ld_blt (X := X.suite a pn) I hg hm hv fin hnn hdb⟩
theorem name_at {a : Addr} {pn : List (Addr × Obj)} {σ : L2.St} {H : Hp} {s : Shared} {x : Str} {c : Value} {p : Pos} {Q : Value → Shared → Prop} {E : Value → Shared → Prop} (hc : Names X x c) (I : Inv (X.suite a pn) [] σ H s) (q : Q c s) : wpAny (model X.prog X.w) (X.A.mark (some (.ref a))) (eval (.Name x p) X.env) Q E s := by
  obtain ⟨hg, hdb, hm | ⟨hm, hv, hnn⟩⟩ := hc
  · exact ld_glob (X := X.suite a pn) I hg hm q hdb
  · exact ld_blt (X := X.suite a pn) I hg hm hv q hnn hdb
theorem clsE_tup2 {x1 x2 : Str} {c1 c2 : Value} {p1 p2 tp : Pos} {kk : Nat} (n1 : Names X x1 c1) (n2 : Names X x2 c2) : ClsE X (.Tuple [.Name x1 p1, .Name x2 p2] kk tp) [c1, c2] := ⟨fun {a pn σ H s cls b Q E} I LT e q => by
  refine wpAny_Tuple ?_
  refine wpAny_items_cons (name_at n1 I ?_)
  refine wpAny_items_cons (name_at n2 I ?_)
  refine wpAny_items_nil ⟨by size_fits, ?_⟩
  have kp : ∀ q o, s.heap.get? q = some o → (s.heap.push { cls := .type "tuple", data := .seq [c1, c2].toArray }).get? q = some o := fun _ _ z => Heap.get?_push_of_some _ z
  exact (PySem.W.exm_tup2 (I.kIn.keeps kp) (LT.keeps kp) (Heap.get?_push_size s.heap rfl) e).here (q _ kp)⟩
theorem clsE_tup3 {x1 x2 x3 : Str} {c1 c2 c3 : Value} {p1 p2 p3 tp : Pos} {kk : Nat} (n1 : Names X x1 c1) (n2 : Names X x2 c2) (n3 : Names X x3 c3) : ClsE X (.Tuple [.Name x1 p1, .Name x2 p2, .Name x3 p3] kk tp) [c1, c2, c3] := ⟨fun {a pn σ H s cls b Q E} I LT e q => by
  refine wpAny_Tuple ?_
  refine wpAny_items_cons (name_at n1 I ?_)
  refine wpAny_items_cons (name_at n2 I ?_)
  refine wpAny_items_cons (name_at n3 I ?_)
  refine wpAny_items_nil ⟨by size_fits, ?_⟩
  have kp : ∀ q o, s.heap.get? q = some o → (s.heap.push { cls := .type "tuple", data := .seq [c1, c2, c3].toArray }).get? q = some o := fun _ _ z => Heap.get?_push_of_some _ z
  exact (PySem.W.exm_tup3 (I.kIn.keeps kp) (LT.keeps kp) (Heap.get?_push_size s.heap rfl) e).here (q _ kp)⟩
end
/-- what the clause wishes: the error, known from now on, is in slot i while its suite runs -/
def wKeep (K : PySem.W.Frag) (cs : List Value) (i : Nat) (ts : Addr → TS) (Wout : WX) (D : Ends) : WX := fun cls d σ H =>
  ∃ b, PySem.W.exmAny K cls cs = some b ∧ (b = true → ∃ C dd, cls = .ref C ∧ d = some dd ∧ ∀ a, H a = none → ts a { nx := fun σ' H' => D.nx (σ'.set i none) H', rt := D.rt, bk := fun σ' H' => D.bk (σ'.set i none) H', ct := fun σ' H' => D.ct (σ'.set i none) H' } (σ.set i (some (.ref a))) (upd H a (exnO a C dd))) ∧
    (b = false → Wout cls d σ H)
section
variable {X : Cx} {n : Str} {te : Expr} {cs : List Value} {i : Nat} {body suite : List Stmt} {b₀ : Stmt} {pos pos' : Pos} {tb : WX → TS} {ts : Addr → TS} {Wout : WX}
theorem ps_try_keep (hs : X.stack = X.env :: X.outer) (hf : X.env.frame = some X.env.locals) (hN : X.N.Nodup) (hi : X.N[i]? = some n) (hln : X.env.kindOf n = some .local) (hc : ClsE X te cs) (tk : Takes X Wout)
    (hb : ∀ (W : WX) (pn : List (Addr × Obj)) (xe : Value → Shared → Prop), Takes (X.tr pn xe) W → PassesOwn (model X.prog X.w) X.A X.env xe → PSs (X.tr pn xe) body (tb W))
    (hsu : ∀ (a : Addr) (pn : List (Addr × Obj)), PSs (X.suite a pn) (b₀ :: suite) (ts a)) :
    PS X (.Try body [.ExceptHandler (some te) (some n) (b₀ :: suite) pos'] [] [] pos) (fun D σ H => tb (wKeep X.K cs i ts Wout D) D σ H) := by
  refine ⟨fun pins s σ H D I h => ?_⟩
  have ok := I.ok
  have hfr : X.A.frames = some (X.env :: X.outer) := by rw [ok.frames, hs]
  refine wpAny_Try_except ?_
  refine wpAny_mono ((hb (wKeep X.K cs i ts Wout D) (X.pn ++ pins) (fun e s₁ => wpAny (model X.prog X.w) X.A (noteFrame e X.env) (fun _ s₂ => wpAny (model X.prog X.w) X.A (setFlight e none) (fun _ s₃ =>
    wpAny (model X.prog X.w) X.A (handleBy e X.env [.ExceptHandler (some te) (some n) (b₀ :: suite) pos']) (SP X pins D) X.xe s₃) X.xe s₂) X.xe s₁) (fun u s' xx => ?_) PassesOwn.looking).run [] s σ H D (I.toTry _) h) (fun f s1 hsp => ?_) (fun e s1 he => he)
  · obtain ⟨a, B, sI, pins', σ', H', cls, d, rfl, J', nb, up, sky, na, os, ag, b, hb1, hyes, hno⟩ := xx
    have J : Inv X pins σ' H' sI := J'.ofTry ok
    have sky' : Sky B (X.env :: X.outer) a (Zc cls d) X.env.locals s'.heap := by rw [← hs]; exact sky
    show wpAny (model X.prog X.w) X.A (noteFrame (.ref a) X.env) _ _ _
    refine Sky.land Zc.steady hfr hf sky' fun h3 fl3 up3 => ?_
    have J3 : Inv X pins σ' H' { s' with heap := h3 } := J.landed nb fl3.1 (up.trans up3) os ag
    obtain ⟨oe3, vs3, he3, hz3, hd3⟩ := fl3.there
    -- the error is not there in sI
    have naI : sI.heap.get? a = none := by
      cases e : sI.heap.get? a with
      | none => rfl
      | some o =>
        have nfr : a ∉ frs X.stack := fun hm => by
          rw [hs] at hm
          obtain ⟨_, o', e', hnf⟩ := fl3.2.2.1.mem hm
          rw [he3] at e'; cases e'
          exact hnf _ hd3
        have := nb a o e nfr
        rw [fl3.2.1] at this; cases this
    have S3 : Inv (X.suite a (X.pn ++ pins)) [] σ' H' { s' with heap := h3 } := suite_inv J3 fun _ z => z
    refine wpAny_handleBy_cons (codeAny_handlers_test ?_) (by intro q; cases q)
    have LT : PySem.W.Looks (model X.prog X.w) h3 (typeOf (.ref a)) cls := fun A Q E s k q => wpAny_typeOf_ref (k _ _ he3) (by rw [hz3.1]; exact q)
    refine hc.run S3 LT hb1 fun hx kx => ?_
    have flx := flying_more fl3 kx
    have upx : sI.heap.UpToSlots hx := (up.trans up3).trans (Heap.UpToSlots.of_keeps kx)
    cases b with
    | true =>
      obtain ⟨C, dd, rfl, rfl, hy2⟩ := hyes rfl
      refine codeAny_handlers_suite_as ?_
      refine HandSPX.lands_againZ flx fun h4 fl4 up4 => ?_
      have J4 : Inv X pins σ' H' { s' with heap := h4 } := J.landed nb fl4.1 (upx.trans up4) os ag
      obtain ⟨oe4, vs4, he4, hz4, hd4⟩ := fl4.there
      have J5 := adopt J naI J4 ⟨oe4, vs4, he4, hz4.1, hz4.2, hd4⟩ na
      have S4 : Inv (X.suite a (X.pn ++ pins)) [] σ' (upd H' a (exnO a C dd)) { s' with heap := h4 } := suite_inv J5 fun _ z => z
      refine store_ok (X := X.suite a (X.pn ++ pins)) (v := .ref a) S4 hN hi (.inl hln) rfl (fun s5 S5 => ?_) (.inr hln)
      refine wpAny_mono ((hsu a (X.pn ++ pins)).run [] s5 _ _ _ S5 (hy2 a na)) (fun f s6 hsp => ?_) (fun _ _ z => False.elim z)
      have end_ : ∀ {σ6 : L2.St} {H6 : Hp} {Q : Shared → Prop}, Inv (X.suite a (X.pn ++ pins)) [] σ6 H6 s6 → (∀ s7, Inv X pins (σ6.set i none) H6 s7 → Q s7) →
          wpAny (model X.prog X.w) X.A (do bindName X.env n .none; unbindBehindTheSuite X.env n pos') (fun _ s7 => Q s7) X.xe s6 := fun {σ6 H6 Q} S6 hq => gone_ok (unsuite_inv S6 ok) hN hi hln hq
      cases f with
      | next =>
        obtain ⟨σ6, H6, S6, q6⟩ := hsp
        exact end_ S6 fun s7 J7 => ⟨_, _, J7, q6⟩
      | brk =>
        obtain ⟨σ6, H6, S6, q6⟩ := hsp
        exact end_ S6 fun s7 J7 => ⟨_, _, J7, q6⟩
      | cont =>
        obtain ⟨σ6, H6, S6, q6⟩ := hsp
        exact end_ S6 fun s7 J7 => ⟨_, _, J7, q6⟩
      | ret u =>
        obtain ⟨v6, σ6, H6, S6, r6, q6⟩ := hsp
        exact end_ S6 fun s7 J7 => ⟨_, _, _, J7, r6, q6⟩
    | false =>
      show wpAny _ X.A (handleBy (.ref a) X.env []) _ _ _
      refine wpAny_handleBy_nil ?_
      obtain ⟨k1, k2, k3, oe, vs, T, oT, ts', he, hz, hd, h1, hr⟩ := id flx
      unfold PySem.passOn
      refine wpAny_bind (wpAny_field he hd h1 ?_)
      rw [if_neg (show ¬ ((Value.ref T == Value.none) = true) from by simp)]
      have fin : wpAny (model X.prog X.w) X.A (setFlight (.ref a) X.env.frame) (fun _ s4 => wpAny (model X.prog X.w) X.A (throw (.ref a) : Sem Flow) (SP X pins D) X.xe s4) X.xe { s' with heap := hx } := by
        rw [hf]
        refine HandSPX.setFlight_upZ flx fun h4 hh4 up4 => wpAny_throw (tk _ _ ?_)
        exact ⟨a, B, sI, pins, σ', H', cls, d, rfl, J, nb, upx.trans up4, .inr (.inr (by rw [hs]; exact hh4)), na, os, ag, hno rfl⟩
      first
        | exact wpAny_bind (wpAny_pure (wpAny_bind fin))
        | exact wpAny_bind fin
  · cases f with
    | next =>
      obtain ⟨σ', H', J', q⟩ := hsp
      exact wpAny_execs_nil ⟨σ', H', J'.ofTry ok, q⟩
    | brk =>
      obtain ⟨σ', H', J', q⟩ := hsp
      exact ⟨σ', H', J'.ofTry ok, q⟩
    | cont =>
      obtain ⟨σ', H', J', q⟩ := hsp
      exact ⟨σ', H', J'.ofTry ok, q⟩
    | ret u =>
      obtain ⟨v, σ', H', J', r, q⟩ := hsp
      exact ⟨v, σ', H', J'.ofTry ok, r, q⟩
end
end VI

end

section
/-! ViR: how data stand in the heap. -/
namespace VI
open PySem L2

structure Wd where
  K : PySem.W.Frag
  cls : String → Option Addr
  /-- classes of instances -/
  ocl : String → Option Addr
  /-- the tables of code objects: where they stand, the name of the code objects in them -/
  tb : List (Addr × Str)
def isTb (Γ : Wd) (a : Addr) : Prop := ∃ q, (a, q) ∈ Γ.tb

/-- a tuple of the module's own -/
def KTup (K : PySem.W.Frag) (a : Addr) (xs : List V) : Prop :=
  ∃ (o : Obj) (its : Array Value) (n : Nat), K.lookup a = some o ∧ o.cls = .type "tuple" ∧ o.data = .seq its n ∧ its.size ≤ sizeLine ∧ Vals xs its.toList
/-- a scalar key -/
def kD : D → Option L2.Key
  | .int i => some (.inl i)
  | .str s => some (.inr (sv s))
  | _ => none
def kDs : List D → Option (List L2.Key)
  | [] => some []
  | d :: ds => match kD d, kDs ds with
    | some k, some ks => some (k :: ks)
    | _, _ => none
/-- a key that is a tuple -/
def tD : D → Option (List L2.Key)
  | .tup xs => kDs xs
  | _ => none
/-- the keys of a dict: each once -/
def KRel {κ : Type} (f : D → Option κ) (ks : List D) (kvs : List (κ × V)) : Prop := ks.map f = kvs.map (fun p => some p.1) ∧ (kvs.map (·.1)).Nodup
def names (ns : List String) : List Str := ns.map Str.ofString

mutual
inductive Rp (Γ : Wd) (F H : Hp) : V → D → List Addr → Prop
  | non : Rp Γ F H .non .non []
  | bl (b : Bool) : Rp Γ F H (.bl b) (.bl b) []
  | int (i : Int) : Rp Γ F H (.int i) (.int i) []
  | str (s : List Char) : Rp Γ F H (.str (sv s)) (.str s) []
  | scr {a : Addr} {vs : List V} {ds : List D} : SqL Γ.K F a vs → RpL Γ F H vs ds [] → pureL ds = true → Rp Γ F H (.ref a) (.scr ds) []
  | rep (p : PyData) : Rp Γ F H (.str p.shown) (.rep p) []
  | tup {a : Addr} {vs : List V} {ds : List D} {fp : List Addr} : F a = some (.tup vs) → RpL Γ F H vs ds fp → Rp Γ F H (.ref a) (.tup ds) fp
  | ktup {a : Addr} {vs : List V} {ds : List D} : KTup Γ.K a vs → RpL Γ F H vs ds [] → pureL ds = true → Rp Γ F H (.ref a) (.ktup ds) []
  | lstF {a : Addr} {vs : List V} {ds : List D} : F a = some (.lst vs) → RpL Γ F H vs ds [] → pureL ds = true → Rp Γ F H (.ref a) (.lst false ds) []
  | lstO {a : Addr} {vs : List V} {ds : List D} {fp : List Addr} : H a = some (.lst vs) → RpL Γ F H vs ds fp → Rp Γ F H (.ref a) (.lst true ds) (a :: fp)
  | dicF {a : Addr} {kvs : List (L2.Key × V)} {ks vs : List D} : Rd F a (.dK kvs) → KRel kD ks kvs → RpL Γ F H (kvs.map (·.2)) vs [] → pureL vs = true → Rp Γ F H (.ref a) (.dic false false ks vs) []
  | dicFT {a : Addr} {kvs : List (List L2.Key × V)} {ks vs : List D} : Rd F a (.dT kvs) → KRel tD ks kvs → RpL Γ F H (kvs.map (·.2)) vs [] → pureL vs = true → Rp Γ F H (.ref a) (.dic false true ks vs) []
  | dicO {a : Addr} {kvs : List (L2.Key × V)} {ks vs : List D} {fp : List Addr} : H a = some (.dK kvs) → KRel kD ks kvs → RpL Γ F H (kvs.map (·.2)) vs fp → Rp Γ F H (.ref a) (.dic true false ks vs) (a :: fp)
  | dicOT {a : Addr} {kvs : List (List L2.Key × V)} {ks vs : List D} {fp : List Addr} : H a = some (.dT kvs) → KRel tD ks kvs → RpL Γ F H (kvs.map (·.2)) vs fp → Rp Γ F H (.ref a) (.dic true true ks vs) (a :: fp)
  | obj {a C dx : Addr} {c : String} {fs : List (Str × V)} {ns : List String} {vs : List D} {fp : List Addr} : H a = some (.ins C dx fs) → Γ.ocl c = some C → fs.map (·.1) = names ns → RpL Γ F H (fs.map (·.2)) vs fp → Rp Γ F H (.ref a) (.obj c ns vs) (a :: fp)
  | hole (v : V) : Rp Γ F H v .hole []
  | exn {a C dd : Addr} {c fl : String} {va : V} {d : D} : Rd F a (exnO a C dd) → Rd F dd (.xd [(Str.ofString fl, va)]) → Γ.cls c = some C → Rp Γ F H va d [] → d.pure = true → Rp Γ F H (.ref a) (.exn c fl d) []
inductive RpL (Γ : Wd) (F H : Hp) : List V → List D → List Addr → Prop
  | nil : RpL Γ F H [] [] []
  | cons {v : V} {d : D} {fp : List Addr} {vs : List V} {ds : List D} {fq : List Addr} : Rp Γ F H v d fp → RpL Γ F H vs ds fq → RpL Γ F H (v :: vs) (d :: ds) (fp ++ fq)
end

def RdLe (F F' : Hp) : Prop := ∀ a o, Rd F a o → Rd F' a o
def FLe (F F' : Hp) : Prop := ∀ a o, F a = some o → F' a = some o
/-- what is kept: all that may be read, and the lists as they are -/
def RdN (F F' : Hp) : Prop := ∀ a o, (∀ u w, o ≠ HO.frz u w) → Rd F a o → Rd F' a o
structure KLe (F F' : Hp) : Prop where
  rd : RdN F F'
  lst : ∀ {a : Addr} {xs : List V}, F a = some (.lst xs) → F' a = some (.lst xs)
  tup : ∀ {a : Addr} {xs : List V}, F a = some (.tup xs) → F' a = some (.tup xs)
theorem KLe.dK {F F' : Hp} (f : KLe F F') {a : Addr} {kvs : List (L2.Key × V)} (e : Rd F a (.dK kvs)) : Rd F' a (.dK kvs) := f.rd _ _ (fun _ _ z => nomatch z) e
theorem KLe.dT {F F' : Hp} (f : KLe F F') {a : Addr} {kvs : List (List L2.Key × V)} (e : Rd F a (.dT kvs)) : Rd F' a (.dT kvs) := f.rd _ _ (fun _ _ z => nomatch z) e
theorem KLe.sqL {F F' : Hp} {K : PySem.W.Frag} (f : KLe F F') {a : Addr} {vs : List V} (e : SqL K F a vs) : SqL K F' a vs := e.elim (fun e => .inl (f.rd a _ (fun _ _ z => nomatch z) e)) .inr
/-- what stands stays, but tables grow -/
def HLe (H H' : Hp) : Prop := LamX.ExtN H H'
theorem HLe.refl (H : Hp) : HLe H H := fun _ _ h _ => h
theorem HLe.trans {H H' H'' : Hp} (h : HLe H H') (h' : HLe H' H'') : HLe H H'' := fun a o e n => h' a o (h a o e n) n
theorem FLe.h {H H' : Hp} (h : FLe H H') : HLe H H' := fun a o e _ => h a o e
theorem FLe.refl (F : Hp) : FLe F F := fun _ _ h => h
theorem FLe.trans {F F' F'' : Hp} (h : FLe F F') (h' : FLe F' F'') : FLe F F'' := fun a o e => h' a o (h a o e)
theorem FLe.rd {F F' : Hp} (h : FLe F F') : RdLe F F' := fun a o e => e.elim (fun e => .inl (h a o e)) fun ⟨u, e⟩ => .inr ⟨u, h a _ e⟩
theorem RdN.sqL {F F' : Hp} {K : PySem.W.Frag} (h : RdN F F') {a : Addr} {vs : List V} (e : SqL K F a vs) : SqL K F' a vs := e.elim (fun e => .inl (h a _ (fun _ _ z => nomatch z) e)) .inr
theorem FLe.k {F F' : Hp} (h : FLe F F') : KLe F F' := ⟨fun a o _ e => h.rd a o e, fun e => h _ _ e, fun e => h _ _ e⟩
theorem RdLe.sqL {F F' : Hp} {K : PySem.W.Frag} (h : RdLe F F') {a : Addr} {vs : List V} (e : SqL K F a vs) : SqL K F' a vs := e.elim (fun e => .inl (h a _ e)) .inr
theorem RdLe.sqT {F F' : Hp} {K : PySem.W.Frag} (h : RdLe F F') {a : Addr} {vs : List V} (e : SqT K F a vs) : SqT K F' a vs := e.elim (fun e => .inl (h a _ e)) .inr

section
variable {Γ : Wd} {F F' H H' : Hp}
mutual
theorem Rp.len_pure : ∀ {v : V} {d : D} {fp : List Addr}, Rp Γ F H v d fp → d.pure = true → fp = []
  | _, _, _, .non, _ => rfl
  | _, _, _, .bl _, _ => rfl
  | _, _, _, .int _, _ => rfl
  | _, _, _, .str _, _ => rfl
  | _, _, _, .rep _, _ => rfl
  | _, _, _, .tup _ h, p => RpL.len_pure h (by simpa only [D.pure] using p)
  | _, _, _, .ktup _ _ _, _ => rfl
  | _, _, _, .lstF _ _ _, _ => rfl
  | _, _, _, .scr _ _ _, _ => rfl
  | _, _, _, .lstO _ _, p => by simp [D.pure] at p
  | _, _, _, .dicF _ _ _ _, _ => rfl
  | _, _, _, .dicFT _ _ _ _, _ => rfl
  | _, _, _, .dicO _ _ _, p => by simp [D.pure] at p
  | _, _, _, .dicOT _ _ _, p => by simp [D.pure] at p
  | _, _, _, .obj _ _ _ _, p => by simp [D.pure] at p
  | _, _, _, .hole _, _ => rfl
  | _, _, _, .exn _ _ _ _ _, _ => rfl
theorem RpL.len_pure : ∀ {vs : List V} {ds : List D} {fp : List Addr}, RpL Γ F H vs ds fp → pureL ds = true → fp = []
  | _, _, _, .nil, _ => rfl
  | _, _, _, .cons h t, p => by
    simp only [pureL, Bool.and_eq_true] at p
    rw [Rp.len_pure h p.1, RpL.len_pure t p.2]; rfl
end
mutual
theorem Rp.mono (f : KLe F F') : ∀ {v : V} {d : D} {fp : List Addr}, Rp Γ F H v d fp → (∀ a ∈ fp, H' a = H a) → Rp Γ F' H' v d fp
  | _, _, _, .non, _ => .non
  | _, _, _, .bl b, _ => .bl b
  | _, _, _, .int i, _ => .int i
  | _, _, _, .str s, _ => .str s
  | _, _, _, .rep s, _ => .rep s
  | _, _, _, .tup e h, k => .tup (f.tup e) (RpL.mono f h k)
  | _, _, _, .ktup e h p, k => .ktup e (RpL.mono f h fun a m => absurd m (by simp)) p
  | _, _, _, .lstF e h p, k => .lstF (f.lst e) (RpL.mono f h fun a m => absurd m (by simp)) p
  | _, _, _, .scr e h p, k => .scr (f.sqL e) (RpL.mono f h fun a m => absurd m (by simp)) p
  | _, _, _, .lstO e h, k => .lstO ((k _ (List.mem_cons_self ..)).trans e) (RpL.mono f h fun a m => k a (List.mem_cons_of_mem _ m))
  | _, _, _, .dicF e g h p, k => .dicF (f.dK e) g (RpL.mono f h fun a m => absurd m (by simp)) p
  | _, _, _, .dicFT e g h p, k => .dicFT (f.dT e) g (RpL.mono f h fun a m => absurd m (by simp)) p
  | _, _, _, .dicO e g h, k => .dicO ((k _ (List.mem_cons_self ..)).trans e) g (RpL.mono f h fun a m => k a (List.mem_cons_of_mem _ m))
  | _, _, _, .dicOT e g h, k => .dicOT ((k _ (List.mem_cons_self ..)).trans e) g (RpL.mono f h fun a m => k a (List.mem_cons_of_mem _ m))
  | _, _, _, .obj e c g h, k => .obj ((k _ (List.mem_cons_self ..)).trans e) c g (RpL.mono f h fun a m => k a (List.mem_cons_of_mem _ m))
  | _, _, _, .hole v, _ => .hole v
  | _, _, _, .exn e x c h p, k => .exn (f.rd _ _ exnO_frz e) (f.rd _ _ xd_frz x) c (Rp.mono f h fun a m => absurd m (by simp)) p
theorem RpL.mono (f : KLe F F') : ∀ {vs : List V} {ds : List D} {fp : List Addr}, RpL Γ F H vs ds fp → (∀ a ∈ fp, H' a = H a) → RpL Γ F' H' vs ds fp
  | _, _, _, .nil, _ => .nil
  | _, _, _, .cons h t, k => .cons (Rp.mono f h fun a m => k a (List.mem_append_left _ m)) (RpL.mono f t fun a m => k a (List.mem_append_right _ m))
end
mutual
theorem frz_pure : ∀ d : D, d.pure = true → d.frz = d
  | .non, _ => rfl
  | .bl _, _ => rfl
  | .int _, _ => rfl
  | .str _, _ => rfl
  | .rep _, _ => rfl
  | .scr _, _ => rfl
  | .ktup _, _ => rfl
  | .exn _ _ _, _ => rfl
  | .tup xs, h => by rw [D.frz, frzL_pure xs (by simpa only [D.pure] using h)]
  | .lst m xs, h => by
    simp only [D.pure, Bool.and_eq_true, Bool.not_eq_true'] at h
    rw [D.frz, frzL_pure xs h.2, h.1]
  | .dic m t ks vs, h => by
    simp only [D.pure, Bool.and_eq_true, Bool.not_eq_true'] at h
    rw [D.frz, frzL_pure vs h.2, h.1]
  | .obj _ _ _, h => by simp [D.pure] at h
  | .hole, h => by simp [D.pure] at h
  | .raw _, h => by simp [D.pure] at h
theorem frzL_pure : ∀ ds : List D, pureL ds = true → frzL ds = ds
  | [], _ => rfl
  | d :: ds, h => by
    simp only [pureL, Bool.and_eq_true] at h
    rw [frzL, frz_pure d h.1, frzL_pure ds h.2]
end
mutual
/-- frozen: what was owned stands in F' -/
theorem Rp.freeze (f : KLe F F') : ∀ {v : V} {d : D} {fp : List Addr}, Rp Γ F H v d fp → d.frz.pure = true → (∀ a ∈ fp, F' a = H a) → Rp Γ F' H' v d.frz []
  | _, _, _, .non, _, _ => .non
  | _, _, _, .bl b, _, _ => .bl b
  | _, _, _, .int i, _, _ => .int i
  | _, _, _, .str s, _, _ => .str s
  | _, _, _, .rep s, _, _ => .rep s
  | _, _, _, .tup e h, p, k => .tup (f.tup e) (RpL.freeze f h (by simpa only [D.frz, D.pure] using p) k)
  | _, _, _, .ktup e h q, p, k => .ktup e (h.mono f fun a m => absurd m (by simp)) q
  | _, _, _, .lstF (ds := ds) e h q, p, k => by
    rw [D.frz, frzL_pure ds q]
    exact .lstF (f.lst e) (h.mono f fun a m => absurd m (by simp)) q
  | _, _, _, .scr e h q, p, k => .scr (f.sqL e) (h.mono f fun a m => absurd m (by simp)) q
  | _, _, _, .lstO e h, p, k => .lstF ((k _ (List.mem_cons_self ..)).trans e) (RpL.freeze f h (by simpa [D.frz, D.pure] using p) fun a m => k a (List.mem_cons_of_mem _ m)) (by simpa [D.frz, D.pure] using p)
  | _, _, _, .dicF (vs := ds) e g h q, p, k => by
    rw [D.frz, frzL_pure ds q]
    exact .dicF (f.dK e) g (h.mono f fun a m => absurd m (by simp)) q
  | _, _, _, .dicFT (vs := ds) e g h q, p, k => by
    rw [D.frz, frzL_pure ds q]
    exact .dicFT (f.dT e) g (h.mono f fun a m => absurd m (by simp)) q
  | _, _, _, .dicO e g h, p, k => .dicF (.inl ((k _ (List.mem_cons_self ..)).trans e)) g (RpL.freeze f h (by simpa [D.frz, D.pure] using p) fun a m => k a (List.mem_cons_of_mem _ m)) (by simpa [D.frz, D.pure] using p)
  | _, _, _, .dicOT e g h, p, k => .dicFT (.inl ((k _ (List.mem_cons_self ..)).trans e)) g (RpL.freeze f h (by simpa [D.frz, D.pure] using p) fun a m => k a (List.mem_cons_of_mem _ m)) (by simpa [D.frz, D.pure] using p)
  | _, _, _, .obj _ _ _ _, p, _ => by simp [D.frz, D.pure] at p
  | _, _, _, .hole _, p, _ => by simp [D.frz, D.pure] at p
  | _, _, _, .exn e x c h q, p, k => .exn (f.rd _ _ exnO_frz e) (f.rd _ _ xd_frz x) c (h.mono f fun a m => absurd m (by simp)) q
theorem RpL.freeze (f : KLe F F') : ∀ {vs : List V} {ds : List D} {fp : List Addr}, RpL Γ F H vs ds fp → pureL (frzL ds) = true → (∀ a ∈ fp, F' a = H a) → RpL Γ F' H' vs (frzL ds) []
  | _, _, _, .nil, _, _ => .nil
  | _, _, _, .cons h t, p, k => by
    simp only [frzL, pureL, Bool.and_eq_true] at p
    exact .cons (fp := []) (fq := []) (Rp.freeze f h p.1 fun a m => k a (List.mem_append_left _ m)) (RpL.freeze f t p.2 fun a m => k a (List.mem_append_right _ m))
end
/-- of pure data the heap does not matter -/
theorem Rp.any {v : V} {d : D} {fp : List Addr} (f : KLe F F') (h : Rp Γ F H v d fp) (p : d.pure = true) : Rp Γ F' H' v d [] := by
  have e := h.len_pure p
  subst e
  exact h.mono f fun a m => absurd m (by simp)
theorem RpL.any {vs : List V} {ds : List D} {fp : List Addr} (f : KLe F F') (h : RpL Γ F H vs ds fp) (p : pureL ds = true) : RpL Γ F' H' vs ds [] := by
  have e := h.len_pure p
  subst e
  exact h.mono f fun a m => absurd m (by simp)
theorem RpL.length {vs : List V} {ds : List D} {fp : List Addr} (h : RpL Γ F H vs ds fp) : vs.length = ds.length := by
  induction vs generalizing ds fp with
  | nil => cases h; rfl
  | cons v vs ih => cases h with | cons a t => simp [ih t]
theorem RpL.append {vs ws : List V} {ds es : List D} {fp fq : List Addr} (h : RpL Γ F H vs ds fp) (t : RpL Γ F H ws es fq) : RpL Γ F H (vs ++ ws) (ds ++ es) (fp ++ fq) := by
  induction vs generalizing ds fp with
  | nil => cases h; exact t
  | cons v vs ih => cases h with | cons a r => rw [List.append_assoc]; exact .cons a (ih r)
theorem RpL.split {vs : List V} {ds es : List D} {fp : List Addr} (h : RpL Γ F H vs (ds ++ es) fp) : ∃ v1 v2 f1 f2, vs = v1 ++ v2 ∧ fp = f1 ++ f2 ∧ RpL Γ F H v1 ds f1 ∧ RpL Γ F H v2 es f2 := by
  induction ds generalizing vs fp with
  | nil => exact ⟨[], vs, [], fp, rfl, rfl, .nil, h⟩
  | cons d ds ih =>
    cases h with
    | cons a r =>
      obtain ⟨v1, v2, f1, f2, rfl, rfl, h1, h2⟩ := ih r
      exact ⟨_, v2, _, f2, rfl, (List.append_assoc ..).symm, .cons a h1, h2⟩
/-- the part at a place -/
theorem RpL.at {vs : List V} {ds : List D} {fp : List Addr} {n : Nat} {d : D} (h : RpL Γ F H vs ds fp) (e : ds[n]? = some d) :
    ∃ v f1 f2 f3, vs[n]? = some v ∧ fp = f1 ++ f2 ++ f3 ∧ Rp Γ F H v d f2 := by
  induction ds generalizing vs fp n with
  | nil => simp at e
  | cons x xs ih =>
    cases h with
    | @cons v0 _ fa vs0 _ fb a r =>
      cases n with
      | zero =>
        simp at e; subst e
        exact ⟨v0, [], fa, fb, rfl, by simp, a⟩
      | succ n =>
        obtain ⟨v, f1, f2, f3, h1, h2, h3⟩ := ih r (by simpa using e)
        exact ⟨v, fa ++ f1, f2, f3, by simpa using h1, by rw [h2]; simp, h3⟩
end
end VI

end

section
/-! ViS: the state of a body: slots, owned trees, the frozen part. -/
namespace VI
open PySem L2

structure Bd where
  H : Hp
  F : Hp
  M : Addr → Prop

def Own (Γ : Wd) (F H : Hp) (P : Addr → Prop) (L : List (V × D)) : Prop :=
  ∃ fp, RpL Γ F H (L.map (·.1)) (L.map (·.2)) fp ∧ fp.Nodup ∧ ∀ a ∈ fp, P a
def coll : L2.St → Fr → List (V × D)
  | some v :: σ, some d :: af => (v, d) :: coll σ af
  | none :: σ, some _ :: af => coll σ af
  | _ :: σ, none :: af => coll σ af
  | [], _ => []
  | _ :: _, [] => []

section
variable {Γ : Wd} {F F' H H' : Hp} {P : Addr → Prop}
theorem RpL.perm : ∀ {L L' : List (V × D)}, L.Perm L' → ∀ {fp : List Addr}, RpL Γ F H (L.map (·.1)) (L.map (·.2)) fp → ∃ fq, fp.Perm fq ∧ RpL Γ F H (L'.map (·.1)) (L'.map (·.2)) fq := by
  intro L L' p
  induction p with
  | nil => intro fp h; exact ⟨fp, .refl _, h⟩
  | cons x _ ih =>
    intro fp h
    cases h with
    | cons a t =>
      obtain ⟨fq, q, t'⟩ := ih t
      exact ⟨_, q.append_left _, .cons a t'⟩
  | swap x y l =>
    intro fp h
    cases h with
    | @cons _ _ f1 _ _ _ a t =>
      cases t with
      | @cons _ _ f2 _ _ f3 b t =>
        refine ⟨f2 ++ (f1 ++ f3), ?_, .cons b (.cons a t)⟩
        rw [← List.append_assoc, ← List.append_assoc]
        exact (List.perm_append_comm).append_right _
  | trans _ _ ih1 ih2 =>
    intro fp h
    obtain ⟨f1, p1, h1⟩ := ih1 h
    obtain ⟨f2, p2, h2⟩ := ih2 h1
    exact ⟨f2, p1.trans p2, h2⟩
theorem Own.perm {L L' : List (V × D)} (h : Own Γ F H P L) (p : L.Perm L') : Own Γ F H P L' := by
  obtain ⟨fp, r, n, q⟩ := h
  obtain ⟨fq, p', r'⟩ := RpL.perm p r
  exact ⟨fq, r', p'.nodup_iff.mp n, fun a m => q a (p'.mem_iff.mpr m)⟩
theorem Own.tail {x : V × D} {L : List (V × D)} (h : Own Γ F H P (x :: L)) : Own Γ F H P L := by
  obtain ⟨fp, r, n, q⟩ := h
  cases r with
  | cons a t => exact ⟨_, t, (List.nodup_append.mp n).2.1, fun a m => q a (List.mem_append_right _ m)⟩
theorem Own.left {L L' : List (V × D)} (h : Own Γ F H P (L ++ L')) : Own Γ F H P L := by
  obtain ⟨fp, r, n, q⟩ := h
  rw [List.map_append, List.map_append] at r
  obtain ⟨v1, v2, f1, f2, e, rfl, h1, h2⟩ := r.split
  have e1 : v1 = L.map (·.1) := by
    have l1 := h1.length
    have := congrArg (List.take v1.length) e
    rw [List.take_left, l1, List.length_map, List.take_left' (by simp)] at this
    exact this.symm
  subst e1
  exact ⟨_, h1, (List.nodup_append.mp n).1, fun a m => q a (List.mem_append_left _ m)⟩
theorem Own.right {L L' : List (V × D)} (h : Own Γ F H P (L ++ L')) : Own Γ F H P L' := (h.perm List.perm_append_comm).left
theorem Own.imp {Q : Addr → Prop} {L : List (V × D)} (h : Own Γ F H P L) (f : ∀ a, P a → Q a) : Own Γ F H Q L := by
  obtain ⟨fp, r, n, q⟩ := h
  exact ⟨fp, r, n, fun a m => f a (q a m)⟩
mutual
theorem Rp.dom : ∀ {v : V} {d : D} {fp : List Addr}, Rp Γ F H v d fp → ∀ a ∈ fp, H a ≠ none
  | _, _, _, .non, _, m => absurd m (by simp)
  | _, _, _, .bl _, _, m => absurd m (by simp)
  | _, _, _, .int _, _, m => absurd m (by simp)
  | _, _, _, .str _, _, m => absurd m (by simp)
  | _, _, _, .rep _, _, m => absurd m (by simp)
  | _, _, _, .tup _ h, a, m => RpL.dom h a m
  | _, _, _, .ktup _ _ _, _, m => absurd m (by simp)
  | _, _, _, .lstF _ _ _, _, m => absurd m (by simp)
  | _, _, _, .scr _ _ _, _, m => absurd m (by simp)
  | _, _, _, .lstO e h, a, m => by
    rcases List.mem_cons.mp m with rfl | m
    · rw [e]; simp
    · exact RpL.dom h a m
  | _, _, _, .dicF _ _ _ _, _, m => absurd m (by simp)
  | _, _, _, .dicFT _ _ _ _, _, m => absurd m (by simp)
  | _, _, _, .dicO e _ h, a, m => by
    rcases List.mem_cons.mp m with rfl | m
    · rw [e]; simp
    · exact RpL.dom h a m
  | _, _, _, .dicOT e _ h, a, m => by
    rcases List.mem_cons.mp m with rfl | m
    · rw [e]; simp
    · exact RpL.dom h a m
  | _, _, _, .obj e _ _ h, a, m => by
    rcases List.mem_cons.mp m with rfl | m
    · rw [e]; simp
    · exact RpL.dom h a m
  | _, _, _, .hole _, _, m => absurd m (by simp)
  | _, _, _, .exn _ _ _ _ _, _, m => absurd m (by simp)
theorem RpL.dom : ∀ {vs : List V} {ds : List D} {fp : List Addr}, RpL Γ F H vs ds fp → ∀ a ∈ fp, H a ≠ none
  | _, _, _, .nil, _, m => absurd m (by simp)
  | _, _, _, .cons h t, a, m => (List.mem_append.mp m).elim (Rp.dom h a) (RpL.dom t a)
end
/-- what is owned is a list, a dict or an instance -/
def ownK : HO → Prop
  | .lst _ => True
  | .dK _ => True
  | .dT _ => True
  | .ins _ _ _ => True
  | _ => False
mutual
theorem Rp.kind : ∀ {v : V} {d : D} {fp : List Addr}, Rp Γ F H v d fp → ∀ a ∈ fp, ∃ o, H a = some o ∧ ownK o
  | _, _, _, .non, _, m => absurd m (by simp)
  | _, _, _, .bl _, _, m => absurd m (by simp)
  | _, _, _, .int _, _, m => absurd m (by simp)
  | _, _, _, .str _, _, m => absurd m (by simp)
  | _, _, _, .rep _, _, m => absurd m (by simp)
  | _, _, _, .tup _ h, a, m => RpL.kind h a m
  | _, _, _, .ktup _ _ _, _, m => absurd m (by simp)
  | _, _, _, .lstF _ _ _, _, m => absurd m (by simp)
  | _, _, _, .scr _ _ _, _, m => absurd m (by simp)
  | _, _, _, .lstO e h, a, m => by
    rcases List.mem_cons.mp m with rfl | m
    · exact ⟨_, e, trivial⟩
    · exact RpL.kind h a m
  | _, _, _, .dicF _ _ _ _, _, m => absurd m (by simp)
  | _, _, _, .dicFT _ _ _ _, _, m => absurd m (by simp)
  | _, _, _, .dicO e _ h, a, m => by
    rcases List.mem_cons.mp m with rfl | m
    · exact ⟨_, e, trivial⟩
    · exact RpL.kind h a m
  | _, _, _, .dicOT e _ h, a, m => by
    rcases List.mem_cons.mp m with rfl | m
    · exact ⟨_, e, trivial⟩
    · exact RpL.kind h a m
  | _, _, _, .obj e _ _ h, a, m => by
    rcases List.mem_cons.mp m with rfl | m
    · exact ⟨_, e, trivial⟩
    · exact RpL.kind h a m
  | _, _, _, .hole _, _, m => absurd m (by simp)
  | _, _, _, .exn _ _ _ _ _, _, m => absurd m (by simp)
theorem RpL.kind : ∀ {vs : List V} {ds : List D} {fp : List Addr}, RpL Γ F H vs ds fp → ∀ a ∈ fp, ∃ o, H a = some o ∧ ownK o
  | _, _, _, .nil, _, m => absurd m (by simp)
  | _, _, _, .cons h t, a, m => (List.mem_append.mp m).elim (Rp.kind h a) (RpL.kind t a)
end
/-- what no one else freezes -/
def stayK : HO → Prop
  | .lst _ => True
  | .dK _ => True
  | .dT _ => True
  | .ins _ _ _ => True
  | .tbl _ => True
  | _ => False
theorem own_stay {o : HO} (k : ownK o) : stayK o := by cases o <;> first | exact k | exact k.elim
def Loose (H : Hp) (a : Addr) : Prop := ∀ o, H a = some o → ¬ stayK o
theorem loose_none {a : Addr} (h : H a = none) : Loose H a := fun o e => by rw [h] at e; cases e
theorem loose_tab {a : Addr} (t : LamX.Tabs Γ.tb H) (i : isTb Γ a) (l : Loose H a) : False := by
  obtain ⟨q, hq⟩ := i
  obtain ⟨ps, h1, _⟩ := t _ hq
  exact l _ h1 trivial
theorem tab_notOwn {a : Addr} {o : HO} (t : LamX.Tabs Γ.tb H) (i : isTb Γ a) (e : H a = some o) (k : ownK o) : False := by
  obtain ⟨q, hq⟩ := i
  obtain ⟨ps, h1, _⟩ := t _ hq
  have h1 : H a = some (.tbl ps) := h1
  rw [e] at h1
  cases h1
  exact k
theorem tab_some {a : Addr} (t : LamX.Tabs Γ.tb H) (i : isTb Γ a) : H a ≠ none := by
  obtain ⟨q, hq⟩ := i
  obtain ⟨ps, h1, _⟩ := t _ hq
  have h1 : H a = some (.tbl ps) := h1
  rw [h1]; simp
/-- a store elsewhere -/
theorem tabs_upd {T : List (Addr × Str)} {a : Addr} {o o' : HO} (t : LamX.Tabs T H) (e : H a = some o) (k1 : ∀ ps, o ≠ .tbl ps) (k2 : ∀ c q, o ≠ LamX.CodeO c q) : LamX.Tabs T (upd H a o') := fun p hp => by
  obtain ⟨ps, h1, h2, h3⟩ := t p hp
  refine ⟨ps, ?_, h2, fun pos cv hc => ?_⟩
  · rw [upd_ne (fun z => by rw [z, e] at h1; cases h1; exact k1 _ rfl)]; exact h1
  · obtain ⟨c, e1, e2⟩ := h3 pos cv hc
    exact ⟨c, e1, by rw [upd_ne (fun z => by rw [z, e] at e2; cases e2; exact k2 _ _ rfl)]; exact e2⟩
theorem own_tbl {o : HO} (k : ownK o) (ps : Array Value) : o ≠ .tbl ps := fun z => by subst z; exact k
theorem own_code {o : HO} (k : ownK o) (c : Addr) (q : Str) : o ≠ LamX.CodeO c q := fun z => by
  subst z
  have k' : ownK (.ext _) := k
  exact k'
theorem frz_code {u : Obj} {w : HO} (c : Addr) (q : Str) : HO.frz u w ≠ LamX.CodeO c q := fun z => by
  have y : HO.frz u w = .ext _ := z
  cases y
theorem slot_iff {fr : Fr} {x : Nat} {d : D} : slot fr x = some d ↔ fr[x]? = some (some d) := by
  unfold slot
  constructor
  · intro h
    split at h
    · rename_i d' e
      cases h; exact e
    · cases h
  · intro h
    rw [h]
theorem coll_hide : ∀ {σ : L2.St} {af : Fr} {x : Nat} {v : V} {d : D}, σ[x]? = some (some v) → af[x]? = some (some d) → (coll σ af).Perm ((v, d) :: coll σ (af.set x none))
  | [], _, _, _, _, h, _ => by simp at h
  | _ :: _, [], _, _, _, _, h => by simp at h
  | s :: σ, a :: af, 0, v, d, h, g => by
    simp at h g; subst h; subst g
    simp [coll]
  | s :: σ, a :: af, x + 1, v, d, h, g => by
    have ih := coll_hide (σ := σ) (af := af) (x := x) (v := v) (d := d) (by simpa using h) (by simpa using g)
    rw [List.set_cons_succ]
    cases a with
    | none => cases s <;> exact ih
    | some d' => cases s with
      | none => exact ih
      | some v' => exact (ih.cons _).trans (.swap ..)
theorem coll_off : ∀ {σ : L2.St} {af : Fr} {x : Nat} {s : Option V}, coll (σ.set x s) (af.set x none) = coll σ (af.set x none)
  | [], _, _, _ => rfl
  | s0 :: σ0, [], x, _ => by cases x <;> simp [coll]
  | s :: σ, a :: af, 0, s' => by cases s <;> cases s' <;> rfl
  | s :: σ, a :: af, x + 1, s' => by
    have ih := coll_off (σ := σ) (af := af) (x := x) (s := s')
    rw [List.set_cons_succ, List.set_cons_succ]
    cases a with
    | none => cases s <;> exact ih
    | some d' => cases s with
      | none => exact ih
      | some v' => exact congrArg (List.cons (v', d')) ih
theorem coll_put {σ : L2.St} {af : Fr} {x : Nat} {v : V} {d : D} (h1 : x < σ.length) (h2 : x < af.length) : (coll (σ.set x (some v)) (af.set x (some d))).Perm ((v, d) :: coll σ (af.set x none)) := by
  refine (coll_hide (x := x) (v := v) (d := d) (by simp [h1]) (by simp [h2])).trans ?_
  rw [List.set_set, coll_off]
theorem coll_drop : ∀ {σ : L2.St} {af : Fr} {x : Nat}, ∃ L, (coll σ af).Perm (L ++ coll σ (af.set x none)) := by
  intro σ af x
  cases e : af[x]? with
  | none => exact ⟨[], by rw [List.set_eq_of_length_le (by simpa using e)]; exact .refl _⟩
  | some o =>
    have hx : x < af.length := by
      rcases List.getElem?_eq_some_iff.mp e with ⟨h, _⟩; exact h
    cases o with
    | none =>
      refine ⟨[], ?_⟩
      have : af.set x none = af := by
        apply List.ext_getElem?; intro i
        by_cases hi : x = i
        · subst hi; rw [e]; simp [hx]
        · rw [List.getElem?_set_ne hi]
      rw [this]; exact .refl _
    | some d =>
      cases q : σ[x]? with
      | none =>
        have : coll σ (af.set x none) = coll σ af := by
          have hl : σ.length ≤ x := by simpa using q
          clear q e
          induction σ generalizing af x with
          | nil => rfl
          | cons s σ ih =>
            cases af with
            | nil => rfl
            | cons a af =>
              cases x with
              | zero => simp at hl
              | succ x =>
                have := ih (af := af) (x := x) (by simpa using hx) (by simpa using hl)
                rw [List.set_cons_succ]
                cases a with
                | none => cases s <;> exact this
                | some d' => cases s with
                  | none => exact this
                  | some v' => exact congrArg (List.cons (v', d')) this
        exact ⟨[], by rw [this]; exact .refl _⟩
      | some s =>
        cases s with
        | some v => exact ⟨[(v, d)], coll_hide q e⟩
        | none =>
          have : coll σ (af.set x none) = coll σ af := by
            clear hx
            induction σ generalizing af x with
            | nil => rfl
            | cons s σ ih =>
              cases af with
              | nil => rfl
              | cons a af =>
                cases x with
                | zero => simp at q e; subst q; subst e; rfl
                | succ x =>
                  have := ih (af := af) (x := x) (by simpa using e) (by simpa using q)
                  rw [List.set_cons_succ]
                  cases a with
                  | none => cases s <;> exact this
                  | some d' => cases s with
                    | none => exact this
                    | some v' => exact congrArg (List.cons (v', d')) this
          exact ⟨[], by rw [this]; exact .refl _⟩
end

/-- the state: every tuple is in F; slots and temporaries own their trees -/
structure Sta (Γ : Wd) (B : Bd) (F H : Hp) (σ : L2.St) (af : Fr) (T : List (V × D)) : Prop where
  sub : FLe F H
  tup : ∀ a vs, H a = some (.tup vs) → F a = some (.tup vs)
  len : af.length = σ.length
  bnd : ∀ (i : Nat) (d : D), af[i]? = some (some d) → ∃ v, σ[i]? = some (some v)
  own : Own Γ F H (fun a => F a = none ∧ (B.M a ∨ B.H a = none)) (coll σ af ++ T)
  mod : ∀ a o, B.H a = some o → ¬ B.M a → H a = some o
  mono : FLe B.F F
  frF : ∀ a, F a ≠ none → B.F a ≠ none ∨ B.M a ∨ Loose B.H a
  tabs : LamX.Tabs Γ.tb H
  mt : ∀ a, isTb Γ a → B.M a
  nt : ∀ a, isTb Γ a → F a = none

section
variable {Γ : Wd} {B : Bd} {F F' H H' : Hp} {σ : L2.St} {af : Fr} {T T' : List (V × D)}
theorem Sta.perm (S : Sta Γ B F H σ af T) (p : T.Perm T') : Sta Γ B F H σ af T' := { S with own := S.own.perm (p.append_left _) }
theorem Sta.drop {x : V × D} (S : Sta Γ B F H σ af (x :: T)) : Sta Γ B F H σ af T := { S with own := (S.own.perm List.perm_middle).tail }
theorem Sta.dropL {L : List (V × D)} (S : Sta Γ B F H σ af (L ++ T)) : Sta Γ B F H σ af T := by
  induction L with
  | nil => exact S
  | cons x L ih => exact ih S.drop
theorem Sta.hide {x : Nat} {d : D} (S : Sta Γ B F H σ af T) (e : slot af x = some d) : ∃ v, σ[x]? = some (some v) ∧ Sta Γ B F H σ (af.set x none) ((v, d) :: T) := by
  have e' := slot_iff.mp e
  obtain ⟨v, hv⟩ := S.bnd x d e'
  refine ⟨v, hv, { S with len := by simp [S.len], bnd := fun i d' h => ?_, own := S.own.perm ?_ }⟩
  · by_cases hi : x = i
    · subst hi
      by_cases hl : x < af.length
      · rw [List.getElem?_set_self hl] at h; cases h
      · rw [List.getElem?_eq_none (by simpa using hl)] at h; cases h
    · rw [List.getElem?_set_ne hi] at h
      exact S.bnd i d' h
  · exact ((coll_hide hv e').append_right T).trans (List.perm_middle.symm)
/-- a slot is forgotten -/
theorem Sta.forget (S : Sta Γ B F H σ af T) (x : Nat) : Sta Γ B F H σ (af.set x none) T := by
  obtain ⟨L, p⟩ := coll_drop (σ := σ) (af := af) (x := x)
  refine { S with len := by simp [S.len], bnd := fun i d' h => ?_, own := ?_ }
  · by_cases hi : x = i
    · subst hi
      by_cases hl : x < af.length
      · rw [List.getElem?_set_self hl] at h; cases h
      · rw [List.getElem?_eq_none (by simpa using hl)] at h; cases h
    · rw [List.getElem?_set_ne hi] at h
      exact S.bnd i d' h
  · have := S.own.perm (p.append_right T)
    rw [List.append_assoc] at this
    exact this.right
/-- a temporary goes into a slot -/
theorem Sta.store {x : Nat} {v : V} {d : D} (S : Sta Γ B F H σ af ((v, d) :: T)) (hx : x < af.length) : Sta Γ B F H (σ.set x (some v)) (af.set x (some d)) T := by
  have S' := S.forget x
  refine { S' with len := by simp [S.len], bnd := fun i d' h => ?_, own := S'.own.perm ?_ }
  · by_cases hi : x = i
    · subst hi
      exact ⟨v, by rw [List.getElem?_set_self (by rw [← S.len]; exact hx)]⟩
    · rw [List.getElem?_set_ne hi] at h ⊢
      exact S.bnd i d' h
  · refine List.perm_middle.trans ?_
    exact ((coll_put (by rw [← S.len]; exact hx) hx).symm.append_right T)
/-- back into its own slot -/
theorem Sta.back {x : Nat} {v : V} {d : D} (S : Sta Γ B F H σ af ((v, d) :: T)) (hx : x < af.length) (hv : σ[x]? = some (some v)) : Sta Γ B F H σ (af.set x (some d)) T := by
  have := S.store (x := x) hx
  have e : σ.set x (some v) = σ := by
    apply List.ext_getElem?; intro i
    by_cases hi : x = i
    · subst hi; rw [hv, List.getElem?_set_self (by rw [← S.len]; exact hx)]
    · rw [List.getElem?_set_ne hi]
  rw [e] at this
  exact this
/-- the heap has grown -/
structure Alloc (F H F' H' : Hp) : Prop where
  same : FLe H H'
  le : FLe F F'
  sub : FLe F' H'
  tup : ∀ a vs, H' a = some (.tup vs) → F' a = some (.tup vs)
  fr : ∀ a, F' a ≠ none → F a ≠ none ∨ H a = none
theorem Alloc.refl (h : FLe F H) (t : ∀ a vs, H a = some (.tup vs) → F a = some (.tup vs)) : Alloc F H F H := ⟨.refl _, .refl _, h, t, fun _ h => .inl h⟩
theorem Alloc.trans {F2 H2 : Hp} (a : Alloc F H F' H') (b : Alloc F' H' F2 H2) : Alloc F H F2 H2 :=
  ⟨a.same.trans b.same, a.le.trans b.le, b.sub, b.tup, fun x h => (b.fr x h).elim (a.fr x) fun e => .inr (by
    cases q : H x with
    | none => rfl
    | some o => rw [a.same x o q] at e; cases e)⟩
theorem Sta.alloc0 (S : Sta Γ B F H σ af T) : Alloc F H F H := .refl S.sub S.tup
theorem Sta.loose {a : Addr} (S : Sta Γ B F H σ af T) (l : Loose H a) : B.M a ∨ Loose B.H a := by
  by_cases m : B.M a
  · exact .inl m
  · exact .inr fun o e k => l o (S.mod a o e m) k
theorem Sta.grown (S : Sta Γ B F H σ af T) (A : Alloc F H F' H') : Sta Γ B F' H' σ af T := by
  obtain ⟨fp, r, n, q⟩ := S.own
  have hd := r.dom
  refine ⟨A.sub, A.tup, S.len, S.bnd, ⟨fp, r.mono A.le.k (fun a m => ?_), n, fun a m => ⟨?_, (q a m).2⟩⟩, fun a o e m => A.same a o (S.mod a o e m), S.mono.trans A.le, fun a h => ?_, S.tabs.ext A.same, S.mt, fun a i => ?_⟩
  · cases e : H a with
    | none => exact absurd e (hd a m)
    | some o => exact A.same a o e
  · cases e : F' a with
    | none => rfl
    | some o =>
      rcases A.fr a (by rw [e]; simp) with h | h
      · exact absurd (q a m).1 h
      · exact absurd h (hd a m)
  · rcases A.fr a h with h | h
    · exact S.frF a h
    · exact .inr (S.loose (loose_none h))
  · cases e : F' a with
    | none => rfl
    | some o =>
      rcases A.fr a (by rw [e]; simp) with h | h
      · exact absurd (S.nt a i) h
      · exact absurd h (tab_some S.tabs i)
/-- a new tree stands in what has grown -/
def NewV (Γ : Wd) (F H : Hp) (d : D) (Q : V → Hp → Prop) : Prop :=
  ∀ v F' H' fp, Alloc F H F' H' → Rp Γ F' H' v d fp → fp.Nodup → (∀ a ∈ fp, H a = none ∧ F' a = none) → Q v H'
theorem Sta.new {v : V} {d : D} {fp : List Addr} (S : Sta Γ B F H σ af T) (A : Alloc F H F' H') (r : Rp Γ F' H' v d fp) (n : fp.Nodup) (h : ∀ a ∈ fp, H a = none ∧ F' a = none) : Sta Γ B F' H' σ af ((v, d) :: T) := by
  have S' := S.grown A
  obtain ⟨f0, r0, n0, q0⟩ := S.own
  have hd := r0.dom
  have r1 : RpL Γ F' H' ((coll σ af ++ T).map (·.1)) ((coll σ af ++ T).map (·.2)) f0 := r0.mono A.le.k fun a m => by
    cases e : H a with
    | none => exact absurd e (hd a m)
    | some o => exact A.same a o e
  refine { S' with own := Own.perm (L := (v, d) :: (coll σ af ++ T)) ⟨fp ++ f0, .cons r r1, ?_, fun a m => ?_⟩ List.perm_middle.symm }
  · refine List.nodup_append.mpr ⟨n, n0, fun a m b m' e => ?_⟩
    subst e
    exact hd a m' (h a m).1
  · rcases List.mem_append.mp m with m | m
    · refine ⟨(h a m).2, ?_⟩
      cases e : B.H a with
      | none => exact .inr rfl
      | some o =>
        by_cases mm : B.M a
        · exact .inl mm
        · have := S.mod a o e mm
          rw [(h a m).1] at this; cases this
    · refine ⟨?_, (q0 a m).2⟩
      cases e : F' a with
      | none => rfl
      | some o =>
        rcases A.fr a (by rw [e]; simp) with z | z
        · exact absurd (q0 a m).1 z
        · exact absurd z (hd a m)
/-- a pure value stands twice -/
theorem Sta.dup {v : V} {d : D} (S : Sta Γ B F H σ af ((v, d) :: T)) (p : d.pure = true) : Sta Γ B F H σ af ((v, d) :: (v, d) :: T) := by
  obtain ⟨fp, r, n, q⟩ := S.own.perm List.perm_middle
  refine { S with own := Own.perm (L := (v, d) :: (v, d) :: (coll σ af ++ T)) ?_ ?_ }
  · cases r with
    | cons a t =>
      have e := a.len_pure p
      subst e
      exact ⟨_, .cons (fp := []) a (.cons a t), by simpa using n, fun x m => q x (by simpa using m)⟩
  · refine (List.perm_middle.trans (List.Perm.cons _ List.perm_middle)).symm
theorem Sta.rp {v : V} {d : D} (S : Sta Γ B F H σ af ((v, d) :: T)) : ∃ fp, Rp Γ F H v d fp := by
  obtain ⟨fp, r, n, q⟩ := S.own.perm List.perm_middle
  cases r with
  | cons a t => exact ⟨_, a⟩
/-- a slot's pure value -/
theorem Sta.get {x : Nat} {d : D} (S : Sta Γ B F H σ af T) (e : slot af x = some d) : ∃ v fp, σ[x]? = some (some v) ∧ Rp Γ F H v d fp := by
  obtain ⟨v, hv, S'⟩ := S.hide e
  obtain ⟨fp, r⟩ := S'.rp
  exact ⟨v, fp, hv, r⟩
theorem set_none_set {af : Fr} {x : Nat} {d : D} (e : slot af x = some d) : (af.set x none).set x (some d) = af := by
  have e' := slot_iff.mp e
  rw [List.set_set]
  apply List.ext_getElem?; intro i
  by_cases hi : x = i
  · subst hi
    rw [e', List.getElem?_set_self (List.getElem?_eq_some_iff.mp e').1]
  · rw [List.getElem?_set_ne hi]
theorem slot_lt {af : Fr} {x : Nat} {d : D} (e : slot af x = some d) : x < af.length := (List.getElem?_eq_some_iff.mp (slot_iff.mp e)).1
/-- the value of a slot, pure, as a temporary -/
theorem Sta.copy {x : Nat} {d : D} (S : Sta Γ B F H σ af T) (e : slot af x = some d) (p : d.pure = true) : ∃ v, σ[x]? = some (some v) ∧ Sta Γ B F H σ af ((v, d) :: T) := by
  obtain ⟨v, hv, S'⟩ := S.hide e
  have S2 := (S'.dup p).back (x := x) (by simp [slot_lt e]) hv
  rw [set_none_set e] at S2
  exact ⟨v, hv, S2⟩
/-- owned data are frozen -/
theorem Sta.freeze {v : V} {d : D} (S : Sta Γ B F H σ af ((v, d) :: T)) (p : d.frz.pure = true) : ∃ F', FLe F F' ∧ Sta Γ B F' H σ af ((v, d.frz) :: T) := by
  obtain ⟨fp, r, n, q⟩ := S.own.perm List.perm_middle
  cases r with
  | @cons _ _ f1 _ _ f2 a t =>
    have hle : FLe F (fun b => if b ∈ f1 then H b else F b) := fun b o e => by
      by_cases m : b ∈ f1
      · rw [(q b (List.mem_append_left _ m)).1] at e; cases e
      · show (if b ∈ f1 then H b else F b) = _
        rw [if_neg m]; exact e
    refine ⟨fun b => if b ∈ f1 then H b else F b, hle, fun b o e => ?_, fun b vs e => ?_, S.len, S.bnd, Own.perm (L := (v, d.frz) :: (coll σ af ++ T)) ⟨[] ++ f2, .cons (a.freeze hle.k p fun b m => if_pos m) (t.mono hle.k fun _ _ => rfl), ?_, fun b m => ?_⟩ List.perm_middle.symm, S.mod, S.mono.trans hle, fun b h => ?_, S.tabs, S.mt, fun b i => ?_⟩
    · by_cases m : b ∈ f1
      · have e : (if b ∈ f1 then H b else F b) = some o := e
        rw [if_pos m] at e; exact e
      · have e : (if b ∈ f1 then H b else F b) = some o := e
        rw [if_neg m] at e; exact S.sub b o e
    · show (if b ∈ f1 then H b else F b) = _
      by_cases m : b ∈ f1
      · rw [if_pos m]; exact e
      · rw [if_neg m]; exact S.tup b vs e
    · exact (List.nodup_append.mp n).2.1
    · have m : b ∈ f2 := by simpa using m
      refine ⟨?_, (q b (List.mem_append_right _ m)).2⟩
      show (if b ∈ f1 then H b else F b) = none
      rw [if_neg fun m' => (List.nodup_append.mp n).2.2 b m' b m rfl]
      exact (q b (List.mem_append_right _ m)).1
    · by_cases m : b ∈ f1
      · exact .inr ((q b (List.mem_append_left _ m)).2.imp id loose_none)
      · have h : (if b ∈ f1 then H b else F b) ≠ none := h
        rw [if_neg m] at h
        exact S.frF b h
    · show (if b ∈ f1 then H b else F b) = none
      rw [if_neg fun m => by
        obtain ⟨o, e, k⟩ := a.kind b m
        exact tab_notOwn S.tabs i e k]
      exact S.nt b i
end
end VI

end

section
/-! ViP: places: the way from a tree to a part of it. -/
namespace VI
open PySem L2

theorem sv_inj {x y : List Char} (h : sv x = sv y) : x = y := by
  have h1 : (x.map Char.toNat).toArray = (y.map Char.toNat).toArray := congrArg Str.cps h
  have h2 : x.map Char.toNat = y.map Char.toNat := by simpa using h1
  exact List.map_inj_right (fun a b e => Char.toNat_inj.mp e) |>.mp h2
theorem ofString_sv (s : String) : Str.ofString s = sv s.toList := Str.ofString_eq_toList s
theorem ofString_inj {x y : String} (h : Str.ofString x = Str.ofString y) : x = y := by
  rw [ofString_sv, ofString_sv] at h
  exact String.toList_inj.mp (sv_inj h)

theorem kD_eq {k k' : D} {a b : L2.Key} (h : kD k = some a) (h' : kD k' = some b) : keq k' k = decide (b = a) := by
  cases k <;> simp only [kD, reduceCtorEq, Option.some.injEq] at h <;> cases k' <;> simp only [kD, reduceCtorEq, Option.some.injEq] at h' <;> subst h <;> subst h' <;> simp only [keq]
  · congr 1; simp
  · simp
  · simp
  · congr 1
    simp only [Sum.inr.injEq, eq_iff_iff]
    exact ⟨fun e => by rw [e], fun e => sv_inj e⟩
theorem kDs_eq : ∀ {xs ys : List D} {a b : List L2.Key}, kDs xs = some a → kDs ys = some b → skeqL ys xs = decide (b = a)
  | [], [], a, b, h, h' => by simp [kDs] at h h'; subst h; subst h'; simp [skeqL]
  | [], y :: ys, a, b, h, h' => by
    simp only [kDs, Option.some.injEq] at h; subst h
    simp only [kDs] at h'
    split at h' <;> simp at h'
    subst h'; simp [skeqL]
  | x :: xs, [], a, b, h, h' => by
    simp only [kDs, Option.some.injEq] at h'; subst h'
    simp only [kDs] at h
    split at h <;> simp at h
    subst h; simp [skeqL]
  | x :: xs, y :: ys, a, b, h, h' => by
    simp only [kDs] at h h'
    split at h <;> simp at h
    split at h' <;> simp at h'
    rename_i _ _ k ks e1 e2 _ _ k' ks' e3 e4
    subst h; subst h'
    have q := kDs_eq e2 e4
    have q1 := kD_eq e1 e3
    have q2 : skeq y x = keq y x := by
      cases x <;> simp only [kD, reduceCtorEq] at e1 <;> cases y <;> simp only [kD, reduceCtorEq] at e3 <;> simp only [skeq, keq]
    rw [skeqL, q, q2, q1]
    by_cases h1 : k' = k <;> by_cases h2 : ks' = ks <;> simp [h1, h2]
theorem tD_eq {k k' : D} {a b : List L2.Key} (h : tD k = some a) (h' : tD k' = some b) : keq k' k = decide (b = a) := by
  cases k <;> simp only [tD, reduceCtorEq] at h
  cases k' <;> simp only [tD, reduceCtorEq] at h'
  simp only [keq]
  exact kDs_eq h h'

theorem get_pure : ∀ {p : List Sp1} {d e : D}, d.pure = true → d.get p = some e → e.pure = true
  | [], d, e, h, g => by simp only [D.get, Option.some.injEq] at g; subst g; exact h
  | q :: p, d, e, h, g => by
    simp only [D.get] at g
    split at g
    · rename_i x hx
      refine get_pure (p := p) ?_ g
      have key : ∀ {xs : List D} {n : Nat}, pureL xs = true → xs[n]? = some x → x.pure = true := fun {xs n} hp hn => by
        induction xs generalizing n with
        | nil => simp at hn
        | cons y ys ih =>
          simp only [pureL, Bool.and_eq_true] at hp
          cases n with
          | zero => simp at hn; subst hn; exact hp.1
          | succ n => exact ih hp.2 (by simpa using hn)
      have key2 : ∀ {ks vs : List D} {k : D}, pureL vs = true → dfind k ks vs = some x → x.pure = true := fun {ks vs k} hp hn => by
        induction ks generalizing vs with
        | nil => simp [dfind] at hn
        | cons k' ks ih =>
          cases vs with
          | nil => simp [dfind] at hn
          | cons v vs =>
            simp only [pureL, Bool.and_eq_true] at hp
            simp only [dfind] at hn
            split at hn
            · simp at hn; subst hn; exact hp.1
            · exact ih hp.2 hn
      cases d <;> cases q <;> simp only [D.step, reduceCtorEq] at hx
      · exact key (by simpa [D.pure] using h) hx
      · exact key (by simp [D.pure] at h; exact h.2) hx
      · exact key2 (by simp [D.pure] at h; exact h.2) hx
      · simp [D.pure] at h
      · exact key (by simpa [D.pure] using h) hx
      · exact key (by simpa [D.pure] using h) hx
    · cases g

theorem dfind_pure : ∀ {ks vs : List D} {k x : D}, pureL vs = true → dfind k ks vs = some x → x.pure = true
  | [], _, _, _, _, h => by simp [dfind] at h
  | _ :: _, [], _, _, _, h => by simp [dfind] at h
  | k' :: ks, v :: vs, k, x, hp, hn => by
    simp only [pureL, Bool.and_eq_true] at hp
    simp only [dfind] at hn
    split at hn
    · simp at hn; subst hn; exact hp.1
    · exact dfind_pure hp.2 hn
theorem skeq_none {x y : D} {a : L2.Key} (h : kD y = some a) (h' : kD x = none) : skeq y x = false := by
  cases y <;> simp only [kD, reduceCtorEq] at h <;> cases x <;> simp only [kD, reduceCtorEq] at h' <;> rfl
theorem keq_none {x y : D} {a : L2.Key} (h : kD y = some a) (h' : kD x = none) : keq y x = false := by
  cases y <;> simp only [kD, reduceCtorEq] at h <;> cases x <;> simp only [kD, reduceCtorEq] at h' <;> rfl
theorem skeqL_none : ∀ {xs ys : List D} {a : List L2.Key}, kDs ys = some a → kDs xs = none → skeqL ys xs = false
  | [], ys, a, h1, h2 => by simp [kDs] at h2
  | x :: xs, [], a, h1, h2 => by simp [skeqL]
  | x :: xs, y :: ys, a, h1, h2 => by
    simp only [kDs] at h1 h2
    cases e1 : kD y with
    | none => rw [e1] at h1; simp at h1
    | some k0 =>
      rw [e1] at h1
      cases e2 : kDs ys with
      | none => rw [e2] at h1; simp at h1
      | some ks0 =>
        cases c : kD x with
        | none => simp [skeqL, skeq_none e1 c]
        | some kx =>
          rw [c] at h2
          cases c2 : kDs xs with
          | none => simp [skeqL, skeqL_none e2 c2]
          | some z => rw [c2] at h2; simp at h2
theorem tkeq_none {x y : D} {a : List L2.Key} (h : tD y = some a) (h' : tD x = none) : keq y x = false := by
  cases y <;> simp only [tD, reduceCtorEq] at h
  cases x <;> simp only [tD, reduceCtorEq] at h' <;> try rfl
  exact skeqL_none h h'
theorem kD_of_find : ∀ {ks vs : List D} {kvs : List (L2.Key × V)} {k x : D}, ks.map kD = kvs.map (fun p => some p.1) → dfind k ks vs = some x → ∃ y, kD k = some y
  | [], _, _, _, _, _, h => by simp [dfind] at h
  | _ :: _, [], _, _, _, _, h => by simp [dfind] at h
  | _ :: _, _ :: _, [], _, _, h, _ => by simp at h
  | k' :: ks, v :: vs, p :: kvs, k, x, h, g => by
    simp only [List.map_cons, List.cons.injEq] at h
    cases c : kD k with
    | some y => exact ⟨y, rfl⟩
    | none =>
      simp only [dfind, keq_none h.1 c] at g
      obtain ⟨y, hy⟩ := kD_of_find h.2 g
      rw [c] at hy; cases hy
theorem tD_of_find : ∀ {ks vs : List D} {kvs : List (List L2.Key × V)} {k x : D}, ks.map tD = kvs.map (fun p => some p.1) → dfind k ks vs = some x → ∃ y, tD k = some y
  | [], _, _, _, _, _, h => by simp [dfind] at h
  | _ :: _, [], _, _, _, _, h => by simp [dfind] at h
  | _ :: _, _ :: _, [], _, _, h, _ => by simp at h
  | k' :: ks, v :: vs, p :: kvs, k, x, h, g => by
    simp only [List.map_cons, List.cons.injEq] at h
    cases c : tD k with
    | some y => exact ⟨y, rfl⟩
    | none =>
      simp only [dfind, tkeq_none h.1 c] at g
      obtain ⟨y, hy⟩ := tD_of_find h.2 g
      rw [c] at hy; cases hy
/-- the way of the values along a place -/
inductive Pth (Γ : Wd) (F H : Hp) : V → List Sp1 → V → Prop
  | nil (v : V) : Pth Γ F H v [] v
  | tup {a : Addr} {vs : List V} {n : Nat} {v w : V} {p : List Sp1} : F a = some (.tup vs) → vs[n]? = some v → Pth Γ F H v p w → Pth Γ F H (.ref a) (.ix n :: p) w
  | lst {a : Addr} {vs : List V} {n : Nat} {v w : V} {p : List Sp1} : H a = some (.lst vs) → vs[n]? = some v → Pth Γ F H v p w → Pth Γ F H (.ref a) (.ix n :: p) w
  | dicK {a : Addr} {kvs : List (L2.Key × V)} {k : D} {y : L2.Key} {v w : V} {p : List Sp1} : H a = some (.dK kvs) → kD k = some y → valV kvs y = some v → Pth Γ F H v p w → Pth Γ F H (.ref a) (.ky k :: p) w
  | dicT {a : Addr} {kvs : List (List L2.Key × V)} {k : D} {y : List L2.Key} {v w : V} {p : List Sp1} : H a = some (.dT kvs) → tD k = some y → valV kvs y = some v → Pth Γ F H v p w → Pth Γ F H (.ref a) (.ky k :: p) w
  | obj {a C dx : Addr} {fs : List (Str × V)} {f : String} {v w : V} {p : List Sp1} : H a = some (.ins C dx fs) → fs.lookup (Str.ofString f) = some v → Pth Γ F H v p w → Pth Γ F H (.ref a) (.fd f :: p) w

section
variable {Γ : Wd} {F F' H H' : Hp}
theorem tup_lst (f : FLe F H) {a : Addr} {xs ys : List V} (h : F a = some (.tup xs)) (h' : H a = some (.lst ys)) : False := by
  rw [f _ _ h] at h'; cases h'
theorem Pth.mono (f : KLe F F') (g : HLe H H') {v w : V} {p : List Sp1} (h : Pth Γ F H v p w) : Pth Γ F' H' v p w := by
  induction h with
  | nil v => exact .nil v
  | tup e n _ ih => exact .tup (f.tup e) n ih
  | lst e n _ ih => exact .lst (g _ _ e fun _ z => nomatch z) n ih
  | dicK e n l _ ih => exact .dicK (g _ _ e fun _ z => nomatch z) n l ih
  | dicT e n l _ ih => exact .dicT (g _ _ e fun _ z => nomatch z) n l ih
  | obj e n _ ih => exact .obj (g _ _ e fun _ z => nomatch z) n ih
theorem Pth.fn (f : FLe F H) {v w : V} {p : List Sp1} (h : Pth Γ F H v p w) : ∀ {w' : V}, Pth Γ F H v p w' → w = w' := by
  induction h with
  | nil v => intro w' h'; cases h'; rfl
  | tup e n _ ih =>
    intro w' h'
    cases h' with
    | tup e' n' t => rw [e] at e'; cases e'; rw [n] at n'; cases n'; exact ih t
    | lst e' _ _ => exact (tup_lst f e e').elim
  | lst e n _ ih =>
    intro w' h'
    cases h' with
    | tup e' n' t => exact (tup_lst f e' e).elim
    | lst e' n' t => rw [e] at e'; cases e'; rw [n] at n'; cases n'; exact ih t
  | dicK e n l _ ih =>
    intro w' h'
    cases h' with
    | dicK e' n' l' t => rw [e] at e'; cases e'; rw [n] at n'; cases n'; rw [l] at l'; cases l'; exact ih t
    | dicT e' _ _ _ => rw [e] at e'; cases e'
  | dicT e n l _ ih =>
    intro w' h'
    cases h' with
    | dicT e' n' l' t => rw [e] at e'; cases e'; rw [n] at n'; cases n'; rw [l] at l'; cases l'; exact ih t
    | dicK e' _ _ _ => rw [e] at e'; cases e'
  | obj e n _ ih =>
    intro w' h'
    cases h' with
    | obj e' n' t => rw [e] at e'; cases e'; rw [n] at n'; cases n'; exact ih t
theorem Pth.snoc {v w : V} {p q : List Sp1} {u : V} (h : Pth Γ F H v p w) : Pth Γ F H w q u → Pth Γ F H v (p ++ q) u := by
  induction h with
  | nil v => intro h'; exact h'
  | tup e n _ ih => intro h'; exact .tup e n (ih h')
  | lst e n _ ih => intro h'; exact .lst e n (ih h')
  | dicK e n l _ ih => intro h'; exact .dicK e n l (ih h')
  | dicT e n l _ ih => intro h'; exact .dicT e n l (ih h')
  | obj e n _ ih => intro h'; exact .obj e n (ih h')

theorem RpL.focus : ∀ {vs : List V} {ds : List D} {fp : List Addr} {n : Nat} {d : D}, RpL Γ F H vs ds fp → ds[n]? = some d →
    ∃ v f1 f2, vs[n]? = some v ∧ Rp Γ F H v d f1 ∧ fp.Perm (f1 ++ f2) ∧
      ∀ (F' H' : Hp) (d' : D) (f' : List Addr), KLe F F' → (∀ a ∈ f2, H' a = H a) → Rp Γ F' H' v d' f' → ∃ fq, fq.Perm (f' ++ f2) ∧ RpL Γ F' H' vs (ds.set n d') fq
  | _, [], _, n, d, _, e => by simp at e
  | _, x :: xs, _, n, d, .cons (v := v0) (fp := fa) (vs := vs0) (fq := fb) a r, e => by
    cases n with
    | zero =>
      simp at e; subst e
      exact ⟨v0, fa, fb, rfl, a, .refl _, fun F' H' d' f' hF hk h' => ⟨f' ++ fb, .refl _, .cons h' (r.mono hF hk)⟩⟩
    | succ n =>
      obtain ⟨v, f1, f2, h1, h2, h3, h4⟩ := RpL.focus r (n := n) (by simpa using e)
      refine ⟨v, f1, fa ++ f2, by simpa using h1, h2, ?_, fun F' H' d' f' hF hk h' => ?_⟩
      · refine (h3.append_left fa).trans ?_
        rw [← List.append_assoc, ← List.append_assoc]
        exact List.perm_append_comm.append_right _
      · obtain ⟨fq, p, t⟩ := h4 F' H' d' f' hF (fun a m => hk a (List.mem_append_right _ m)) h'
        refine ⟨fa ++ fq, ?_, .cons (a.mono hF fun b m => hk b (List.mem_append_left _ m)) t⟩
        refine (p.append_left fa).trans ?_
        rw [← List.append_assoc, ← List.append_assoc]
        exact List.perm_append_comm.append_right _
/-- an entry of a dict by its number -/
theorem dfind_at {κ : Type} [DecidableEq κ] (f : D → Option κ) (hf : ∀ {k k' : D} {a b : κ}, f k = some a → f k' = some b → keq k' k = decide (b = a)) :
    ∀ {ks vs : List D} {kvs : List (κ × V)} {k e : D} {y : κ}, ks.map f = kvs.map (fun p => some p.1) → f k = some y → dfind k ks vs = some e →
      ∃ n, vs[n]? = some e ∧ (∀ x, dset1 k x ks vs = vs.set n x) ∧ dputK k ks = ks ∧ valV kvs y = (kvs.map (·.2))[n]?
  | [], _, _, _, _, _, _, _, h => by simp [dfind] at h
  | _ :: _, [], _, _, _, _, _, _, h => by simp [dfind] at h
  | k' :: ks, v :: vs, [], _, _, _, h, _, _ => by simp at h
  | k' :: ks, v :: vs, (y', w) :: kvs, k, e, y, h, hk, g => by
    simp only [List.map_cons, List.cons.injEq] at h
    have q := hf hk h.1
    simp only [dfind] at g
    by_cases c : y' = y
    · rw [q, decide_eq_true c, if_pos rfl] at g
      refine ⟨0, by simpa using g, fun x => by simp [dset1, q, c], by simp [dputK, q, c], ?_⟩
      rw [valV_pos c]; rfl
    · rw [q, decide_eq_false c] at g
      simp only [Bool.false_eq_true, if_false] at g
      obtain ⟨n, h1, h2, h3, h4⟩ := dfind_at f hf (k := k) (y := y) h.2 hk g
      refine ⟨n + 1, by simpa using h1, fun x => by simp [dset1, q, c, h2], by simp [dputK, q, c, h3], ?_⟩
      rw [valV_neg c, h4]; rfl
theorem ofind_at : ∀ {ns : List String} {vs : List D} {fs : List (Str × V)} {f : String} {e : D}, fs.map (·.1) = names ns → ofind f ns vs = some e →
      ∃ n, vs[n]? = some e ∧ (∀ x, oputV f x ns vs = vs.set n x) ∧ oputN f ns = ns ∧ fs.lookup (Str.ofString f) = (fs.map (·.2))[n]?
  | [], _, _, _, _, _, h => by simp [ofind] at h
  | _ :: _, [], _, _, _, _, h => by simp [ofind] at h
  | _ :: _, _ :: _, [], _, _, h, _ => by simp [names] at h
  | n' :: ns, v :: vs, (y', w) :: fs, f, e, h, g => by
    simp only [List.map_cons, names, List.cons.injEq] at h
    simp only [ofind] at g
    by_cases c : n' = f
    · subst c
      rw [if_pos rfl] at g
      refine ⟨0, by simpa using g, fun x => by simp [oputV], by simp [oputN], ?_⟩
      simp [List.lookup, h.1]
    · rw [if_neg c] at g
      obtain ⟨n, h1, h2, h3, h4⟩ := ofind_at (f := f) (fs := fs) h.2 g
      refine ⟨n + 1, by simpa using h1, fun x => by simp [oputV, c, h2], by simp [oputN, c, h3], ?_⟩
      have : (Str.ofString f == y') = false := by
        rw [h.1]; exact beq_eq_false_iff_ne.mpr fun z => c (ofString_inj z).symm
      simp [List.lookup, this, h4]
theorem pureL_at : ∀ {xs : List D} {n : Nat} {x : D}, pureL xs = true → xs[n]? = some x → x.pure = true
  | [], _, _, _, h => by simp at h
  | y :: ys, 0, x, hp, h => by
    simp only [pureL, Bool.and_eq_true] at hp
    simp at h; subst h; exact hp.1
  | y :: ys, n + 1, x, hp, h => by
    simp only [pureL, Bool.and_eq_true] at hp
    exact pureL_at (n := n) hp.2 (by simpa using h)
/-- a part of a tree, and the tree with another part at its place -/
theorem Rp.focus : ∀ {p : List Sp1} {v : V} {d e : D} {fp : List Addr}, Rp Γ F H v d fp → d.get p = some e → e.pure = false →
    ∃ w f1 f2, Pth Γ F H v p w ∧ Rp Γ F H w e f1 ∧ fp.Perm (f1 ++ f2) ∧
      ∀ (F' H' : Hp) (e' : D) (f' : List Addr), KLe F F' → (∀ a ∈ f2, H' a = H a) → Rp Γ F' H' w e' f' → ∃ fq, fq.Perm (f' ++ f2) ∧ Rp Γ F' H' v (d.put p e') fq
  | [], v, d, e, fp, h, g, hp => by
    simp only [D.get, Option.some.injEq] at g; subst g
    exact ⟨v, fp, [], .nil v, h, by simp, fun F' H' e' f' _ _ h' => ⟨f', by simp, h'⟩⟩
  | q :: p, v, d, e, fp, h, g, hp => by
    simp only [D.get] at g
    cases hs : d.step q with
    | none => rw [hs] at g; cases g
    | some x =>
      rw [hs] at g
      have g : x.get p = some e := g
      have hx : x.pure = false := by
        cases c : x.pure with
        | false => rfl
        | true => rw [get_pure c g] at hp; cases hp
      have hput : ∀ e', d.put (q :: p) e' = d.put1 q (x.put p e') := fun e' => by simp only [D.put, hs]
      have row : ∀ {vs : List V} {ds : List D} {f0 : List Addr} {n : Nat}, RpL Γ F H vs ds f0 → ds[n]? = some x → ∃ w v1 f1 f2, vs[n]? = some v1 ∧ Pth Γ F H v1 p w ∧ Rp Γ F H w e f1 ∧ f0.Perm (f1 ++ f2) ∧
          ∀ (F' H' : Hp) (e' : D) (f' : List Addr), KLe F F' → (∀ a ∈ f2, H' a = H a) → Rp Γ F' H' w e' f' → ∃ fq, fq.Perm (f' ++ f2) ∧ RpL Γ F' H' vs (ds.set n (x.put p e')) fq := fun {vs ds f0 n} r hn => by
        obtain ⟨v1, g1, g2, a1, a2, a3, a4⟩ := RpL.focus r hn
        obtain ⟨w, f1, f2, b1, b2, b3, b4⟩ := Rp.focus (p := p) a2 g hp
        refine ⟨w, v1, f1, f2 ++ g2, a1, b1, b2, ?_, fun F' H' e' f' hF hk h' => ?_⟩
        · refine a3.trans ((b3.append_right _).trans ?_)
          rw [List.append_assoc]
        · obtain ⟨fq, c1, c2⟩ := b4 F' H' e' f' hF (fun a m => hk a (List.mem_append_left _ m)) h'
          obtain ⟨fr, c3, c4⟩ := a4 F' H' _ fq hF (fun a m => hk a (List.mem_append_right _ m)) c2
          refine ⟨fr, c3.trans ((c1.append_right _).trans ?_), c4⟩
          rw [List.append_assoc]
      have own : ∀ {a : Addr} {f0 f1 f2 : List Addr}, f0.Perm (f1 ++ f2) → (a :: f0).Perm (f1 ++ (a :: f2)) := fun {a f0 f1 f2} h => (h.cons a).trans List.perm_middle.symm
      have own' : ∀ {a : Addr} {fq f' f2 : List Addr}, fq.Perm (f' ++ f2) → (a :: fq).Perm (f' ++ (a :: f2)) := fun {a fq f' f2} h => (h.cons a).trans List.perm_middle.symm
      cases h with
      | non => cases q <;> simp [D.step] at hs
      | bl b => cases q <;> simp [D.step] at hs
      | int i => cases q <;> simp [D.step] at hs
      | str s => cases q <;> simp [D.step] at hs
      | rep s => cases q <;> simp [D.step] at hs
      | hole v => cases q <;> simp [D.step] at hs
      | exn _ _ _ _ _ => cases q <;> simp [D.step] at hs
      | tup e0 r =>
        cases q <;> simp only [D.step, reduceCtorEq] at hs
        obtain ⟨w, v1, f1, f2, a1, a2, a3, a4, a5⟩ := row r hs
        refine ⟨w, f1, f2, .tup e0 a1 a2, a3, a4, fun F' H' e' f' hF hk h' => ?_⟩
        obtain ⟨fq, c1, c2⟩ := a5 F' H' e' f' hF hk h'
        exact ⟨fq, c1, by rw [hput]; exact .tup (hF.tup e0) c2⟩
      | ktup e0 r pu =>
        cases q <;> simp only [D.step, reduceCtorEq] at hs
        exact absurd (pureL_at pu hs) (by rw [hx]; decide)
      | scr e0 r pu =>
        cases q <;> simp only [D.step, reduceCtorEq] at hs
        exact absurd (pureL_at pu hs) (by rw [hx]; decide)
      | lstF e0 r pu =>
        cases q <;> simp only [D.step, reduceCtorEq] at hs
        exact absurd (pureL_at pu hs) (by rw [hx]; decide)
      | lstO e0 r =>
        cases q <;> simp only [D.step, reduceCtorEq] at hs
        obtain ⟨w, v1, f1, f2, a1, a2, a3, a4, a5⟩ := row r hs
        refine ⟨w, f1, _ :: f2, .lst e0 a1 a2, a3, own a4, fun F' H' e' f' hF hk h' => ?_⟩
        obtain ⟨fq, c1, c2⟩ := a5 F' H' e' f' hF (fun b m => hk b (List.mem_cons_of_mem _ m)) h'
        exact ⟨_, own' c1, by rw [hput]; exact .lstO ((hk _ (List.mem_cons_self ..)).trans e0) c2⟩
      | dicF e0 g0 r pu =>
        cases q <;> simp only [D.step, reduceCtorEq] at hs
        exact absurd (dfind_pure pu hs) (by rw [hx]; decide)
      | dicFT e0 g0 r pu =>
        cases q <;> simp only [D.step, reduceCtorEq] at hs
        exact absurd (dfind_pure pu hs) (by rw [hx]; decide)
      | dicO e0 g0 r =>
        rename_i a kvs ks vs f0
        cases q with
        | ky k =>
          simp only [D.step] at hs
          have hk : ∃ y, kD k = some y := kD_of_find g0.1 hs
          obtain ⟨y, hy⟩ := hk
          obtain ⟨n, b1, b2, b3, b4⟩ := dfind_at kD kD_eq g0.1 hy hs
          obtain ⟨w, v1, f1, f2, a1, a2, a3, a4, a5⟩ := row r b1
          refine ⟨w, f1, _ :: f2, .dicK e0 hy (b4.trans a1) a2, a3, own a4, fun F' H' e' f' hF hk h' => ?_⟩
          obtain ⟨fq, c1, c2⟩ := a5 F' H' e' f' hF (fun b m => hk b (List.mem_cons_of_mem _ m)) h'
          refine ⟨_, own' c1, ?_⟩
          rw [hput]
          show Rp Γ F' H' _ (.dic true false ks (dset1 k _ ks vs)) _
          rw [b2]
          exact .dicO ((hk _ (List.mem_cons_self ..)).trans e0) g0 c2
        | ix n => simp [D.step] at hs
        | fd f => simp [D.step] at hs
      | dicOT e0 g0 r =>
        rename_i a kvs ks vs f0
        cases q with
        | ky k =>
          simp only [D.step] at hs
          have hk : ∃ y, tD k = some y := tD_of_find g0.1 hs
          obtain ⟨y, hy⟩ := hk
          obtain ⟨n, b1, b2, b3, b4⟩ := dfind_at tD tD_eq g0.1 hy hs
          obtain ⟨w, v1, f1, f2, a1, a2, a3, a4, a5⟩ := row r b1
          refine ⟨w, f1, _ :: f2, .dicT e0 hy (b4.trans a1) a2, a3, own a4, fun F' H' e' f' hF hk h' => ?_⟩
          obtain ⟨fq, c1, c2⟩ := a5 F' H' e' f' hF (fun b m => hk b (List.mem_cons_of_mem _ m)) h'
          refine ⟨_, own' c1, ?_⟩
          rw [hput]
          show Rp Γ F' H' _ (.dic true true ks (dset1 k _ ks vs)) _
          rw [b2]
          exact .dicOT ((hk _ (List.mem_cons_self ..)).trans e0) g0 c2
        | ix n => simp [D.step] at hs
        | fd f => simp [D.step] at hs
      | obj e0 ec g0 r =>
        rename_i a C dx c fs ns vs f0
        cases q with
        | fd f =>
          simp only [D.step] at hs
          obtain ⟨n, b1, b2, b3, b4⟩ := ofind_at g0 hs
          obtain ⟨w, v1, f1, f2, a1, a2, a3, a4, a5⟩ := row r b1
          refine ⟨w, f1, _ :: f2, .obj e0 (b4.trans a1) a2, a3, own a4, fun F' H' e' f' hF hk h' => ?_⟩
          obtain ⟨fq, c1, c2⟩ := a5 F' H' e' f' hF (fun b m => hk b (List.mem_cons_of_mem _ m)) h'
          refine ⟨_, own' c1, ?_⟩
          rw [hput]
          show Rp Γ F' H' _ (.obj c ns (oputV f _ ns vs)) _
          rw [b2]
          exact .obj ((hk _ (List.mem_cons_self ..)).trans e0) ec g0 c2
        | ix n => simp [D.step] at hs
        | ky k => simp [D.step] at hs
end
end VI

end

section
/-! ViO: the operators on data. -/
namespace VI
open PySem L2 PyProof.Rows

/-- a heap with its frozen part -/
structure Fz (F H : Hp) : Prop where
  sub : FLe F H
  tup : ∀ a vs, H a = some (.tup vs) → F a = some (.tup vs)
theorem Sta.fz {Γ : Wd} {B : Bd} {F H : Hp} {σ : L2.St} {af : Fr} {T : List (V × D)} (S : Sta Γ B F H σ af T) : Fz F H := ⟨S.sub, S.tup⟩
section
variable {Γ : Wd} {F H : Hp}
theorem Fz.refl (z : Fz F H) : Alloc F H F H := .refl z.sub z.tup
theorem alloc_lst (z : Fz F H) {p : Addr} {vs : List V} (hp : H p = none) : Alloc F H F (upd H p (.lst vs)) where
  same := fun a o e => by rw [upd_ne (ne_of_none e hp)]; exact e
  le := .refl _
  sub := fun a o e => by rw [upd_ne (ne_of_none (z.sub a o e) hp)]; exact z.sub a o e
  tup := fun a ws e => by
    by_cases h : a = p
    · subst h; rw [upd_same] at e; cases e
    · rw [upd_ne h] at e; exact z.tup a ws e
  fr := fun a h => .inl h
theorem alloc_dK (z : Fz F H) {p : Addr} {kvs : List (L2.Key × V)} (hp : H p = none) : Alloc F H F (upd H p (.dK kvs)) where
  same := fun a o e => by rw [upd_ne (ne_of_none e hp)]; exact e
  le := .refl _
  sub := fun a o e => by rw [upd_ne (ne_of_none (z.sub a o e) hp)]; exact z.sub a o e
  tup := fun a ws e => by
    by_cases h : a = p
    · subst h; rw [upd_same] at e; cases e
    · rw [upd_ne h] at e; exact z.tup a ws e
  fr := fun a h => .inl h
theorem alloc_tup (z : Fz F H) {p : Addr} {vs : List V} (hp : H p = none) : Alloc F H (upd F p (.tup vs)) (upd H p (.tup vs)) where
  same := fun a o e => by rw [upd_ne (ne_of_none e hp)]; exact e
  le := fun a o e => by rw [upd_ne (ne_of_none (z.sub a o e) hp)]; exact e
  sub := fun a o e => by
    by_cases h : a = p
    · subst h; rw [upd_same] at e ⊢; exact e
    · rw [upd_ne h] at e ⊢; exact z.sub a o e
  tup := fun a ws e => by
    by_cases h : a = p
    · subst h; rw [upd_same] at e ⊢; exact e
    · rw [upd_ne h] at e ⊢; exact z.tup a ws e
  fr := fun a h => by
    by_cases h' : a = p
    · subst h'; exact .inr hp
    · rw [upd_ne h'] at h; exact .inl h
/-- a pure value that stands already -/
theorem NewV.old {d : D} {Q : V → Hp → Prop} (n : NewV Γ F H d Q) (z : Fz F H) {v : V} {fp : List Addr} (r : Rp Γ F H v d fp) (p : d.pure = true) : Q v H := by
  have e := r.len_pure p
  subst e
  exact n v F H [] z.refl r List.nodup_nil (fun a m => absurd m (by simp))
theorem NewV.lst {ds : List D} {Q : V → Hp → Prop} (n : NewV Γ F H (.lst true ds) Q) (z : Fz F H) {vs : List V} {fp : List Addr} (r : RpL Γ F H vs ds fp) (pu : pureL ds = true) {p : Addr} (hp : H p = none) : Q (.ref p) (upd H p (.lst vs)) := by
  have A := alloc_lst (vs := vs) z hp
  refine n (.ref p) F (upd H p (.lst vs)) [p] A (.lstO upd_same (r.any A.le.k pu)) (by simp) fun a m => ?_
  rw [List.mem_singleton] at m
  subst m
  refine ⟨hp, ?_⟩
  cases q : F a with
  | none => rfl
  | some o => rw [z.sub a o q] at hp; cases hp
theorem NewV.tup {ds : List D} {Q : V → Hp → Prop} (n : NewV Γ F H (.tup ds) Q) (z : Fz F H) {vs : List V} {fp : List Addr} (r : RpL Γ F H vs ds fp) (pu : pureL ds = true) {p : Addr} (hp : H p = none) : Q (.ref p) (upd H p (.tup vs)) := by
  have A := alloc_tup (vs := vs) z hp
  exact n (.ref p) _ (upd H p (.tup vs)) [] A (.tup upd_same (r.any A.le.k pu)) (by simp) fun a m => absurd m (by simp)
theorem Rp.tupS {v : V} {ds : List D} {fp : List Addr} (z : Fz F H) (h : Rp Γ F H v (.tup ds) fp) : ∃ a vs fq, v = .ref a ∧ SqT Γ.K H a vs ∧ RpL Γ F H vs ds fq := by
  cases h with
  | tup e r => exact ⟨_, _, _, rfl, .inl (.inl (z.sub _ _ e)), r⟩
theorem Rp.ktupS {v : V} {ds : List D} {fp : List Addr} (h : Rp Γ F H v (.ktup ds) fp) : ∃ a vs fq, v = .ref a ∧ SqT Γ.K H a vs ∧ RpL Γ F H vs ds fq := by
  cases h with
  | ktup e r _ => exact ⟨_, _, _, rfl, .inr e, r⟩
theorem Rp.lstS {v : V} {ds : List D} {fp : List Addr} {m : Bool} (z : Fz F H) (h : Rp Γ F H v (.lst m ds) fp) : ∃ a vs fq, v = .ref a ∧ H a = some (.lst vs) ∧ RpL Γ F H vs ds fq := by
  cases h with
  | lstF e r _ => exact ⟨_, _, _, rfl, z.sub _ _ e, r⟩
  | lstO e r => exact ⟨_, _, _, rfl, e, r⟩
theorem Rp.scrS {v : V} {ds : List D} {fp : List Addr} (z : Fz F H) (h : Rp Γ F H v (.scr ds) fp) : ∃ a vs fq, v = .ref a ∧ SqL Γ.K H a vs ∧ RpL Γ F H vs ds fq := by
  cases h with
  | scr e r _ => exact ⟨_, _, _, rfl, z.sub.rd.sqL e, r⟩
theorem Rp.intS {v : V} {i : Int} {fp : List Addr} (h : Rp Γ F H v (.int i) fp) : v = .int i := by cases h; rfl
theorem Rp.blS {v : V} {i : Bool} {fp : List Addr} (h : Rp Γ F H v (.bl i) fp) : v = .bl i := by cases h; rfl
theorem Rp.strS {v : V} {i : List Char} {fp : List Addr} (h : Rp Γ F H v (.str i) fp) : v = .str (sv i) := by cases h; rfl
theorem Rp.nonS {v : V} {fp : List Addr} (h : Rp Γ F H v .non fp) : v = .non := by cases h; rfl
theorem Rp.repS {v : V} {i : PyData} {fp : List Addr} (h : Rp Γ F H v (.rep i) fp) : v = .str i.shown := by cases h; rfl
theorem NewV.int {i : Int} {Q : V → Hp → Prop} (n : NewV Γ F H (.int i) Q) (z : Fz F H) : Q (.int i) H := n.old z (.int i) rfl
theorem NewV.bl {i : Bool} {Q : V → Hp → Prop} (n : NewV Γ F H (.bl i) Q) (z : Fz F H) : Q (.bl i) H := n.old z (.bl i) rfl
theorem NewV.str {i : List Char} {Q : V → Hp → Prop} (n : NewV Γ F H (.str i) Q) (z : Fz F H) : Q (.str (sv i)) H := n.old z (.str i) rfl
end
theorem sv_append (x y : List Char) : sv x ++ sv y = sv (x ++ y) := by
  show (⟨(x.map Char.toNat).toArray ++ (y.map Char.toNat).toArray⟩ : Str) = ⟨((x ++ y).map Char.toNat).toArray⟩
  simp
theorem sv_length (x : List Char) : (sv x).length = x.length := by
  show (x.map Char.toNat).toArray.size = x.length
  simp
theorem line_eq : line = sizeLine := by rw [sizeLine_eq]; rfl
theorem pureL_append : ∀ {xs ys : List D}, pureL xs = true → pureL ys = true → pureL (xs ++ ys) = true
  | [], _, _, h => h
  | x :: xs, ys, h, h' => by
    simp only [pureL, Bool.and_eq_true] at h
    show (x.pure && pureL (xs ++ ys)) = true
    rw [h.1, pureL_append h.2 h']; rfl
theorem pureL_flat : ∀ {n : Nat} {xs : List D}, pureL xs = true → pureL (List.replicate n xs).flatten = true
  | 0, _, _ => rfl
  | n + 1, xs, h => by
    rw [List.replicate_succ, List.flatten_cons]
    exact pureL_append h (pureL_flat h)
theorem RpL.flat {Γ : Wd} {F H : Hp} {vs : List V} {ds : List D} (h : RpL Γ F H vs ds []) : ∀ n : Nat, RpL Γ F H (List.replicate n vs).flatten (List.replicate n ds).flatten []
  | 0 => .nil
  | n + 1 => by
    rw [List.replicate_succ, List.replicate_succ, List.flatten_cons, List.flatten_cons]
    exact h.append (fp := []) (fq := []) (RpL.flat h n)

def opn : O2 → Operator
  | .add => .Add
  | .sub => .Sub
  | .mul => .Mult
  | .fdiv => .FloorDiv
  | .mod => .Mod
  | .pow => .Pow
  | .shl => .LShift
  | .shr => .RShift
  | .band => .BitAnd
  | .bxor => .BitXor
def rBin (Γ : Wd) (o : O2) : R2 := fun x y H Q => ∃ F dx dy fx fy d, Fz F H ∧ Rp Γ F H x dx fx ∧ Rp Γ F H y dy fy ∧ dx.cpure = true ∧ dy.cpure = true ∧ dBin o dx dy = some d ∧ NewV Γ F H d Q
theorem opr_bin {X : Cx} {Γ : Wd} (hK : Γ.K = X.K) (o : O2) : OpR X (binaryOp (opn o)) (rBin Γ o) := by
  intro pins s σ H x y v u Q I rx ry h
  obtain ⟨F, dx, dy, fx, fy, d, z, hx, hy, px, py, e, n⟩ := h
  unfold dBin at e
  split at e
  · cases e; cases hx.intS; cases hy.intS
    exact op_add pins s σ H _ _ v u Q I rx ry ⟨_, _, rfl, rfl, n.int z⟩
  · split at e
    · rename_i hl
      cases e; cases hx.strS; cases hy.strS
      refine op_add_str pins s σ H _ _ v u Q I rx ry ⟨_, _, rfl, rfl, ?_, ?_⟩
      · rw [sv_length, sv_length, ← line_eq]; exact hl
      · rw [sv_append]; exact n.str z
    · cases e
  · split at e
    · rename_i hl
      cases e
      obtain ⟨a, vs, f1, rfl, h1, r1⟩ := hx.tupS z
      obtain ⟨b, ws, f2, rfl, h2, r2⟩ := hy.tupS z
      rw [hK] at h1 h2
      have p1 : pureL _ = true := px
      have p2 : pureL _ = true := py
      have hl' : vs.length + ws.length ≤ sizeLine := by rw [r1.length, r2.length, ← line_eq]; exact hl
      refine op_catA pins s σ H _ _ v u Q I rx ry ⟨a, b, vs, ws, rfl, rfl, h1, h2, hl', fun e => ?_, fun e1 e2 => ?_, fun e1 e2 p hp => ?_⟩
      · subst e
        cases r1
        exact n.old z hy (by show pureL _ = true; exact p2)
      · subst e2
        cases r2
        rw [List.append_nil] at n
        exact n.old z hx (by show pureL _ = true; exact p1)
      · exact n.tup z (r1.append r2) (pureL_append p1 p2) hp
    · cases e
  · split at e
    · rename_i hl
      cases e
      simp only [Bool.and_eq_true, decide_eq_true_eq, Bool.not_eq_true', List.isEmpty_eq_false_iff] at hl
      obtain ⟨a, vs, f1, rfl, h1, r1⟩ := hx.tupS z
      obtain ⟨b, ws, f2, rfl, h2, r2⟩ := hy.ktupS
      rw [hK] at h1 h2
      have p1 : pureL _ = true := px
      have p2 : pureL _ = true := py
      have hl' : vs.length + ws.length ≤ sizeLine := by rw [r1.length, r2.length, ← line_eq]; exact hl.2
      refine op_catA pins s σ H _ _ v u Q I rx ry ⟨a, b, vs, ws, rfl, rfl, h1, h2, hl', fun e => ?_, fun e1 e2 => ?_, fun e1 e2 p hp => ?_⟩
      · subst e
        cases r1
        exact absurd rfl hl.1.1
      · subst e2
        cases r2
        exact absurd rfl hl.1.2
      · exact n.tup z (r1.append r2) (pureL_append p1 p2) hp
    · cases e
  · split at e
    · rename_i hl
      cases e
      simp only [Bool.and_eq_true, decide_eq_true_eq, Bool.not_eq_true', List.isEmpty_eq_false_iff] at hl
      obtain ⟨a, vs, f1, rfl, h1, r1⟩ := hx.ktupS
      obtain ⟨b, ws, f2, rfl, h2, r2⟩ := hy.tupS z
      rw [hK] at h1 h2
      have p1 : pureL _ = true := px
      have p2 : pureL _ = true := py
      have hl' : vs.length + ws.length ≤ sizeLine := by rw [r1.length, r2.length, ← line_eq]; exact hl.2
      refine op_catA pins s σ H _ _ v u Q I rx ry ⟨a, b, vs, ws, rfl, rfl, h1, h2, hl', fun e => ?_, fun e1 e2 => ?_, fun e1 e2 p hp => ?_⟩
      · subst e
        cases r1
        exact absurd rfl hl.1.1
      · subst e2
        cases r2
        exact absurd rfl hl.1.2
      · exact n.tup z (r1.append r2) (pureL_append p1 p2) hp
    · cases e
  · split at e
    · rename_i hl
      cases e
      obtain ⟨a, vs, f1, rfl, h1, r1⟩ := hx.lstS z
      obtain ⟨b, ws, f2, rfl, h2, r2⟩ := hy.lstS z
      have p1 : pureL _ = true := px
      have p2 : pureL _ = true := py
      have hl' : vs.length + ws.length ≤ sizeLine := by rw [r1.length, r2.length, ← line_eq]; exact hl
      exact op_cat pins s σ H _ _ v u Q I rx ry ⟨a, b, vs, ws, rfl, rfl, h1, h2, hl', fun p hp => n.lst z (r1.append r2) (pureL_append p1 p2) hp⟩
    · cases e
  · cases e; cases hx.intS; cases hy.intS
    exact op_sub pins s σ H _ _ v u Q I rx ry ⟨_, _, rfl, rfl, n.int z⟩
  · split at e
    · rename_i i j hm
      cases e; cases hx.intS; cases hy.intS
      unfold mulOk at hm
      simp only [Bool.or_eq_true, decide_eq_true_eq] at hm
      rcases hm with (hm | hm) | hm
      · exact op_mul pins s σ H _ _ v u Q I rx ry ⟨_, _, rfl, rfl, .inl (by omega), n.int z⟩
      · exact op_mul pins s σ H _ _ v u Q I rx ry ⟨_, _, rfl, rfl, .inr (by omega), n.int z⟩
      · exact op_mulW pins s σ H _ _ v u Q I rx ry ⟨_, _, rfl, rfl, hm, n.int z⟩
    · cases e
  · split at e
    · rename_i k hm
      cases e
      obtain ⟨a, vs, f1, rfl, h1, r1⟩ := hx.lstS z
      cases hy.intS
      simp only [Bool.and_eq_true, decide_eq_true_eq] at hm
      have p1 : pureL _ = true := px
      have e1 := r1.len_pure p1
      subst e1
      refine op_rep pins s σ H _ _ v u Q I rx ry ⟨a, k, vs, rfl, rfl, h1, by omega, by omega, ?_, fun p hp => n.lst z (r1.flat k.toNat) (pureL_flat p1) hp⟩
      rw [r1.length, ← line_eq]; exact hm.2
    · cases e
  · split at e
    · rename_i i j hm
      cases e; cases hx.intS; cases hy.intS
      unfold divOk at hm
      simp only [Bool.and_eq_true, decide_eq_true_eq] at hm
      exact op_fdivW pins s σ H _ _ v u Q I rx ry ⟨_, _, rfl, rfl, ⟨hm.1, hm.2⟩, n.int z⟩
    · cases e
  · split at e
    · rename_i i j hm
      cases e; cases hx.intS; cases hy.intS
      exact op_mod pins s σ H _ _ v u Q I rx ry ⟨_, _, rfl, rfl, of_decide_eq_true hm, n.int z⟩
    · cases e
  · split at e
    · rename_i i j hm
      cases e; cases hx.intS; cases hy.intS
      unfold powOk at hm
      simp only [Bool.and_eq_true, decide_eq_true_eq] at hm
      exact op_pow pins s σ H _ _ v u Q I rx ry ⟨_, _, rfl, rfl, ⟨hm.1.1, hm.1.2, hm.2⟩, n.int z⟩
    · cases e
  · split at e
    · rename_i i j hm
      cases e; cases hx.intS; cases hy.intS
      unfold shlOk at hm
      simp only [Bool.and_eq_true, decide_eq_true_eq] at hm
      exact op_shlW pins s σ H _ _ v u Q I rx ry ⟨_, _, rfl, rfl, ⟨hm.1.1, hm.2⟩, n.int z⟩
    · cases e
  · split at e
    · rename_i i j hm
      cases e; cases hx.intS; cases hy.intS
      exact op_shr pins s σ H _ _ v u Q I rx ry ⟨_, _, rfl, rfl, of_decide_eq_true hm, n.int z⟩
    · cases e
  · cases e; cases hx.intS; cases hy.intS
    exact op_and pins s σ H _ _ v u Q I rx ry ⟨_, _, rfl, rfl, n.int z⟩
  · cases e; cases hx.intS; cases hy.intS
    exact op_xor pins s σ H _ _ v u Q I rx ry ⟨_, _, rfl, rfl, n.int z⟩
  · cases e
end VI

end

section
/-! ViE: readings from the evaluator. -/
namespace VI
open PySem L2 PyProof.Rows

/-! ### results -/
def rG {α : Type} (ok : α → Fr → Bool → Prop) (ex : String → D → Fr → Prop) : Rs α → Prop
  | .ok a fr q => ok a fr q
  | .ex c a fr => ex c a fr
  | .no => False
theorem rG_bind {α β : Type} {ok : β → Fr → Bool → Prop} {ex : String → D → Fr → Prop} {x : Rs α} {g : α → Fr → Rs β} (h : rG ok ex (x.bind g)) :
    rG (fun a fr q => rG (fun b fr' q' => ok b fr' (q && q')) ex (g a fr)) ex x := by
  cases x with
  | ok a fr q =>
    show rG _ ex (g a fr)
    simp only [Rs.bind] at h
    cases e : g a fr with
    | ok b fr' q' => rw [e] at h; exact h
    | ex c a' fr' => rw [e] at h; exact h
    | no => rw [e] at h; exact h
  | ex c a fr => exact h
  | no => exact h
theorem rG_mono {α : Type} {ok ok' : α → Fr → Bool → Prop} {ex ex' : String → D → Fr → Prop} {x : Rs α} (h : rG ok ex x) (f : ∀ a fr q, x = .ok a fr q → ok a fr q → ok' a fr q) (g : ∀ c a fr, ex c a fr → ex' c a fr) : rG ok' ex' x := by
  cases x with
  | ok a fr q => exact f a fr q rfl h
  | ex c a fr => exact g c a fr h
  | no => exact h

section
variable (Γ : Wd) (fld : String → Option String)
def Plc (σ : L2.St) (F H : Hp) (x : Nat) (p : List Sp1) (v : V) : Prop := ∃ v0, σ[x]? = some (some v0) ∧ Pth Γ F H v0 p v
def PR (B : Bd) (σ : L2.St) (F H : Hp) (af : Fr) (T : List (V × D)) : Rv → V → Prop
  | .tmp d, v => Sta Γ B F H σ af ((v, d) :: T)
  | .plc x p, v => Sta Γ B F H σ af T ∧ Plc Γ σ F H x p v
def tmps : List Rv → List V → List (V × D)
  | .tmp d :: rs, v :: vs => (v, d) :: tmps rs vs
  | .plc _ _ :: rs, _ :: vs => tmps rs vs
  | _, _ => []
def Plcs (σ : L2.St) (F H : Hp) : List Rv → List V → Prop
  | .tmp _ :: rs, _ :: vs => Plcs σ F H rs vs
  | .plc x p :: rs, v :: vs => Plc Γ σ F H x p v ∧ Plcs σ F H rs vs
  | [], [] => True
  | _, _ => False
def PRs (B : Bd) (σ : L2.St) (F H : Hp) (af : Fr) (T : List (V × D)) (rs : List Rv) (vs : List V) : Prop :=
  Sta Γ B F H σ af (tmps rs vs ++ T) ∧ Plcs Γ σ F H rs vs
/-- an exception with its one field -/
def XP (B : Bd) (σ : L2.St) (F H : Hp) (af : Fr) (T : List (V × D)) (c : String) (a : D) (cls : Value) (d : Option Addr) : Prop :=
  ∃ C dd va fl, Γ.cls c = some C ∧ cls = .ref C ∧ d = some dd ∧ fld c = some fl ∧ H dd = some (.xd [(Str.ofString fl, va)]) ∧ Sta Γ B F H σ af ((va, a) :: T)
def exW (W : WX) (B : Bd) (σ : L2.St) (T : List (V × D)) (c : String) (a : D) (af : Fr) : Prop :=
  ∀ cls d F H, XP Γ fld B σ F H af T c a cls d → W cls d σ H
def okE (B : Bd) (F : Hp) (T : List (V × D)) (af : Fr) (σ : L2.St) (H : Hp) (Q : VK) (r : Rv) (af' : Fr) (q : Bool) : Prop :=
  ∀ v H' F', FLe F F' → (q = true → af' = af ∧ HLe H H') → PR Γ B σ F' H' af' T r v → Q v H'
def okT (B : Bd) (F : Hp) (T : List (V × D)) (af : Fr) (σ : L2.St) (H : Hp) (Q : Bool → Hp → Prop) (b : Bool) (af' : Fr) (q : Bool) : Prop :=
  ∀ H' F', FLe F F' → (q = true → af' = af ∧ HLe H H') → Sta Γ B F' H' σ af' T → Q b H'
def okA (B : Bd) (F : Hp) (T : List (V × D)) (af : Fr) (σ : L2.St) (H : Hp) (Q : List V → Hp → Prop) (rs : List Rv) (af' : Fr) (q : Bool) : Prop :=
  ∀ vs H' F', FLe F F' → (q = true → af' = af ∧ HLe H H') → PRs Γ B σ F' H' af' T rs vs → Q vs H'
def tE (W : WX) (f : Fr → Rs Rv) : TE := fun σ H Q => ∃ B F T af, Sta Γ B F H σ af T ∧ rG (okE Γ B F T af σ H Q) (exW Γ fld W B σ T) (f af)
def tT (W : WX) (f : Fr → Rs Bool) : TT := fun σ H Q => ∃ B F T af, Sta Γ B F H σ af T ∧ rG (okT Γ B F T af σ H Q) (exW Γ fld W B σ T) (f af)
def tA (W : WX) (f : Fr → Rs (List Rv)) : TA := fun σ H Q => ∃ B F T af, Sta Γ B F H σ af T ∧ rG (okA Γ B F T af σ H Q) (exW Γ fld W B σ T) (f af)
end

section
variable {Γ : Wd} {fld : String → Option String} {W : WX} {B : Bd} {F F' H H' : Hp} {σ : L2.St} {af af' : Fr} {T T' : List (V × D)}
theorem XP.drop {x : V × D} {c : String} {a : D} {cls : Value} {d : Option Addr} (h : XP Γ fld B σ F H af (x :: T) c a cls d) : XP Γ fld B σ F H af T c a cls d := by
  obtain ⟨C, dd, va, fl, h1, h2, h3, h4, h5, S⟩ := h
  exact ⟨C, dd, va, fl, h1, h2, h3, h4, h5, (S.perm (.swap ..)).drop⟩
theorem XP.dropL : ∀ {L : List (V × D)} {c : String} {a : D} {cls : Value} {d : Option Addr}, XP Γ fld B σ F H af (L ++ T) c a cls d → XP Γ fld B σ F H af T c a cls d
  | [], _, _, _, _, h => h
  | _ :: L, _, _, _, _, h => XP.dropL (L := L) (XP.drop h)
theorem exW.drop {L : List (V × D)} {c : String} {a : D} (h : exW Γ fld W B σ T c a af) : exW Γ fld W B σ (L ++ T) c a af := fun cls d F H x => h cls d F H x.dropL
/-- q1, then q2 -/
theorem q_and {q1 q2 : Bool} {af1 af2 : Fr} {H1 H2 : Hp} (h1 : q1 = true → af1 = af ∧ HLe H H1) (h2 : q2 = true → af2 = af1 ∧ HLe H1 H2) : (q1 && q2) = true → af2 = af ∧ HLe H H2 := fun h => by
  rw [Bool.and_eq_true] at h
  obtain ⟨a, b⟩ := h1 h.1
  obtain ⟨c, d⟩ := h2 h.2
  exact ⟨c.trans a, b.trans d⟩
theorem Plc.mono {x : Nat} {p : List Sp1} {v : V} (h : Plc Γ σ F H x p v) (f : FLe F F') (k : p = [] ∨ HLe H H') : Plc Γ σ F' H' x p v := by
  obtain ⟨v0, e, t⟩ := h
  refine ⟨v0, e, ?_⟩
  rcases k with rfl | k
  · cases t; exact .nil _
  · exact t.mono f.k k
theorem PR.sta {r : Rv} {v : V} (h : PR Γ B σ F H af T r v) : Sta Γ B F H σ af (tmps [r] [v] ++ T) := by
  cases r with
  | tmp d => exact h
  | plc x p => exact h.1
theorem PR.one {r : Rv} {v : V} (h : PR Γ B σ F H af T r v) : PRs Γ B σ F H af T [r] [v] := by
  cases r with
  | tmp d => exact ⟨h, trivial⟩
  | plc x p => exact ⟨h.1, h.2, trivial⟩
/-- the value of a place -/
theorem Sta.at {x : Nat} {p : List Sp1} {v : V} {e : D} (S : Sta Γ B F H σ af T) (h : Plc Γ σ F H x p v) (hv : (Rv.plc x p).val af = some e) (hp : p = [] ∨ e.pure = false) : ∃ fp, Rp Γ F H v e fp := by
  obtain ⟨v0, e0, t⟩ := h
  simp only [Rv.val] at hv
  cases hs : slot af x with
  | none => rw [hs] at hv; cases hv
  | some d =>
    rw [hs] at hv
    have hv : d.get p = some e := hv
    obtain ⟨v1, fp, e1, r⟩ := S.get hs
    rw [e0] at e1; cases e1
    rcases hp with rfl | hp
    · cases t
      simp only [D.get, Option.some.injEq] at hv; subst hv
      exact ⟨fp, r⟩
    · obtain ⟨w, f1, f2, a1, a2, _⟩ := r.focus hv hp
      have := a1.fn S.sub t
      subst this
      exact ⟨f1, a2⟩
/-- a place is frozen -/
theorem Sta.freezeAt {x : Nat} {p : List Sp1} {v : V} {d : D} {q : Bool} (S : Sta Γ B F H σ af T) (h : Plc Γ σ F H x p v) (hi : p = [] ∨ ∃ e, (Rv.plc x p).val af = some e ∧ e.pure = false) (hf : VI.freeze x p af = Rs.ok d af' q) :
    ∃ F', FLe F F' ∧ Sta Γ B F' H σ af' T ∧ Rp Γ F' H v d [] ∧ d.pure = true ∧ q = false := by
  obtain ⟨v0, e0, t⟩ := h
  unfold VI.freeze at hf
  cases hs : slot af x with
  | none => rw [hs] at hf; cases hf
  | some w =>
    rw [hs] at hf
    simp only at hf
    cases hg : w.get p with
    | none => rw [hg] at hf; cases hf
    | some e =>
      rw [hg] at hf
      simp only at hf
      split at hf
      · rename_i hpu
        cases hf
        obtain ⟨v1, e1, S1⟩ := S.hide hs
        rw [e0] at e1; cases e1
        -- the part is frozen
        by_cases hpe : e.pure = true
        · have hfz : e.frz = e := frz_pure e hpe
          have hp : p = [] := by
            rcases hi with h | ⟨e', h1, h2⟩
            · exact h
            · simp only [Rv.val, hs] at h1
              rw [hg] at h1; cases h1
              rw [hpe] at h2; cases h2
          subst hp
          cases t
          simp only [D.get, Option.some.injEq] at hg; subst hg
          obtain ⟨fp, r⟩ := S1.rp
          refine ⟨F, .refl _, ?_, ?_, hpu, rfl⟩
          · have := S1.back (x := x) (by simp [slot_lt hs]) e0
            rw [List.set_set] at this
            simpa [D.put, hfz] using this
          · rw [hfz]; exact r.any (F' := F) (H' := H) (FLe.refl F).k hpe
        · have hpe : e.pure = false := by simpa using hpe
          obtain ⟨fp, r, n, q⟩ := S1.own.perm List.perm_middle
          cases r with
          | @cons _ _ f1 _ _ f2 a tl =>
            obtain ⟨w', g1, g2, b1, b2, b3, b4⟩ := a.focus hg hpe
            have := b1.fn S.sub t
            subst this
            have nd1 := List.nodup_append.mp n
            have hperm : ∀ b, b ∈ f1 ↔ b ∈ g1 ++ g2 := fun b => b3.mem_iff
            have hF0 : ∀ b ∈ g1, F b = none := fun b m => (q b (List.mem_append_left _ ((hperm b).mpr (List.mem_append_left _ m)))).1
            have hle : FLe F (fun b => if b ∈ g1 then H b else F b) := fun b o e => by
              by_cases m : b ∈ g1
              · rw [hF0 b m] at e; cases e
              · show (if b ∈ g1 then H b else F b) = _
                rw [if_neg m]; exact e
            have ndg := b3.nodup_iff.mp nd1.1
            obtain ⟨fq, c1, c2⟩ := b4 (fun b => if b ∈ g1 then H b else F b) H e.frz [] hle.k (fun _ _ => rfl) (b2.freeze hle.k hpu fun b m => if_pos m)
            have c1' : ∀ b, b ∈ fq ↔ b ∈ g2 := fun b => by simpa using c1.mem_iff (a := b)
            refine ⟨_, hle, ?_, b2.freeze hle.k hpu fun b m => if_pos m, hpu, rfl⟩
            have S2 : Sta Γ B (fun b => if b ∈ g1 then H b else F b) H σ (af.set x none) ((v0, w.put p e.frz) :: T) := by
              refine ⟨fun b o e => ?_, fun b vs e => ?_, S1.len, S1.bnd, Own.perm (L := (v0, w.put p e.frz) :: (coll σ (af.set x none) ++ T)) ⟨fq ++ f2, .cons c2 (tl.mono hle.k fun _ _ => rfl), ?_, fun b m => ?_⟩ List.perm_middle.symm, S1.mod, S1.mono.trans hle, fun b h => ?_, S1.tabs, S1.mt, fun b i => ?_⟩
              · have e : (if b ∈ g1 then H b else F b) = some o := e
                by_cases m : b ∈ g1
                · rw [if_pos m] at e; exact e
                · rw [if_neg m] at e; exact S1.sub b o e
              · show (if b ∈ g1 then H b else F b) = _
                by_cases m : b ∈ g1
                · rw [if_pos m]; exact e
                · rw [if_neg m]; exact S1.tup b vs e
              · refine List.nodup_append.mpr ⟨(by have := c1.nodup_iff.mpr (by simpa using (List.nodup_append.mp ndg).2.1); exact this), nd1.2.1, fun b m b' m' e' => ?_⟩
                subst e'
                exact nd1.2.2 b ((hperm b).mpr (List.mem_append_right _ ((c1' b).mp m))) b m' rfl
              · rcases List.mem_append.mp m with m | m
                · have m := (c1' b).mp m
                  refine ⟨?_, (q b (List.mem_append_left _ ((hperm b).mpr (List.mem_append_right _ m)))).2⟩
                  show (if b ∈ g1 then H b else F b) = none
                  rw [if_neg fun m' => (List.nodup_append.mp ndg).2.2 b m' b m rfl]
                  exact (q b (List.mem_append_left _ ((hperm b).mpr (List.mem_append_right _ m)))).1
                · refine ⟨?_, (q b (List.mem_append_right _ m)).2⟩
                  show (if b ∈ g1 then H b else F b) = none
                  rw [if_neg fun m' => nd1.2.2 b ((hperm b).mpr (List.mem_append_left _ m')) b m rfl]
                  exact (q b (List.mem_append_right _ m)).1
              · have h : (if b ∈ g1 then H b else F b) ≠ none := h
                by_cases m : b ∈ g1
                · exact .inr ((q b (List.mem_append_left _ ((hperm b).mpr (List.mem_append_left _ m)))).2.imp id loose_none)
                · rw [if_neg m] at h
                  exact S1.frF b h
              · show (if b ∈ g1 then H b else F b) = none
                rw [if_neg fun m => by
                  obtain ⟨o, e, k⟩ := a.kind b ((hperm b).mpr (List.mem_append_left _ m))
                  exact tab_notOwn S1.tabs i e k]
                exact S1.nt b i
            have := S2.back (x := x) (by simp [slot_lt hs]) e0
            rw [List.set_set] at this
            exact this
      · cases hf
end
end VI

end

section
/-! ViE2: operands taken, looked at; the first readings. -/
namespace VI
open PySem L2 PyProof.Rows

section
variable {Γ : Wd} {fld : String → Option String} {W : WX} {B : Bd} {F F' H H' : Hp} {σ : L2.St} {af af' : Fr} {T T' : List (V × D)}
theorem cpure_of {d : D} (h : d.pure = true) : d.cpure = true := by
  cases d <;> simp only [D.pure, Bool.and_eq_true] at h <;> simp only [D.cpure] <;> first | exact h | exact h.2 | cases h | rfl
theorem Sta.addPure {v : V} {d : D} {fp : List Addr} (S : Sta Γ B F H σ af T) (r : Rp Γ F H v d fp) (p : d.pure = true) : Sta Γ B F H σ af ((v, d) :: T) := by
  obtain ⟨fq, r0, n, q⟩ := S.own
  have e := r.len_pure p
  subst e
  exact { S with own := Own.perm (L := (v, d) :: (coll σ af ++ T)) ⟨[] ++ fq, .cons r r0, by simpa using n, fun a m => q a (by simpa using m)⟩ List.perm_middle.symm }
theorem own_one {r : Rv} {v : V} {d : D} {q : Bool} (h : PR Γ B σ F H af T r v) (e : r.own af = .ok d af' q) : ∃ F', FLe F F' ∧ Sta Γ B F' H σ af' ((v, d) :: T) ∧ (q = true → af' = af) := by
  cases r with
  | tmp d' => cases e; exact ⟨F, .refl _, h, fun _ => rfl⟩
  | plc x p =>
    obtain ⟨S, hp⟩ := h
    simp only [Rv.own] at e
    cases hv : (Rv.plc x p).val af with
    | none => rw [hv] at e; cases e
    | some w =>
      rw [hv] at e
      simp only at e
      by_cases hw : w.pure = true
      · rw [if_pos hw] at e
        cases p with
        | cons _ _ => simp at e
        | nil =>
          simp only [List.isEmpty_nil, if_true] at e
          cases e
          obtain ⟨fp, r⟩ := S.at hp hv (.inl rfl)
          exact ⟨F, .refl _, S.addPure r hw, fun _ => rfl⟩
      · rw [if_neg hw] at e
        have hw : w.pure = false := by simpa using hw
        obtain ⟨F', l, S', r, pu, hq⟩ := S.freezeAt hp (.inr ⟨w, hv, hw⟩) e
        exact ⟨F', l, S'.addPure r pu, fun h => by rw [hq] at h; cases h⟩
theorem view_one {r : Rv} {v : V} {d : D} {q : Bool} (h : PR Γ B σ F H af T r v) (e : r.view af = .ok d af' q) :
    ∃ F' L, FLe F F' ∧ Sta Γ B F' H σ af' (L ++ T) ∧ (∃ fp, Rp Γ F' H v d fp) ∧ d.cpure = true ∧ (q = true → af' = af) := by
  cases r with
  | tmp d' =>
    simp only [Rv.view] at e
    have S : Sta Γ B F H σ af ((v, d') :: T) := h
    by_cases hc : d'.cpure = true
    · rw [if_pos hc] at e; cases e
      exact ⟨F, [(v, _)], .refl _, S, S.rp, hc, fun _ => rfl⟩
    · rw [if_neg hc] at e
      by_cases hf : d'.frz.pure = true
      · rw [if_pos hf] at e; cases e
        obtain ⟨F', l, S'⟩ := S.freeze hf
        exact ⟨F', [(v, _)], l, S', S'.rp, cpure_of hf, fun _ => rfl⟩
      · rw [if_neg hf] at e; cases e
  | plc x p =>
    obtain ⟨S, hp⟩ := h
    simp only [Rv.view] at e
    cases hv : (Rv.plc x p).val af with
    | none => rw [hv] at e; cases e
    | some w =>
      rw [hv] at e
      simp only at e
      by_cases hw : (w.pure && !p.isEmpty) = true
      · rw [if_pos hw] at e; cases e
      · rw [if_neg hw] at e
        have hi : p = [] ∨ w.pure = false := by
          cases p with
          | nil => exact .inl rfl
          | cons a b => right; simpa using hw
        by_cases hc : w.cpure = true
        · rw [if_pos hc] at e; cases e
          exact ⟨F, [], .refl _, S, S.at hp hv hi, hc, fun _ => rfl⟩
        · rw [if_neg hc] at e
          have hw2 : w.pure = false := by
            cases c : w.pure with
            | false => rfl
            | true => exact absurd (cpure_of c) hc
          obtain ⟨F', l, S', r, pu, hq⟩ := S.freezeAt hp (.inr ⟨w, hv, hw2⟩) e
          exact ⟨F', [], l, S', ⟨_, r⟩, cpure_of pu, fun h => by rw [hq] at h; cases h⟩
theorem look_one {r : Rv} {v : V} {d : D} {q : Bool} (h : PR Γ B σ F H af T r v) (e : r.look af = .ok d af' q) :
    af' = af ∧ (∃ L, Sta Γ B F H σ af (L ++ T)) ∧ ∃ fp, Rp Γ F H v d fp := by
  cases r with
  | tmp d' =>
    have S : Sta Γ B F H σ af ((v, d') :: T) := h
    cases e
    exact ⟨rfl, ⟨[(v, _)], S⟩, S.rp⟩
  | plc x p =>
    obtain ⟨S, hp⟩ := h
    simp only [Rv.look] at e
    cases hv : (Rv.plc x p).val af with
    | none => rw [hv] at e; cases e
    | some w =>
      rw [hv] at e
      simp only at e
      by_cases hw : (w.pure && !p.isEmpty) = true
      · rw [if_pos hw] at e; cases e
      · rw [if_neg hw] at e
        have hi : p = [] ∨ w.pure = false := by
          cases p with
          | nil => exact .inl rfl
          | cons a b => right; simpa using hw
        cases e
        exact ⟨rfl, ⟨[], S⟩, S.at hp hv hi⟩
theorem bind_ok {α β : Type} {x : Rs α} {g : α → Fr → Rs β} {b : β} {fr : Fr} {q : Bool} (h : x.bind g = .ok b fr q) : ∃ a f1 q1 q2, x = .ok a f1 q1 ∧ g a f1 = .ok b fr q2 ∧ q = (q1 && q2) := by
  cases x with
  | ok a f1 q1 =>
    simp only [Rs.bind] at h
    cases e : g a f1 with
    | ok b' f2 q2 => rw [e] at h; cases h; exact ⟨a, f1, q1, q2, rfl, e, rfl⟩
    | ex _ _ _ => rw [e] at h; cases h
    | no => rw [e] at h; cases h
  | ex _ _ _ => cases h
  | no => cases h
theorem Plcs.mono : ∀ {rs : List Rv} {vs : List V}, Plcs Γ σ F H rs vs → FLe F F' → HLe H H' → Plcs Γ σ F' H' rs vs
  | [], [], _, _, _ => trivial
  | .tmp _ :: rs, _ :: vs, h, f, g => Plcs.mono (rs := rs) (vs := vs) h f g
  | .plc x p :: rs, v :: vs, h, f, g => ⟨h.1.mono f (.inr g), Plcs.mono (rs := rs) (vs := vs) h.2 f g⟩
  | [], _ :: _, h, _, _ => h
  | .tmp _ :: _, [], h, _, _ => h
  | .plc _ _ :: _, [], h, _, _ => h
theorem PRs.head {r : Rv} {rs : List Rv} {v : V} {vs : List V} (h : PRs Γ B σ F H af T (r :: rs) (v :: vs)) : PR Γ B σ F H af (tmps rs vs ++ T) r v ∧ Plcs Γ σ F H rs vs := by
  cases r with
  | tmp d => exact ⟨h.1, h.2⟩
  | plc x p => exact ⟨⟨h.1, h.2.1⟩, h.2.2⟩
theorem PRs.len : ∀ {rs : List Rv} {vs : List V}, Plcs Γ σ F H rs vs → rs.length = vs.length
  | [], [], _ => rfl
  | .tmp _ :: rs, _ :: vs, h => congrArg (· + 1) (PRs.len (rs := rs) (vs := vs) h)
  | .plc x p :: rs, v :: vs, h => congrArg (· + 1) (PRs.len (rs := rs) (vs := vs) h.2)
  | [], _ :: _, h => h.elim
  | .tmp _ :: _, [], h => h.elim
  | .plc _ _ :: _, [], h => h.elim
theorem own_all : ∀ {rs : List Rv} {vs : List V} {ds : List D} {F : Hp} {af af' : Fr} {T : List (V × D)} {q : Bool}, PRs Γ B σ F H af T rs vs → owns rs af = .ok ds af' q →
    ∃ F', FLe F F' ∧ Sta Γ B F' H σ af' (vs.zip ds ++ T) ∧ ds.length = vs.length ∧ (q = true → af' = af)
  | [], [], ds, F, af, af', T, q, h, e => by
    cases e
    exact ⟨F, .refl _, h.1, rfl, fun _ => rfl⟩
  | [], _ :: _, _, _, _, _, _, _, h, _ => h.2.elim
  | r :: rs, [], _, _, _, _, _, _, h, _ => by
    have := PRs.len h.2
    simp at this
  | r :: rs, v :: vs, ds, F, af, af', T, q, h, e => by
    obtain ⟨d, f1, q1, q2, e1, e2, rfl⟩ := bind_ok e
    obtain ⟨ds', f2, q3, q4, e3, e4, rfl⟩ := bind_ok e2
    cases e4
    obtain ⟨h1, h2⟩ := h.head
    obtain ⟨F1, l1, S1, k1⟩ := own_one h1 e1
    obtain ⟨F2, l2, S2, n2, k2⟩ := own_all (rs := rs) (vs := vs) (T := (v, d) :: T) ⟨S1.perm List.perm_middle.symm, h2.mono l1 (.refl _)⟩ e3
    refine ⟨F2, l1.trans l2, S2.perm List.perm_middle, by simp [n2], fun h => ?_⟩
    simp only [Bool.and_eq_true] at h
    rw [k2 h.2.1, k1 h.1]
theorem view_all : ∀ {rs : List Rv} {vs : List V} {ds : List D} {F : Hp} {af af' : Fr} {T : List (V × D)} {q : Bool}, PRs Γ B σ F H af T rs vs → views rs af = .ok ds af' q →
    ∃ F' L, FLe F F' ∧ Sta Γ B F' H σ af' (L ++ T) ∧ ds.length = vs.length ∧ (∀ (i : Nat) (v : V) (d : D), vs[i]? = some v → ds[i]? = some d → (∃ fp, Rp Γ F' H v d fp) ∧ d.cpure = true) ∧ (q = true → af' = af)
  | [], [], ds, F, af, af', T, q, h, e => by
    cases e
    exact ⟨F, [], .refl _, h.1, rfl, fun i v d h => by simp at h, fun _ => rfl⟩
  | [], _ :: _, _, _, _, _, _, _, h, _ => h.2.elim
  | r :: rs, [], _, _, _, _, _, _, h, _ => by
    have := PRs.len h.2
    simp at this
  | r :: rs, v :: vs, ds, F, af, af', T, q, h, e => by
    obtain ⟨d, f1, q1, q2, e1, e2, rfl⟩ := bind_ok e
    obtain ⟨ds', f2, q3, q4, e3, e4, rfl⟩ := bind_ok e2
    cases e4
    obtain ⟨h1, h2⟩ := h.head
    obtain ⟨F1, L1, l1, S1, ⟨fp, r1⟩, c1, k1⟩ := view_one h1 e1
    have S1' : Sta Γ B F1 H σ f1 (tmps rs vs ++ (L1 ++ T)) := S1.perm (by
      rw [← List.append_assoc, ← List.append_assoc]
      exact List.perm_append_comm.append_right _)
    obtain ⟨F2, L2, l2, S2, n2, k2, k3⟩ := view_all (rs := rs) (vs := vs) (T := L1 ++ T) ⟨S1', h2.mono l1 (.refl _)⟩ e3
    refine ⟨F2, L2 ++ L1, l1.trans l2, by rw [List.append_assoc]; exact S2, by simp [n2], fun i w g h1 h2 => ?_, fun h => ?_⟩
    · cases i with
      | zero =>
        simp at h1 h2; subst h1; subst h2
        exact ⟨⟨fp, r1.mono l2.k fun _ _ => rfl⟩, c1⟩
      | succ i => exact k2 i w g (by simpa using h1) (by simpa using h2)
    · simp only [Bool.and_eq_true] at h
      rw [k3 h.2.1, k1 h.1]
end

end VI
namespace L2
open PySem
/-! ### weaker readings -/
section
variable {X : Cx} {e : Expr}
theorem PE.imp {t t' : TE} (h : PE X e t) (i : ∀ σ H Q, t' σ H Q → t σ H Q) : PE X e t' := ⟨fun pins s σ H Q I q => h.run pins s σ H Q I (i _ _ _ q)⟩
theorem PT.imp {t t' : TT} (h : PT X e t) (i : ∀ σ H Q, t' σ H Q → t σ H Q) : PT X e t' := ⟨fun pins s σ H Q I q => h.run pins s σ H Q I (i _ _ _ q)⟩
theorem PW.imp {t t' : TT} (h : PW X e t) (i : ∀ σ H Q, t' σ H Q → t σ H Q) : PW X e t' := ⟨fun w pins s σ H Q I q => h.run w pins s σ H Q I (i _ _ _ q)⟩
theorem PA.imp {es : List Expr} {t t' : TA} (h : PA X es t) (i : ∀ σ H Q, t' σ H Q → t σ H Q) : PA X es t' := ⟨fun pos pins s σ H Q I q => h.run pos pins s σ H Q I (i _ _ _ q)⟩
theorem PS.imp {st : Stmt} {t t' : TS} (h : PS X st t) (i : ∀ D σ H, t' D σ H → t D σ H) : PS X st t' := ⟨fun pins s σ H D I q => h.run pins s σ H D I (i _ _ _ q)⟩
theorem PSs.imp {st : List Stmt} {t t' : TS} (h : PSs X st t) (i : ∀ D σ H, t' D σ H → t D σ H) : PSs X st t' := ⟨fun pins s σ H D I q => h.run pins s σ H D I (i _ _ _ q)⟩
theorem PE.or {t t' : TE} (h : PE X e t) (h' : PE X e t') : PE X e (fun σ H Q => t σ H Q ∨ t' σ H Q) := ⟨fun pins s σ H Q I q => q.elim (h.run pins s σ H Q I) (h'.run pins s σ H Q I)⟩
theorem PS.or {st : Stmt} {t t' : TS} (h : PS X st t) (h' : PS X st t') : PS X st (fun D σ H => t D σ H ∨ t' D σ H) := ⟨fun pins s σ H D I q => q.elim (h.run pins s σ H D I) (h'.run pins s σ H D I)⟩
end

end L2
namespace VI
open PySem L2 PyProof.Rows
section
variable {X : Cx} {Γ : Wd} {fld : String → Option String} {W : WX} {fa fb : Fr → Rs Rv} {a b : Expr} {pos : Pos}
/-- one step further: the operand first -/
theorem tE_step {α : Type} {f : Fr → Rs Rv} {g : Rv → Fr → Rs α} {B : Bd} {F : Hp} {T : List (V × D)} {af : Fr} {σ : L2.St} {H : Hp} {ok : α → Fr → Bool → Prop} {ex : String → D → Fr → Prop} {Q : VK}
    (S : Sta Γ B F H σ af T) (h : rG ok ex ((f af).bind g)) (hx : ∀ c a fr, ex c a fr → exW Γ fld W B σ T c a fr)
    (k : ∀ r f1 q1, f af = .ok r f1 q1 → rG (fun b fr' q' => ok b fr' (q1 && q')) ex (g r f1) → ∀ v H1 F1, FLe F F1 → (q1 = true → f1 = af ∧ HLe H H1) → PR Γ B σ F1 H1 f1 T r v → Q v H1) : tE Γ fld W f σ H Q :=
  ⟨B, F, T, af, S, rG_mono (rG_bind h) (fun r f1 q1 e h1 v H1 F1 l k1 p => k r f1 q1 e h1 v H1 F1 l k1 p) hx⟩
/-- two operands -/
theorem op2_step {α : Type} {g : Rv × Rv → Fr → Rs α} {B : Bd} {F : Hp} {T : List (V × D)} {af : Fr} {σ : L2.St} {H : Hp} {ok : α → Fr → Bool → Prop} {Q : V → V → Hp → Prop}
    (S : Sta Γ B F H σ af T) (h : rG ok (exW Γ fld W B σ T) ((op2 fa fb af).bind g))
    (k : ∀ r r' f1 q1, rG (fun b fr' q' => ok b fr' (q1 && q')) (exW Γ fld W B σ T) (g (r, r') f1) → ∀ v w H1 F1, FLe F F1 → (q1 = true → f1 = af ∧ HLe H H1) → PRs Γ B σ F1 H1 f1 T [r, r'] [v, w] → Q v w H1) :
    tE Γ fld W fa σ H fun x H1 => tE Γ fld W fb σ H1 fun y H2 => Q x y H2 := by
  have h1 := rG_bind h
  unfold op2 at h1
  have h2 := rG_bind h1
  refine ⟨B, F, T, af, S, rG_mono h2 (fun r f1 q1 e h3 v H1 F1 l k1 p => ?_) fun _ _ _ h => h⟩
  refine ⟨B, F1, tmps [r] [v] ++ T, f1, p.sta, ?_⟩
  cases hb : fb f1 with
  | ok r' f2 q2 =>
    rw [hb] at h3
    simp only at h3
    split at h3
    · cases h3
    · rename_i hd
      intro w H2 F2 l2 k2 p2
      refine k r r' f2 (q1 && q2) h3 v w H2 F2 (l.trans l2) (q_and k1 k2) ?_
      have hm : ∀ {x : Nat} {ps : List Sp1}, r = .plc x ps → ps = [] ∨ HLe H1 H2 := fun {x ps} e => by
        subst e
        cases ps with
        | nil => exact .inl rfl
        | cons s ss =>
          right
          have : q2 = true := by simpa [Rv.deep] using hd
          exact (k2 this).2
      cases r with
      | tmp d =>
        cases r' with
        | tmp d' =>
          have p2 : Sta Γ B F2 H2 σ f2 ((w, d') :: ((v, d) :: T)) := p2
          exact ⟨p2.perm (.swap ..), trivial⟩
        | plc x p' => exact ⟨p2.1, p2.2, trivial⟩
      | plc x p' =>
        have hp := p.2.mono l2 (hm rfl)
        cases r' with
        | tmp d' => exact ⟨p2, hp, trivial⟩
        | plc x2 p2' => exact ⟨p2.1, hp, p2.2, trivial⟩
  | ex c z f2 => rw [hb] at h3; exact exW.drop h3
  | no => rw [hb] at h3; exact h3
/-- a variable -/
theorem pe_v {i : Nat} {x : Str} (hN : X.N[i]? = some x) (hv : Vis X.env.scope x) (hd : (x == ("__debug__" : Str)) = false) (hcd : (x == ("__classdict__" : Str)) = false) : PE X (.Name x pos) (tE Γ fld W (fun fr => (Rv.plc i []).norm fr)) := by
  refine (pe_var hN hv hd hcd).imp fun σ H Q h => ?_
  obtain ⟨B, F, T, af, S, h⟩ := h
  simp only [Rv.norm] at h
  cases hv : (Rv.plc i []).val af with
  | none => rw [hv] at h; exact h.elim
  | some d =>
    rw [hv] at h
    simp only at h
    have hs : slot af i = some d := by
      simp only [Rv.val] at hv
      cases e : slot af i with
      | none => rw [e] at hv; cases hv
      | some d' => rw [e] at hv; simpa [D.get] using hv
    by_cases hp : d.pure = true
    · rw [if_pos hp] at h
      obtain ⟨v, e, S'⟩ := S.copy hs hp
      exact ⟨v, e, h v H F (.refl _) (fun _ => ⟨rfl, .refl _⟩) S'⟩
    · rw [if_neg hp] at h
      obtain ⟨v, fp, e, r⟩ := S.get hs
      exact ⟨v, e, h v H F (.refl _) (fun _ => ⟨rfl, .refl _⟩) ⟨S, v, e, .nil v⟩⟩
/-- .. handed on -/
theorem pe_mv {i : Nat} {x : Str} (hN : X.N[i]? = some x) (hv : Vis X.env.scope x) (hd : (x == ("__debug__" : Str)) = false) (hcd : (x == ("__classdict__" : Str)) = false) : PE X (.Name x pos) (tE Γ fld W (fun fr => match slot fr i with
    | some d => if d.pure then .ok (.tmp d) fr true else .ok (.tmp d) (fr.set i none) false
    | none => .no)) := by
  refine (pe_var hN hv hd hcd).imp fun σ H Q h => ?_
  obtain ⟨B, F, T, af, S, h⟩ := h
  dsimp only at h
  cases hs : slot af i with
  | none => rw [hs] at h; exact h.elim
  | some d =>
    rw [hs] at h
    simp only at h
    by_cases hp : d.pure = true
    · rw [if_pos hp] at h
      obtain ⟨v, e, S'⟩ := S.copy hs hp
      exact ⟨v, e, h v H F (.refl _) (fun _ => ⟨rfl, .refl _⟩) S'⟩
    · rw [if_neg hp] at h
      obtain ⟨v, e, S'⟩ := S.hide hs
      exact ⟨v, e, h v H F (.refl _) (fun h => by cases h) S'⟩
/-- a pure value that is known -/
theorem pe_k {e : Expr} {v : V} {d : D} (h : PE X e (tC v)) (hr : ∀ F H, Rp Γ F H v d []) (hp : d.pure = true) : PE X e (tE Γ fld W (fun fr => .ok (.tmp d) fr true)) := by
  refine h.imp fun σ H Q h => ?_
  obtain ⟨B, F, T, af, S, h⟩ := h
  exact h v H F (.refl _) (fun _ => ⟨rfl, .refl _⟩) (S.addPure (hr F H) hp)
/-- a new value in place of what was viewed -/
theorem fresh {B : Bd} {F : Hp} {T : List (V × D)} {af : Fr} {σ : L2.St} {H : Hp} {Q : VK} {q : Bool} {d : D} {H0 F0 : Hp} {af0 : Fr} (S : Sta Γ B F H σ af T) (l : FLe F0 F) (h : okE Γ B F0 T af0 σ H0 Q (.tmp d) af q) (hq : q = true → af = af0 ∧ HLe H0 H) : NewV Γ F H d Q :=
  fun v F' H' fp A r n z => h v H' F' (l.trans A.le) (fun e => ⟨(hq e).1, (hq e).2.trans A.same.h⟩) (S.new A r n z)
theorem pe_bin {o : O2} (hK : Γ.K = X.K) (ha : PE X a (tE Γ fld W fa)) (hb : PE X b (tE Γ fld W fb)) : PE X (.BinOp a (opn o) b pos) (tE Γ fld W (fun fr => (op2 fa fb fr).bind fun r fr => (r.1.view fr).bind fun x fr => (r.2.view fr).bind fun y fr => match dBin o x y with
    | some d => .ok (.tmp d) fr true
    | none => .no)) := by
  refine (pe_op (opr_bin hK o) ha hb).imp fun σ H Q h => ?_
  obtain ⟨B, F, T, af, S, h⟩ := h
  refine op2_step S h fun r r' f1 q1 h1 v w H1 F1 l1 k1 p => ?_
  obtain ⟨p1, p2⟩ := p.head
  have h2 := rG_bind h1
  cases e1 : r.view f1 with
  | no => rw [e1] at h2; exact h2.elim
  | ex c z f2 => cases r <;> simp only [Rv.view, VI.freeze] at e1 <;> (repeat' split at e1) <;> cases e1
  | ok x f2 q2 =>
    rw [e1] at h2
    obtain ⟨F2, L2, l2, S2, ⟨fx, rx⟩, cx, k2⟩ := view_one p1 e1
    have h3 := rG_bind h2
    have pr' : PR Γ B σ F2 H1 f2 (L2 ++ T) r' w := by
      cases r' with
      | tmp d => exact S2.perm (List.perm_middle)
      | plc x p => exact ⟨S2, p2.1.mono l2 (.inr (.refl _))⟩
    cases e2 : r'.view f2 with
    | no => rw [e2] at h3; exact h3.elim
    | ex c z f3 => cases r' <;> simp only [Rv.view, VI.freeze] at e2 <;> (repeat' split at e2) <;> cases e2
    | ok y f3 q3 =>
      rw [e2] at h3
      obtain ⟨F3, L3, l3, S3, ⟨fy, ry⟩, cy, k3⟩ := view_one pr' e2
      have h4 : rG (fun b fr' q' => okE Γ B F T af σ H Q b fr' (q1 && (q2 && (q3 && q')))) (exW Γ fld W B σ T) (match dBin o x y with | some d => Rs.ok (.tmp d) f3 true | none => .no) := h3
      cases e3 : dBin o x y with
      | none => rw [e3] at h4; exact h4.elim
      | some d =>
        rw [e3] at h4
        have S4 : Sta Γ B F3 H1 σ f3 T := by
          have : Sta Γ B F3 H1 σ f3 ((L3 ++ L2) ++ T) := by rw [List.append_assoc]; exact S3
          exact this.dropL
        refine ⟨F3, x, y, fx, fy, d, S4.fz, rx.mono l3.k (fun _ _ => rfl), ry, cx, cy, e3, fresh S4 (l1.trans (l2.trans l3)) h4 fun hq => ?_⟩
        simp only [Bool.and_eq_true, and_true] at hq
        obtain ⟨a1, a2⟩ := k1 hq.1
        exact ⟨by rw [k3 hq.2.2, k2 hq.2.1, a1], a2⟩
end
end VI

end

section
/-! ViE3: comparisons. -/
namespace VI
open PySem L2 PyProof.Rows

section
variable {Γ : Wd} {F H : Hp}
theorem pdL_map : ∀ ds : List D, pdL ds = ds.map pd
  | [] => rfl
  | d :: ds => by rw [pdL, pdL_map ds]; rfl
/-- data of few levels read as such -/
theorem Rp.dp (z : Fz F H) : ∀ (n : Nat) {v : V} {d : D} {fp : List Addr}, Rp Γ F H v d fp → lev n d = true → Dp Γ.K H v (pd d) := by
  intro n
  induction n with
  | zero =>
    intro v d fp h l
    cases d <;> simp only [lev, reduceCtorEq] at l
    · cases h; exact .non
    · cases h; exact .bl _
    · cases h; exact .int _
    · cases h; exact .str _
  | succ n ih =>
    have all : ∀ {ds : List D} {vs : List V} {fp : List Addr}, RpL Γ F H vs ds fp → ds.all (lev n) = true → DpAll Γ.K H vs (pdL ds) := by
      intro ds
      induction ds with
      | nil => intro vs fp h _; cases h; exact .nil
      | cons d ds ih2 =>
        intro vs fp h l
        cases h with
        | cons a t =>
          simp only [List.all_cons, Bool.and_eq_true] at l
          exact .cons (ih a l.1) (ih2 t l.2)
    intro v d fp h l
    cases d <;> simp only [lev, reduceCtorEq] at l
    · cases h; exact .non
    · cases h; exact .bl _
    · cases h; exact .int _
    · cases h; exact .str _
    · obtain ⟨a, vs, fq, rfl, e, r⟩ := h.tupS z
      exact .tup e (all r l)
    · obtain ⟨a, vs, fq, rfl, e, r⟩ := h.lstS z
      exact .lst (.of e) (all r l)
    · obtain ⟨a, vs, fq, rfl, e, r⟩ := h.ktupS
      exact .tup e (all r l)
end
theorem sv_ok (s : List Char) : PyData.strOk (sv s) = true := by
  unfold PyData.strOk sv
  rw [Array.all_eq_true']
  intro x hx
  simp only [List.mem_toArray, List.mem_map] at hx
  obtain ⟨c, _, rfl⟩ := hx
  have := c.valid
  have h2 : c.toNat < 1114112 := by
    have h := c.valid
    simp only [UInt32.isValidChar, Nat.isValidChar] at h
    show c.val.toNat < 1114112
    omega
  simpa using h2
theorem lev_lay : ∀ (n : Nat) (d : D), lev n d = true → (pd d).canLay0 = true ∧ (pd d).depth ≤ n := by
  intro n
  induction n with
  | zero =>
    intro d l
    cases d <;> simp only [lev, reduceCtorEq] at l <;> simp [pd, PyData.canLay0, PyData.depth, sv_ok]
  | succ n ih =>
    have all : ∀ ds : List D, ds.all (lev n) = true → PyData.canLayAll0 (pdL ds) = true ∧ PyData.depthAll (pdL ds) ≤ n := by
      intro ds
      induction ds with
      | nil => intro _; simp [pdL, PyData.canLayAll0, PyData.depthAll]
      | cons d ds ih2 =>
        intro l
        simp only [List.all_cons, Bool.and_eq_true] at l
        have h1 := ih d l.1
        have h2 := ih2 l.2
        simp only [pdL, PyData.canLayAll0, PyData.depthAll, h1.1, h2.1, Bool.and_self, true_and]
        exact Nat.max_le.mpr ⟨h1.2, h2.2⟩
    intro d l
    cases d <;> simp only [lev, reduceCtorEq] at l
    · simp [pd, PyData.canLay0, PyData.depth]
    · simp [pd, PyData.canLay0, PyData.depth]
    · simp [pd, PyData.canLay0, PyData.depth]
    · simp [pd, PyData.canLay0, PyData.depth, sv_ok]
    · have := all _ l
      simp only [pd, PyData.canLay0, PyData.depth, this.1, true_and]
      omega
    · have := all _ l
      simp only [pd, PyData.canLay0, PyData.depth, this.1, true_and]
      omega
    · have := all _ l
      simp only [pd, PyData.canLay0, PyData.depth, this.1, true_and]
      omega
theorem lev_shaped {d : D} (h : lev 8 d = true) : SeqAt.shaped (pd d) = true := by
  have := lev_lay 8 d h
  unfold SeqAt.shaped
  rw [this.1, decide_eq_true (by omega)]
  rfl
theorem sv_beq (x y : List Char) : (sv x == sv y) = decide (x = y) := by
  by_cases h : x = y
  · subst h; simp
  · rw [decide_eq_false h]
    exact beq_eq_false_iff_ne.mpr fun e => h (sv_inj e)
theorem eqv_peq : ∀ (n m : Nat) (a b : D), lev n a = true → lev m b = true → PyData.eqv (pd a) (pd b) = peq a b := by
  intro n
  induction n with
  | zero =>
    intro m a b ha hb
    cases a <;> simp only [lev, reduceCtorEq] at ha <;> cases b <;> cases m <;> simp only [lev, reduceCtorEq] at hb <;> simp [pd, PyData.eqv, peq, sv_beq]
  | succ n ih =>
    intro m a b ha hb
    have all : ∀ (xs ys : List D) (m : Nat), xs.all (lev n) = true → ys.all (lev m) = true → PyData.eqvAll (pdL xs) (pdL ys) = peqL xs ys := by
      intro xs
      induction xs with
      | nil => intro ys m _ _; cases ys <;> simp [pdL, PyData.eqvAll, peqL]
      | cons x xs ih2 =>
        intro ys m hx hy
        cases ys with
        | nil => simp [pdL, PyData.eqvAll, peqL]
        | cons y ys =>
          simp only [List.all_cons, Bool.and_eq_true] at hx hy
          simp only [pdL, PyData.eqvAll, peqL, ih m x y hx.1 hy.1, ih2 ys m hx.2 hy.2]
    cases a <;> simp only [lev, reduceCtorEq] at ha <;> cases b <;> cases m <;> simp only [lev, reduceCtorEq] at hb <;> first
      | (simp [pd, PyData.eqv, peq, sv_beq]; done)
      | (simp only [pd, PyData.eqv, peq]; exact all _ _ _ ha hb)
theorem ltL_lt : ∀ xs ys : List Nat, ltL xs ys = decide (xs < ys)
  | [], [] => by simp [ltL]
  | [], y :: ys => by simp [ltL]
  | x :: xs, [] => by simp [ltL]
  | x :: xs, y :: ys => by
    simp only [ltL, ltL_lt xs ys, List.cons_lt_cons_iff]
    by_cases h : x = y
    · subst h; simp
    · simp [h]
theorem cps_sv (s : List Char) : (sv s).cps.toList = chs s := by simp [sv, chs]

def cpn : CO → CmpOp
  | .eq => .Eq
  | .ne => .NotEq
  | .lt => .Lt
  | .le => .LtE
  | .gt => .Gt
  | .ge => .GtE
  | .is => .Is
  | .isnot => .IsNot
  | .isin => .In
  | .notin => .NotIn
def rCmp (Γ : Wd) (o : CO) : R2 := fun x y H Q => ∃ F dx dy fx fy b, Fz F H ∧ Rp Γ F H x dx fx ∧ Rp Γ F H y dy fy ∧ dCmp o dx dy = some b ∧ Q (.bl b) H
section
variable {Γ : Wd} {F H : Hp}
theorem dec_str2 (x y : Str) : decide (V.str x = V.str y) = decide (x = y) := by
  by_cases h : x = y
  · subst h; simp
  · rw [decide_eq_false h, decide_eq_false (fun e => h (V.str.inj e))]
theorem Rp.notNon {v : V} {d : D} {fp : List Addr} (h : Rp Γ F H v d fp) (s : d.seen = true) (n : d ≠ .non) : v ≠ .non := by
  intro e; subst e
  cases h <;> first | exact n rfl | cases s
theorem kDs_scal : ∀ {xs : List D}, xs.all D.scal = true → ∃ ks, kDs xs = some ks
  | [], _ => ⟨[], rfl⟩
  | x :: xs, h => by
    simp only [List.all_cons, Bool.and_eq_true] at h
    obtain ⟨ks, e⟩ := kDs_scal h.2
    have h1 := h.1
    cases x <;> simp only [D.scal, reduceCtorEq] at h1 <;> simp [kDs, kD, e]
theorem kDs_vals : ∀ {xs : List D} {vs : List V} {fp : List Addr} {ks : List L2.Key}, RpL Γ F H vs xs fp → kDs xs = some ks → vs = ks.map kV
  | [], vs, fp, ks, h, e => by
    cases h
    simp only [kDs, Option.some.injEq] at e; subst e; rfl
  | x :: xs, vs, fp, ks, h, e => by
    cases h with
    | cons a t =>
      simp only [kDs] at e
      cases e1 : kD x with
      | none => rw [e1] at e; simp at e
      | some k =>
        rw [e1] at e
        cases e2 : kDs xs with
        | none => rw [e2] at e; simp at e
        | some ks' =>
          rw [e2] at e
          simp only [Option.some.injEq] at e; subst e
          rw [kDs_vals t e2]
          cases x <;> simp only [kD, reduceCtorEq, Option.some.injEq] at e1 <;> subst e1
          · cases a; rfl
          · cases a; rfl
/-- a key as a value: of a dict with plain keys, of one with tuples -/
theorem Rp.keyK {y : V} {k : D} {fk : List Addr} (h : Rp Γ F H y k fk) (e : kOk k false = true) : ∃ key, kD k = some key ∧ y = kV key := by
  unfold kOk at e
  cases k <;> simp [D.key, D.isTup] at e
  · cases h; exact ⟨_, rfl, rfl⟩
  · cases h; exact ⟨_, rfl, rfl⟩
theorem Rp.keyT {y : V} {k : D} {fk : List Addr} (z : Fz F H) (h : Rp Γ F H y k fk) (e : kOk k true = true) : ∃ key b, tD k = some key ∧ y = .ref b ∧ H b = some (.tup (key.map kV)) := by
  unfold kOk at e
  cases k <;> simp [D.key, D.isTup] at e
  rename_i xs
  cases h with
  | tup e1 r =>
    obtain ⟨ks, e2⟩ := kDs_scal (xs := xs) (by simpa using e)
    have := kDs_vals r e2
    subst this
    exact ⟨ks, _, e2, rfl, z.sub _ _ e1⟩
theorem dfind_none {κ : Type} [DecidableEq κ] (f : D → Option κ) (hf : ∀ {k k' : D} {a b : κ}, f k = some a → f k' = some b → keq k' k = decide (b = a)) :
    ∀ {ks vs : List D} {kvs : List (κ × V)} {k : D} {y : κ}, ks.length = vs.length → ks.map f = kvs.map (fun p => some p.1) → f k = some y → dfind k ks vs = none → valV kvs y = none
  | [], _, [], _, _, _, _, _, _ => rfl
  | [], _, _ :: _, _, _, _, h, _, _ => by simp at h
  | _ :: _, [], _, _, _, hl, _, _, _ => by simp at hl
  | k' :: ks, v :: vs, [], _, _, _, h, _, _ => by simp at h
  | k' :: ks, v :: vs, (y', w) :: kvs, k, y, hl, h, hk, g => by
    simp only [List.map_cons, List.cons.injEq] at h
    have q := hf hk h.1
    simp only [dfind] at g
    by_cases c : y' = y
    · rw [q, decide_eq_true c, if_pos rfl] at g; cases g
    · rw [q, decide_eq_false c] at g
      simp only [Bool.false_eq_true, if_false] at g
      rw [valV_neg c]
      exact dfind_none f hf (by simpa using hl) h.2 hk g
/-- the entry of a dict -/
theorem Rp.dget (z : Fz F H) {v y : V} {k : D} {ks vs : List D} {m t : Bool} {fp fk : List Addr} (h : Rp Γ F H v (.dic m t ks vs) fp) (hk : Rp Γ F H y k fk) (key : kOk k t = true) :
    ∃ a o, v = .ref a ∧ DGet H a y o ∧ (dfind k ks vs = none → o = none) ∧ ∀ e, dfind k ks vs = some e → ∃ w fe, o = some w ∧ Rp Γ F H w e fe := by
  have getK : ∀ {a : Addr} {kvs : List (L2.Key × V)} {f0 : List Addr}, Rd H a (.dK kvs) → ks.map kD = kvs.map (fun p => some p.1) → RpL Γ F H (kvs.map (·.2)) vs f0 → kOk k false = true →
      ∃ o, DGet H a y o ∧ (dfind k ks vs = none → o = none) ∧ ∀ e, dfind k ks vs = some e → ∃ w fe, o = some w ∧ Rp Γ F H w e fe := fun {a kvs f0} e0 g0 r kk => by
    obtain ⟨key, e1, e2⟩ := hk.keyK kk
    refine ⟨valV kvs key, .inl ⟨kvs, key, e0, e2, rfl⟩, fun h => ?_, fun e he => ?_⟩
    · refine dfind_none kD kD_eq ?_ g0 e1 h
      have := r.length
      have l2 := congrArg List.length g0
      simp only [List.length_map] at this l2
      omega
    · obtain ⟨n, b1, _, _, b4⟩ := dfind_at kD kD_eq g0 e1 he
      obtain ⟨w, f1, f2, f3, c1, c2, c3⟩ := r.at b1
      exact ⟨w, f2, b4.trans c1, c3⟩
  have getT : ∀ {a : Addr} {kvs : List (List L2.Key × V)} {f0 : List Addr}, Rd H a (.dT kvs) → ks.map tD = kvs.map (fun p => some p.1) → RpL Γ F H (kvs.map (·.2)) vs f0 → kOk k true = true →
      ∃ o, DGet H a y o ∧ (dfind k ks vs = none → o = none) ∧ ∀ e, dfind k ks vs = some e → ∃ w fe, o = some w ∧ Rp Γ F H w e fe := fun {a kvs f0} e0 g0 r kk => by
    obtain ⟨key, b, e1, e2, e3⟩ := hk.keyT z kk
    refine ⟨valV kvs key, .inr ⟨kvs, key, b, e0, e2, e3, rfl⟩, fun h => ?_, fun e he => ?_⟩
    · refine dfind_none tD tD_eq ?_ g0 e1 h
      have := r.length
      have l2 := congrArg List.length g0
      simp only [List.length_map] at this l2
      omega
    · obtain ⟨n, b1, _, _, b4⟩ := dfind_at tD tD_eq g0 e1 he
      obtain ⟨w, f1, f2, f3, c1, c2, c3⟩ := r.at b1
      exact ⟨w, f2, b4.trans c1, c3⟩
  cases h with
  | dicF e0 g0 r _ => obtain ⟨o, h1, h2, h3⟩ := getK (z.sub.rd _ _ e0) g0.1 r key; exact ⟨_, o, rfl, h1, h2, h3⟩
  | dicFT e0 g0 r _ => obtain ⟨o, h1, h2, h3⟩ := getT (z.sub.rd _ _ e0) g0.1 r key; exact ⟨_, o, rfl, h1, h2, h3⟩
  | dicO e0 g0 r => obtain ⟨o, h1, h2, h3⟩ := getK (.inl e0) g0.1 r key; exact ⟨_, o, rfl, h1, h2, h3⟩
  | dicOT e0 g0 r => obtain ⟨o, h1, h2, h3⟩ := getT (.inl e0) g0.1 r key; exact ⟨_, o, rfl, h1, h2, h3⟩
end
theorem opr_din {X : Cx} (hu : X.A.units + 1 < cLine) : OpR X (compareOp .In) (fun y x H Q => ∃ a o, x = .ref a ∧ DGet H a y o ∧ Q (.bl o.isSome) H) := by
  intro pins s σ H y x v u Q I ry rx h
  obtain ⟨a, o, rfl, g, q⟩ := h
  obtain rfl : u = Value.ref a := rx
  exact d_in hu I g ry fun s3 I3 => ⟨.bl o.isSome, H, I3, rfl, q⟩
theorem opr_dnotin {X : Cx} (hu : X.A.units + 1 < cLine) : OpR X (compareOp .NotIn) (fun y x H Q => ∃ a o, x = .ref a ∧ DGet H a y o ∧ Q (.bl (!o.isSome)) H) := by
  intro pins s σ H y x v u Q I ry rx h
  obtain ⟨a, o, rfl, g, q⟩ := h
  obtain rfl : u = Value.ref a := rx
  exact d_notIn hu I g ry fun s3 I3 => ⟨.bl (!o.isSome), H, I3, rfl, q⟩
theorem any_pd (x : D) (hx : lev 8 x = true) : ∀ ys : List D, ys.all (lev 7) = true → ((pdL ys).any fun z => PyData.eqv z (pd x)) = ys.any fun y => peq y x
  | [], _ => rfl
  | y :: ys, h => by
    simp only [List.all_cons, Bool.and_eq_true] at h
    simp only [pdL, List.any_cons, any_pd x hx ys h.2, eqv_peq 7 8 y x h.1 hx]
mutual
theorem alike_pd : ∀ a b : D, alikeD a b = true → PySem.W.alike (pd a) (pd b) = true
  | .bl _, .bl _, _ => rfl
  | .int _, .int _, _ => rfl
  | .str _, .str _, _ => rfl
  | .tup xs, .tup ys, h => by
    rw [alikeD] at h
    show PySem.W.alike (.tuple (pdL xs)) (.tuple (pdL ys)) = true
    rw [PySem.W.alike]
    exact alike_pdL xs ys h
  | .non, b, h => by cases b <;> simp [alikeD] at h
  | .lst _ _, b, h => by cases b <;> simp [alikeD] at h
  | .dic _ _ _ _, b, h => by cases b <;> simp [alikeD] at h
  | .obj _ _ _, b, h => by cases b <;> simp [alikeD] at h
  | .ktup _, b, h => by cases b <;> simp [alikeD] at h
  | .scr _, b, h => by cases b <;> simp [alikeD] at h
  | .rep _, b, h => by cases b <;> simp [alikeD] at h
  | .hole, b, h => by cases b <;> simp [alikeD] at h
  | .raw _, b, h => by cases b <;> simp [alikeD] at h
  | .exn _ _ _, b, h => by cases b <;> simp [alikeD] at h
theorem alike_pdL : ∀ xs ys : List D, alikeL xs ys = true → PySem.W.alikeAll (pdL xs) (pdL ys) = true
  | [], [], _ => rfl
  | x :: xs, y :: ys, h => by
    rw [alikeL, Bool.and_eq_true] at h
    show PySem.W.alikeAll (pd x :: pdL xs) (pd y :: pdL ys) = true
    rw [PySem.W.alikeAll, alike_pd x y h.1, alike_pdL xs ys h.2]; rfl
  | [], _ :: _, h => by simp [alikeL] at h
  | _ :: _, [], h => by simp [alikeL] at h
end
mutual
theorem lt_pd : ∀ (n m : Nat) (a b : D), alikeD a b = true → lev n a = true → lev m b = true → PySem.W.dataLt (pd a) (pd b) = dlt a b
  | n, m, .bl x, .bl y, _, _, _ => by
    show PySem.W.dataLt (.bool x) (.bool y) = _
    rw [PySem.W.dataLt_bool]; cases x <;> cases y <;> rfl
  | n, m, .int x, .int y, _, _, _ => by
    show PySem.W.dataLt (.int x) (.int y) = _
    rw [PySem.W.dataLt_int]; rfl
  | n, m, .str x, .str y, _, _, _ => by
    show PySem.W.dataLt (.str (sv x)) (.str (sv y)) = strLt x y
    rw [PySem.W.dataLt_str, cps_sv, cps_sv, ← ltL_lt]; rfl
  | n + 1, m + 1, .tup xs, .tup ys, h, h1, h2 => by
    rw [alikeD] at h
    rw [lev] at h1 h2
    show PySem.W.dataLt (.tuple (pdL xs)) (.tuple (pdL ys)) = dltL xs ys
    rw [PySem.W.dataLt_tuple]
    exact lt_pdL n m xs ys h h1 h2
  | 0, m, .tup xs, .tup ys, h, h1, h2 => by simp [lev] at h1
  | n + 1, 0, .tup xs, .tup ys, h, h1, h2 => by simp [lev] at h2
  | _, _, .non, b, h, _, _ => by cases b <;> simp [alikeD] at h
  | _, _, .lst _ _, b, h, _, _ => by cases b <;> simp [alikeD] at h
  | _, _, .dic _ _ _ _, b, h, _, _ => by cases b <;> simp [alikeD] at h
  | _, _, .obj _ _ _, b, h, _, _ => by cases b <;> simp [alikeD] at h
  | _, _, .ktup _, b, h, _, _ => by cases b <;> simp [alikeD] at h
  | _, _, .scr _, b, h, _, _ => by cases b <;> simp [alikeD] at h
  | _, _, .rep _, b, h, _, _ => by cases b <;> simp [alikeD] at h
  | _, _, .hole, b, h, _, _ => by cases b <;> simp [alikeD] at h
  | _, _, .raw _, b, h, _, _ => by cases b <;> simp [alikeD] at h
  | _, _, .exn _ _ _, b, h, _, _ => by cases b <;> simp [alikeD] at h
theorem lt_pdL : ∀ (n m : Nat) (xs ys : List D), alikeL xs ys = true → xs.all (lev n) = true → ys.all (lev m) = true → PyProof.Rows.lexLt PyProof.Rows.itemOrd (PySem.W.keyToksAll (pdL xs)) (PySem.W.keyToksAll (pdL ys)) = dltL xs ys
  | _, _, [], [], _, _, _ => rfl
  | n, m, x :: xs, y :: ys, h, h1, h2 => by
    rw [alikeL, Bool.and_eq_true] at h
    rw [List.all_cons, Bool.and_eq_true] at h1 h2
    show PyProof.Rows.lexLt PyProof.Rows.itemOrd (PySem.W.keyToksAll (pd x :: pdL xs)) (PySem.W.keyToksAll (pd y :: pdL ys)) = _
    rw [PySem.W.dataLt_cons (alike_pd x y h.1), eqv_peq n m x y h1.1 h2.1, lt_pd n m x y h.1 h1.1 h2.1, lt_pdL n m xs ys h.2 h1.2 h2.2, dltL]
  | _, _, [], _ :: _, h, _, _ => by simp [alikeL] at h
  | _, _, _ :: _, [], h, _, _ => by simp [alikeL] at h
end
mutual
theorem alikeD_symm : ∀ a b : D, alikeD a b = true → alikeD b a = true
  | .bl _, .bl _, _ => rfl
  | .int _, .int _, _ => rfl
  | .str _, .str _, _ => rfl
  | .tup xs, .tup ys, h => by
    rw [alikeD] at h ⊢
    exact alikeL_comm xs ys h
  | .non, b, h => by cases b <;> simp [alikeD] at h
  | .lst _ _, b, h => by cases b <;> simp [alikeD] at h
  | .dic _ _ _ _, b, h => by cases b <;> simp [alikeD] at h
  | .obj _ _ _, b, h => by cases b <;> simp [alikeD] at h
  | .ktup _, b, h => by cases b <;> simp [alikeD] at h
  | .scr _, b, h => by cases b <;> simp [alikeD] at h
  | .rep _, b, h => by cases b <;> simp [alikeD] at h
  | .hole, b, h => by cases b <;> simp [alikeD] at h
  | .raw _, b, h => by cases b <;> simp [alikeD] at h
  | .exn _ _ _, b, h => by cases b <;> simp [alikeD] at h
theorem alikeL_comm : ∀ xs ys : List D, alikeL xs ys = true → alikeL ys xs = true
  | [], [], _ => rfl
  | x :: xs, y :: ys, h => by
    rw [alikeL, Bool.and_eq_true] at h ⊢
    exact ⟨alikeD_symm x y h.1, alikeL_comm xs ys h.2⟩
  | [], _ :: _, h => by simp [alikeL] at h
  | _ :: _, [], h => by simp [alikeL] at h
end
theorem alikeD_comm (a b : D) (h : alikeD a b = true) (h1 : lev 8 a = true) : PySem.W.alike (pd b) (pd a) = true := by
  rw [PySem.W.alike_comm]; exact alike_pd a b h
theorem mem_any (x : D) (hx : lev 8 x = true) (ys : List D) (hy : ys.all (lev 7) = true) : ((pdL ys).any fun z => PyData.eqv z (pd x)) = ys.any fun y => peq y x := any_pd x hx ys hy
/-- lists of different lengths -/
theorem op_eqL {X : Cx} (hu : X.A.units + 65 < cLine) : OpR X (compareOp .Eq) (fun x y H Q => ∃ a b xs ys, x = .ref a ∧ y = .ref b ∧ H a = some (.lst xs) ∧ H b = some (.lst ys) ∧ xs.length ≠ ys.length ∧ Q (.bl false) H) := by
  intro pins s σ H x y v u Q I rx ry h
  obtain ⟨a, b, xs, ys, rfl, rfl, ha, hb, hl, q⟩ := h
  cases rx
  cases ry
  obtain ⟨i1, r1, p1, _⟩ := I.list (.of ha)
  obtain ⟨i2, r2, p2, _⟩ := I.list (.of hb)
  have l1 := r1.length
  have l2 := r2.length
  exact SeqAt.eq_list_lengthsAt p1.isList p2.isList (by simp only [List.size_toArray, bne_iff_ne, ne_eq]; omega) (by omega) ⟨.bl false, H, I, rfl, q⟩
theorem op_neL {X : Cx} (hu : X.A.units + 65 < cLine) : OpR X (compareOp .NotEq) (fun x y H Q => ∃ a b xs ys, x = .ref a ∧ y = .ref b ∧ H a = some (.lst xs) ∧ H b = some (.lst ys) ∧ xs.length ≠ ys.length ∧ Q (.bl true) H) := by
  intro pins s σ H x y v u Q I rx ry h
  obtain ⟨a, b, xs, ys, rfl, rfl, ha, hb, hl, q⟩ := h
  cases rx
  cases ry
  obtain ⟨i1, r1, p1, _⟩ := I.list (.of ha)
  obtain ⟨i2, r2, p2, _⟩ := I.list (.of hb)
  have l1 := r1.length
  have l2 := r2.length
  exact SeqAt.RcNeAt.lists_lengths p1.isList p2.isList (by simp only [List.size_toArray, bne_iff_ne, ne_eq]; omega) (by omega) X.prog X.w X.xe _ ⟨.bl true, H, I, rfl, q⟩
theorem diffL_read {Γ : Wd} {F H : Hp} {x y : V} {dx dy : D} {fx fy : List Addr} {P : Prop} (z : Fz F H) (hx : Rp Γ F H x dx fx) (hy : Rp Γ F H y dy fy) (hd : diffL dx dy = true) (n : P) :
    ∃ a b xs ys, x = .ref a ∧ y = .ref b ∧ H a = some (.lst xs) ∧ H b = some (.lst ys) ∧ xs.length ≠ ys.length ∧ P := by
  unfold diffL at hd
  split at hd
  · obtain ⟨a, vs, f1, rfl, h1, r1⟩ := hx.lstS z
    obtain ⟨b, ws, f2, rfl, h2, r2⟩ := hy.lstS z
    have l1 := r1.length
    have l2 := r2.length
    exact ⟨a, b, vs, ws, rfl, rfl, h1, h2, by rw [l1, l2]; simpa using hd, n⟩
  · cases hd
theorem opr_cmp {X : Cx} {Γ : Wd} (hK : Γ.K = X.K) (hr : Room 0 X.A) (o : CO) : OpR X (compareOp (cpn o)) (rCmp Γ o) := by
  intro pins s σ H x y v u Q I rx ry h
  obtain ⟨F, dx, dy, fx, fy, b, z, hx, hy, e, n⟩ := h
  have hu : X.A.units + 65 < cLine := by have := hr.un; omega
  unfold dCmp at e
  split at e
  · cases e; cases hx.repS; cases hy.repS
    exact op_eq pins s σ H _ _ v u Q I rx ry ⟨rfl, by rw [dec_str2]; exact n⟩
  · cases e; cases hx.repS; cases hy.repS
    exact op_ne pins s σ H _ _ v u Q I rx ry ⟨rfl, by rw [dec_str2]; exact n⟩
  · cases e; cases hx.repS; cases hy.strS
    exact op_eq pins s σ H _ _ v u Q I rx ry ⟨rfl, by rw [dec_str2]; exact n⟩
  · cases e; cases hx.repS; cases hy.strS
    exact op_ne pins s σ H _ _ v u Q I rx ry ⟨rfl, by rw [dec_str2]; exact n⟩
  · split at e
    · rename_i hl
      cases e
      simp only [Bool.and_eq_true] at hl
      refine op_eqD (by omega) pins s σ H _ _ v u Q I rx ry ⟨pd dx, pd dy, hK ▸ hx.dp z 8 hl.1, hK ▸ hy.dp z 8 hl.2, lev_shaped hl.1, lev_shaped hl.2, ?_⟩
      rw [eqv_peq 8 8 _ _ hl.1 hl.2]; exact n
    · split at e
      · rename_i hd
        cases e
        exact op_eqL hu pins s σ H _ _ v u Q I rx ry (diffL_read z hx hy hd n)
      · cases e
  · split at e
    · rename_i hl
      cases e
      simp only [Bool.and_eq_true] at hl
      refine op_neD (by omega) pins s σ H _ _ v u Q I rx ry ⟨pd dx, pd dy, hK ▸ hx.dp z 8 hl.1, hK ▸ hy.dp z 8 hl.2, lev_shaped hl.1, lev_shaped hl.2, ?_⟩
      rw [eqv_peq 8 8 _ _ hl.1 hl.2]; exact n
    · split at e
      · rename_i hd
        cases e
        exact op_neL hu pins s σ H _ _ v u Q I rx ry (diffL_read z hx hy hd n)
      · cases e
  · cases e; cases hx.intS; cases hy.intS
    exact op_lt pins s σ H _ _ v u Q I rx ry ⟨_, _, rfl, rfl, n⟩
  · cases e; cases hx.intS; cases hy.intS
    exact op_le pins s σ H _ _ v u Q I rx ry ⟨_, _, rfl, rfl, n⟩
  · cases e; cases hx.intS; cases hy.intS
    exact op_gt pins s σ H _ _ v u Q I rx ry ⟨_, _, rfl, rfl, n⟩
  · cases e; cases hx.intS; cases hy.intS
    exact op_ge pins s σ H _ _ v u Q I rx ry ⟨_, _, rfl, rfl, n⟩
  · cases e; cases hx.strS; cases hy.strS
    refine op_lt_str pins s σ H _ _ v u Q I rx ry ⟨_, _, rfl, rfl, ?_⟩
    rw [cps_sv, cps_sv, ← ltL_lt]; exact n
  · cases e; cases hx.strS; cases hy.strS
    refine op_le_str pins s σ H _ _ v u Q I rx ry ⟨_, _, rfl, rfl, ?_⟩
    rw [cps_sv, cps_sv, ← ltL_lt]; exact n
  · cases e; cases hx.strS; cases hy.strS
    refine op_gt_str pins s σ H _ _ v u Q I rx ry ⟨_, _, rfl, rfl, ?_⟩
    rw [cps_sv, cps_sv, ← ltL_lt]; exact n
  · cases e; cases hx.nonS; cases hy.nonS
    exact op_isN pins s σ H _ _ v u Q I rx ry ⟨rfl, n⟩
  · cases e; cases hx.nonS; cases hy.nonS
    exact op_notN pins s σ H _ _ v u Q I rx ry ⟨rfl, n⟩
  · rename_i hnn
    split at e
    · rename_i hs
      cases e; cases hy.nonS
      refine op_isN pins s σ H _ _ v u Q I rx ry ⟨rfl, ?_⟩
      rw [decide_eq_false (hx.notNon hs fun e => hnn e)]; exact n
    · cases e
  · rename_i hnn
    split at e
    · rename_i hs
      cases e; cases hy.nonS
      refine op_notN pins s σ H _ _ v u Q I rx ry ⟨rfl, ?_⟩
      rw [decide_eq_false (hx.notNon hs fun e => hnn e)]; exact n
    · cases e
  · split at e
    · rename_i ys hl
      cases e
      simp only [Bool.and_eq_true] at hl
      have d2 := hy.dp z 8 (d := .lst _ ys) hl.2
      refine op_inD hu pins s σ H _ _ v u Q I rx ry ⟨pd dx, pdL ys, hK ▸ hx.dp z 8 hl.1, hK ▸ d2, lev_shaped hl.1, lev_shaped (d := .lst true ys) hl.2, ?_⟩
      rw [any_pd dx hl.1 ys hl.2]; exact n
    · cases e
  · split at e
    · rename_i ks vs hl
      cases e
      obtain ⟨a, o, rfl, g, g1, g2⟩ := hy.dget z hx hl
      refine opr_din (by omega) pins s σ H _ _ v u Q I rx ry ⟨a, o, rfl, g, ?_⟩
      have : o.isSome = (dfind dx ks vs).isSome := by
        cases c : dfind dx ks vs with
        | none => rw [g1 c]; rfl
        | some e => obtain ⟨w, fe, e1, _⟩ := g2 e c; rw [e1]; rfl
      rw [this]; exact n
    · cases e
  · cases e; cases hx.strS; cases hy.strS
    rename_i c y'
    refine op_in_sign pins s σ H _ _ v u Q I rx ry ⟨c.toNat, sv y', rfl, rfl, ?_⟩
    rw [cps_sv]
    have : decide (c.toNat ∈ chs y') = y'.contains c := by
      simp only [chs, List.mem_map]
      rw [Bool.eq_iff_iff]
      simp only [decide_eq_true_eq, List.contains_iff_mem]
      exact ⟨fun ⟨d, hd, e⟩ => by rw [← Char.toNat_inj.mp e]; exact hd, fun h => ⟨c, h, rfl⟩⟩
    rw [this]; exact n
  · split at e
    · rename_i ys hl
      cases e
      simp only [Bool.and_eq_true] at hl
      have d2 := hy.dp z 8 (d := .lst _ ys) hl.2
      refine op_notInD hu pins s σ H _ _ v u Q I rx ry ⟨pd dx, pdL ys, hK ▸ hx.dp z 8 hl.1, hK ▸ d2, lev_shaped hl.1, lev_shaped (d := .lst true ys) hl.2, ?_⟩
      rw [any_pd dx hl.1 ys hl.2]; exact n
    · cases e
  · split at e
    · rename_i ks vs hl
      cases e
      obtain ⟨a, o, rfl, g, g1, g2⟩ := hy.dget z hx hl
      refine opr_dnotin (by omega) pins s σ H _ _ v u Q I rx ry ⟨a, o, rfl, g, ?_⟩
      have : o.isSome = (dfind dx ks vs).isSome := by
        cases c : dfind dx ks vs with
        | none => rw [g1 c]; rfl
        | some e => obtain ⟨w, fe, e1, _⟩ := g2 e c; rw [e1]; rfl
      rw [this]; exact n
    · cases e
  · cases e; cases hx.strS; cases hy.strS
    rename_i c y'
    refine op_notIn_sign pins s σ H _ _ v u Q I rx ry ⟨c.toNat, sv y', rfl, rfl, ?_⟩
    rw [cps_sv]
    have : decide (c.toNat ∈ chs y') = y'.contains c := by
      simp only [chs, List.mem_map]
      rw [Bool.eq_iff_iff]
      simp only [decide_eq_true_eq, List.contains_iff_mem]
      exact ⟨fun ⟨d, hd, e⟩ => by rw [← Char.toNat_inj.mp e]; exact hd, fun h => ⟨c, h, rfl⟩⟩
    rw [this]; exact n
  · split at e
    · rename_i ys hl
      cases e
      simp only [Bool.and_eq_true] at hl
      have d1 := hx.dp z 8 hl.1
      have d2 := hy.dp z 8 (d := .tup ys) hl.2
      rw [hK] at d1 d2
      obtain ⟨as, r1⟩ := Dp.reads I _ x v d1 rx
      obtain ⟨bs, r2⟩ := Dp.reads I (.tuple (pdL ys)) y u d2 ry
      refine SeqAt.in_tuple_reads r2 r1 (SeqAt.canLay_of_shaped (lev_shaped (d := .tup ys) hl.2)) (SeqAt.canLay_of_shaped (lev_shaped hl.1)) (room_in_shaped (lev_shaped hl.1) hu) ⟨.bl _, H, I, rfl, ?_⟩
      rw [any_pd dx hl.1 ys hl.2]; exact n
    · cases e
  · split at e
    · rename_i ys hl
      cases e
      simp only [Bool.and_eq_true] at hl
      have d1 := hx.dp z 8 hl.1
      have d2 := hy.dp z 8 (d := .ktup ys) hl.2
      rw [hK] at d1 d2
      obtain ⟨as, r1⟩ := Dp.reads I _ x v d1 rx
      obtain ⟨bs, r2⟩ := Dp.reads I (.tuple (pdL ys)) y u d2 ry
      refine SeqAt.in_tuple_reads r2 r1 (SeqAt.canLay_of_shaped (lev_shaped (d := .ktup ys) hl.2)) (SeqAt.canLay_of_shaped (lev_shaped hl.1)) (room_in_shaped (lev_shaped hl.1) hu) ⟨.bl _, H, I, rfl, ?_⟩
      rw [any_pd dx hl.1 ys hl.2]; exact n
    · cases e
  · split at e
    · rename_i ys hl
      cases e
      simp only [Bool.and_eq_true] at hl
      have d1 := hx.dp z 8 hl.1
      have d2 := hy.dp z 8 (d := .tup ys) hl.2
      rw [hK] at d1 d2
      obtain ⟨as, r1⟩ := Dp.reads I _ x v d1 rx
      obtain ⟨bs, r2⟩ := Dp.reads I (.tuple (pdL ys)) y u d2 ry
      refine SeqAt.notIn_tuple_reads r2 r1 (SeqAt.canLay_of_shaped (lev_shaped (d := .tup ys) hl.2)) (SeqAt.canLay_of_shaped (lev_shaped hl.1)) (room_in_shaped (lev_shaped hl.1) hu) ⟨.bl _, H, I, rfl, ?_⟩
      rw [any_pd dx hl.1 ys hl.2]; exact n
    · cases e
  · split at e
    · rename_i ys hl
      cases e
      simp only [Bool.and_eq_true] at hl
      have d1 := hx.dp z 8 hl.1
      have d2 := hy.dp z 8 (d := .ktup ys) hl.2
      rw [hK] at d1 d2
      obtain ⟨as, r1⟩ := Dp.reads I _ x v d1 rx
      obtain ⟨bs, r2⟩ := Dp.reads I (.tuple (pdL ys)) y u d2 ry
      refine SeqAt.notIn_tuple_reads r2 r1 (SeqAt.canLay_of_shaped (lev_shaped (d := .ktup ys) hl.2)) (SeqAt.canLay_of_shaped (lev_shaped hl.1)) (room_in_shaped (lev_shaped hl.1) hu) ⟨.bl _, H, I, rfl, ?_⟩
      rw [any_pd dx hl.1 ys hl.2]; exact n
    · cases e
  · split at e
    · rename_i xs ys hl
      cases e
      simp only [Bool.and_eq_true] at hl
      obtain ⟨⟨al, l1⟩, l2⟩ := hl
      have d1 := hx.dp z 8 (d := .tup xs) l1
      have d2 := hy.dp z 8 (d := .tup ys) l2
      rw [hK] at d1 d2
      obtain ⟨as, r1⟩ := Dp.reads I (.tuple (pdL xs)) x v d1 rx
      obtain ⟨bs, r2⟩ := Dp.reads I (.tuple (pdL ys)) y u d2 ry
      have q1 := (lev_lay 8 (.tup xs) l1).2
      refine PySem.W.lt_data r1 r2 (by rw [PySem.W.alike]; exact alike_pdL xs ys al) (by intro q; cases q) (by show X.A.units + min (pd (.tup xs)).depth (pd (.tup ys)).depth < cLine; omega) ⟨.bl _, H, I, rfl, ?_⟩
      rw [show PySem.W.dataLt (.tuple (pdL xs)) (.tuple (pdL ys)) = dltL xs ys from lt_pd 8 8 (.tup xs) (.tup ys) (by rw [alikeD]; exact al) l1 l2]; exact n
    · cases e
  · split at e
    · rename_i xs ys hl
      cases e
      simp only [Bool.and_eq_true] at hl
      obtain ⟨⟨al, l1⟩, l2⟩ := hl
      have d1 := hx.dp z 8 (d := .tup xs) l1
      have d2 := hy.dp z 8 (d := .tup ys) l2
      rw [hK] at d1 d2
      obtain ⟨as, r1⟩ := Dp.reads I (.tuple (pdL xs)) x v d1 rx
      obtain ⟨bs, r2⟩ := Dp.reads I (.tuple (pdL ys)) y u d2 ry
      have q1 := (lev_lay 8 (.tup xs) l1).2
      refine PySem.W.le_data r1 r2 (by rw [PySem.W.alike]; exact alike_pdL xs ys al) (by intro q; cases q) (by show X.A.units + min (pd (.tup xs)).depth (pd (.tup ys)).depth < cLine; omega) ⟨.bl _, H, I, rfl, ?_⟩
      rw [show PySem.W.dataLt (.tuple (pdL ys)) (.tuple (pdL xs)) = dltL ys xs from lt_pd 8 8 (.tup ys) (.tup xs) (by rw [alikeD]; exact alikeL_comm xs ys al) l2 l1]; exact n
    · cases e
  · cases e
end VI

end

section
/-! ViE4: readings of tests, displays, subscripts. -/
namespace VI
open PySem L2 PyProof.Rows

theorem bind_assoc {α β γ : Type} (x : Rs α) (f : α → Fr → Rs β) (g : β → Fr → Rs γ) : (x.bind f).bind g = x.bind fun a fr => (f a fr).bind g := by
  cases x with
  | ok a fr q =>
    simp only [Rs.bind]
    cases f a fr with
    | ok b fr' q' =>
      simp only
      cases g b fr' with
      | ok c fr2 q2 => simp [Bool.and_assoc]
      | ex _ _ _ => rfl
      | no => rfl
    | ex _ _ _ => rfl
    | no => rfl
  | ex _ _ _ => rfl
  | no => rfl
theorem look_noex {r : Rv} {fr fr' : Fr} {c : String} {z : D} (h : r.look fr = .ex c z fr') : False := by
  cases r <;> simp only [Rv.look] at h <;> (repeat' split at h) <;> cases h
theorem freeze_noex {x : Nat} {p : List Sp1} {fr fr' : Fr} {c : String} {z : D} (h : VI.freeze x p fr = .ex c z fr') : False := by
  unfold VI.freeze at h
  (repeat' split at h) <;> cases h
theorem view_noex {r : Rv} {fr fr' : Fr} {c : String} {z : D} (h : r.view fr = .ex c z fr') : False := by
  cases r <;> simp only [Rv.view] at h <;> (repeat' split at h) <;> first | (cases h; done) | exact freeze_noex h
theorem own_noex {r : Rv} {fr fr' : Fr} {c : String} {z : D} (h : r.own fr = .ex c z fr') : False := by
  cases r <;> simp only [Rv.own] at h <;> (repeat' split at h) <;> first | (cases h; done) | exact freeze_noex h
theorem owns_noex : ∀ {rs : List Rv} {fr fr' : Fr} {c : String} {z : D}, owns rs fr = .ex c z fr' → False
  | [], _, _, _, _, h => by cases h
  | r :: rs, fr, fr', c, z, h => by
    simp only [owns] at h
    cases e : r.own fr with
    | ex _ _ _ => exact own_noex e
    | no => rw [e] at h; cases h
    | ok d f1 q1 =>
      rw [e] at h
      simp only [Rs.bind] at h
      cases e2 : owns rs f1 with
      | ex _ _ _ => exact owns_noex e2
      | no => rw [e2] at h; cases h
      | ok ds f2 q2 => rw [e2] at h; cases h
theorem views_noex : ∀ {rs : List Rv} {fr fr' : Fr} {c : String} {z : D}, views rs fr = .ex c z fr' → False
  | [], _, _, _, _, h => by cases h
  | r :: rs, fr, fr', c, z, h => by
    simp only [views] at h
    cases e : r.view fr with
    | ex _ _ _ => exact view_noex e
    | no => rw [e] at h; cases h
    | ok d f1 q1 =>
      rw [e] at h
      simp only [Rs.bind] at h
      cases e2 : views rs f1 with
      | ex _ _ _ => exact views_noex e2
      | no => rw [e2] at h; cases h
      | ok ds f2 q2 => rw [e2] at h; cases h
/-- a step that lets nothing out -/
theorem rG_step {α β : Type} {ok : β → Fr → Bool → Prop} {ex : String → D → Fr → Prop} {x : Rs α} {g : α → Fr → Rs β} (h : rG ok ex (x.bind g)) (n : ∀ c z fr, x = .ex c z fr → False) :
    ∃ a fr q, x = .ok a fr q ∧ rG (fun b fr' q' => ok b fr' (q && q')) ex (g a fr) := by
  have h := rG_bind h
  cases x with
  | ok a fr q => exact ⟨a, fr, q, rfl, h⟩
  | ex c z fr => exact (n c z fr rfl).elim
  | no => exact h.elim

section
variable {X : Cx} {Γ : Wd} {fld : String → Option String} {W : WX} {fa fb fc : Fr → Rs Rv} {a b c : Expr} {pos : Pos}
/-- both looked at -/
theorem look2 {α : Type} {B : Bd} {F : Hp} {T : List (V × D)} {af : Fr} {σ : L2.St} {H : Hp} {ok : α → Fr → Bool → Prop} {ex : String → D → Fr → Prop} {r r' : Rv} {v w : V} {g : D → D → Fr → Rs α}
    (p : PRs Γ B σ F H af T [r, r'] [v, w]) (h : rG ok ex ((r.look af).bind fun x fr => (r'.look fr).bind fun y fr => g x y fr)) :
    ∃ x y fx fy q q', Rp Γ F H v x fx ∧ Rp Γ F H w y fy ∧ rG (fun b fr' q2 => ok b fr' (q && (q' && q2))) ex (g x y af) ∧ Sta Γ B F H σ af T := by
  obtain ⟨x, f1, q1, e1, h1⟩ := rG_step h fun _ _ _ => look_noex
  obtain ⟨p1, p2⟩ := p.head
  obtain ⟨rfl, ⟨L, S⟩, fx, rx⟩ := look_one p1 e1
  obtain ⟨y, f2, q2, e2, h2⟩ := rG_step h1 fun _ _ _ => look_noex
  have pr' : PR Γ B σ F H f1 (L ++ T) r' w := by
    cases r' with
    | tmp d => exact S.perm List.perm_middle
    | plc x p => exact ⟨S, p2.1⟩
  obtain ⟨rfl, ⟨L2, S2⟩, fy, ry⟩ := look_one pr' e2
  exact ⟨x, y, fx, fy, q1, q2, rx, ry, h2, (show Sta Γ B F H σ f2 ((L2 ++ L) ++ T) by rw [List.append_assoc]; exact S2).dropL⟩
theorem pe_cmpD {o : CO} (hK : Γ.K = X.K) (hr : Room 0 X.A) (ha : PE X a (tE Γ fld W fa)) (hb : PE X b (tE Γ fld W fb)) (hm : behindInMarks (cpn o) b = false) :
    PE X (.Compare a [cpn o] [b] pos) (tE Γ fld W (fun fr => (opCmp o fa fb fr).bind fun b fr => .ok (.tmp (.bl b)) fr true)) := by
  refine (pe_cmpR (opr_cmp hK hr o) ha hb hm).imp fun σ H Q h => ?_
  obtain ⟨B, F, T, af, S, h⟩ := h
  simp only [opCmp, bind_assoc] at h
  refine op2_step S h fun r r' f1 q1 h1 v w H1 F1 l1 k1 p => ?_
  obtain ⟨x, y, fx, fy, q, q', rx, ry, h2, S1⟩ := look2 p h1
  cases e : dCmp o x y with
  | none => rw [e] at h2; exact h2.elim
  | some k =>
    rw [e] at h2
    have h2 : okE Γ B F T af σ H Q (.tmp (.bl k)) f1 (q1 && (q && (q' && true))) := h2
    exact ⟨F1, x, y, fx, fy, k, S1.fz, rx, ry, e, h2 (.bl k) H1 F1 l1 (fun hq => k1 (by simp only [Bool.and_eq_true] at hq; exact hq.1)) (S1.addPure (.bl k) rfl)⟩
theorem pt_cmpD {o : CO} (hK : Γ.K = X.K) (hr : Room 0 X.A) (ha : PE X a (tE Γ fld W fa)) (hb : PE X b (tE Γ fld W fb)) (hm : behindInMarks (cpn o) b = false) :
    PT X (.Compare a [cpn o] [b] pos) (tT Γ fld W (opCmp o fa fb)) := by
  refine (pt_cmpR (opr_cmp hK hr o) ha hb hm).imp fun σ H Q h => ?_
  obtain ⟨B, F, T, af, S, h⟩ := h
  simp only [opCmp] at h
  refine op2_step S h fun r r' f1 q1 h1 v w H1 F1 l1 k1 p => ?_
  obtain ⟨x, y, fx, fy, q, q', rx, ry, h2, S1⟩ := look2 p h1
  cases e : dCmp o x y with
  | none => rw [e] at h2; exact h2.elim
  | some k =>
    rw [e] at h2
    have h2 : okT Γ B F T af σ H Q k f1 (q1 && (q && (q' && true))) := h2
    exact ⟨F1, x, y, fx, fy, k, S1.fz, rx, ry, e, k, rfl, h2 H1 F1 l1 (fun hq => k1 (by simp only [Bool.and_eq_true] at hq; exact hq.1)) S1⟩
/-- a < b < c -/
theorem chain_core {o o' : CO} {σ : L2.St} {H : Hp} {Q : Bool → Hp → Prop} {B : Bd} {F : Hp} {T : List (V × D)} {af : Fr} (S : Sta Γ B F H σ af T) {α : Type} {ok : α → Fr → Bool → Prop} {g : Bool → Fr → Rs α}
    (h : rG ok (exW Γ fld W B σ T) ((opChain o o' fa fb fc af).bind g))
    (k : ∀ b f1 q1 H1 F1, rG (fun x fr' q' => ok x fr' (q1 && q')) (exW Γ fld W B σ T) (g b f1) → FLe F F1 → (q1 = true → f1 = af ∧ HLe H H1) → Sta Γ B F1 H1 σ f1 T → Q b H1) :
    tE Γ fld W fa σ H fun x H1 => tE Γ fld W fb σ H1 fun y H2 => rCmp Γ o x y H2 fun z H3 => ∃ k, z = .bl k ∧ if k = true then tE Γ fld W fc σ H3 fun u H4 => rCmp Γ o' y u H4 fun z H5 => ∃ k, z = .bl k ∧ Q k H5 else Q false H3 := by
  simp only [opChain, bind_assoc] at h
  refine op2_step S h fun r r' f1 q1 h1 v w H1 F1 l1 k1 p => ?_
  obtain ⟨x, y, fx, fy, q, q', rx, ry, h2, S1⟩ := look2 p h1
  by_cases hp : y.pure = true
  · rw [if_pos hp] at h2
    cases e : dCmp o x y with
    | none => rw [e] at h2; exact h2.elim
    | some b =>
      rw [e] at h2
      refine ⟨F1, x, y, fx, fy, b, S1.fz, rx, ry, e, b, rfl, ?_⟩
      cases b with
      | false =>
        rw [if_neg Bool.false_ne_true]
        have h3 : rG (fun b fr' q2 => ok b fr' (q1 && (q && (q' && (true && q2))))) (exW Γ fld W B σ T) (g false f1) := rG_bind h2
        refine k false f1 (q1 && (q && (q' && true))) H1 F1 (rG_mono h3 (fun b fr q e1 h => ?_) fun _ _ _ h => h) l1 (fun hq => k1 (by simp only [Bool.and_eq_true] at hq; exact hq.1)) S1
        simpa [Bool.and_assoc] using h
      | true =>
        rw [if_pos rfl]
        simp only [bind_assoc] at h2
        refine tE_step S1 h2 (fun _ _ _ h => h) fun r3 f3 q3 e3 h3 u H3 F3 l3 k3 p3 => ?_
        obtain ⟨z, f4, q4, e4, h4⟩ := rG_step h3 fun _ _ _ => look_noex
        obtain ⟨rfl, ⟨L, S3⟩, fz, rz⟩ := look_one p3 e4
        cases e5 : dCmp o' y z with
        | none => rw [e5] at h4; exact h4.elim
        | some b =>
          rw [e5] at h4
          refine ⟨F3, y, z, [], fz, b, S3.fz, ry.any l3.k hp, rz, e5, b, rfl, ?_⟩
          have h5 : rG (fun b fr' q2 => ok b fr' (q1 && (q && (q' && (q3 && (q4 && (true && q2))))))) (exW Γ fld W B σ T) (g b f4) := rG_bind h4
          refine k b f4 ((q1 && (q && q')) && (q3 && (q4 && true))) H3 F3 (rG_mono h5 (fun b fr q e1 h => ?_) fun _ _ _ h => h) (l1.trans l3) (fun hq => ?_) S3.dropL
          · simpa [Bool.and_assoc] using h
          · simp only [Bool.and_eq_true] at hq
            obtain ⟨a1, a2⟩ := k1 hq.1.1
            obtain ⟨b1, b2⟩ := k3 hq.2.1
            exact ⟨b1.trans a1, a2.trans b2⟩
  · rw [if_neg hp] at h2; exact h2.elim
theorem pe_chainD {o o' : CO} (hK : Γ.K = X.K) (hr : Room 0 X.A) (ha : PE X a (tE Γ fld W fa)) (hb : PE X b (tE Γ fld W fb)) (hc : PE X c (tE Γ fld W fc)) (hm : lastMarks [cpn o, cpn o'] [b, c] = false) :
    PE X (.Compare a [cpn o, cpn o'] [b, c] pos) (tE Γ fld W (fun fr => (opChain o o' fa fb fc fr).bind fun b fr => .ok (.tmp (.bl b)) fr true)) := by
  refine (pe_chain (opr_cmp hK hr o) (opr_cmp hK hr o') ha hb hc hm).imp fun σ H Q h => ?_
  obtain ⟨B, F, T, af, S, h⟩ := h
  have := chain_core (Q := fun b H' => Q (.bl b) H') S h fun b f1 q1 H1 F1 h1 l1 k1 S1 => h1 (.bl b) H1 F1 l1 (fun hq => k1 (by simpa using hq)) (S1.addPure (.bl b) rfl)
  obtain ⟨B1, F1, T1, a1, S1, h1⟩ := this
  refine ⟨B1, F1, T1, a1, S1, rG_mono h1 (fun r f2 q2 e2 h2 v H2 F2 l2 k2 p2 => ?_) fun _ _ _ h => h⟩
  obtain ⟨B2, F3, T2, a2, S2, h3⟩ := h2 v H2 F2 l2 k2 p2
  refine ⟨B2, F3, T2, a2, S2, rG_mono h3 (fun r f3 q3 e3 h4 w H3 F4 l3 k3 p3 => ?_) fun _ _ _ h => h⟩
  obtain ⟨Fx, dx, dy, fx, fy, b, z, rx, ry, e, k, ek, h5⟩ := h4 w H3 F4 l3 k3 p3
  refine ⟨Fx, dx, dy, fx, fy, b, z, rx, ry, e, k, ek, ?_⟩
  cases k with
  | false => exact h5
  | true =>
    rw [if_pos rfl] at h5 ⊢
    obtain ⟨B4, F5, T4, a4, S4, h6⟩ := h5
    refine ⟨B4, F5, T4, a4, S4, rG_mono h6 (fun r f5 q5 e5 h7 u H5 F6 l5 k5 p5 => ?_) fun _ _ _ h => h⟩
    obtain ⟨Fx, dx, dy, fx, fy, b, z, rx, ry, e, k, ek, h8⟩ := h7 u H5 F6 l5 k5 p5
    cases ek
    exact ⟨Fx, dx, dy, fx, fy, _, z, rx, ry, e, h8⟩
theorem pt_chainD {o o' : CO} (hK : Γ.K = X.K) (hr : Room 0 X.A) (ha : PE X a (tE Γ fld W fa)) (hb : PE X b (tE Γ fld W fb)) (hc : PE X c (tE Γ fld W fc)) (hm : lastMarks [cpn o, cpn o'] [b, c] = false) :
    PT X (.Compare a [cpn o, cpn o'] [b, c] pos) (tT Γ fld W (opChain o o' fa fb fc)) := by
  refine (pt_chain (opr_cmp hK hr o) (opr_cmp hK hr o') ha hb hc hm).imp fun σ H Q h => ?_
  obtain ⟨B, F, T, af, S, h⟩ := h
  have h' : rG (okT Γ B F T af σ H Q) (exW Γ fld W B σ T) ((opChain o o' fa fb fc af).bind fun b fr => .ok b fr true) := by
    cases e : opChain o o' fa fb fc af with
    | ok b fr q => rw [e] at h; simpa [Rs.bind, rG] using h
    | ex _ _ _ => rw [e] at h; exact h
    | no => rw [e] at h; exact h
  have := chain_core (Q := Q) S h' fun b f1 q1 H1 F1 h1 l1 k1 S1 => h1 H1 F1 l1 (fun hq => k1 (by simpa using hq)) S1
  obtain ⟨B1, F1, T1, a1, S1, h1⟩ := this
  refine ⟨B1, F1, T1, a1, S1, rG_mono h1 (fun r f2 q2 e2 h2 v H2 F2 l2 k2 p2 => ?_) fun _ _ _ h => h⟩
  obtain ⟨B2, F3, T2, a2, S2, h3⟩ := h2 v H2 F2 l2 k2 p2
  refine ⟨B2, F3, T2, a2, S2, rG_mono h3 (fun r f3 q3 e3 h4 w H3 F4 l3 k3 p3 => ?_) fun _ _ _ h => h⟩
  obtain ⟨Fx, dx, dy, fx, fy, b, z, rx, ry, e, k, ek, h5⟩ := h4 w H3 F4 l3 k3 p3
  refine ⟨Fx, dx, dy, fx, fy, b, z, rx, ry, e, k, ek, ?_⟩
  cases k with
  | false => exact ⟨false, rfl, h5⟩
  | true => exact h5
/-! ### tests -/
theorem pt_e {e : Expr} {f : Fr → Rs Rv} (hK : Γ.K = X.K) (he : PE X e (tE Γ fld W f)) (ht : ∀ whole, isTrue e X.env whole = (do let v ← whole; standAt e.pos; holding [v] (truthy v))) :
    PT X e (tT Γ fld W (fun fr => (f fr).bind fun r fr => truthR r fr)) := by
  refine (pt_truth he ht).imp fun σ H Q h => ?_
  obtain ⟨B, F, T, af, S, h⟩ := h
  refine tE_step S h (fun _ _ _ h => h) fun r f1 q1 e1 h1 v H1 F1 l1 k1 p1 => ?_
  simp only [truthR] at h1
  obtain ⟨d, f2, q2, e2, h2⟩ := rG_step h1 fun _ _ _ => look_noex
  obtain ⟨rfl, ⟨L, S1⟩, fd, rd⟩ := look_one p1 e2
  have z := S1.fz
  have fin : ∀ {k : Bool}, d.truth = some k → Q k H1 := fun {k} hk => by
    rw [hk] at h2
    exact h2 H1 F1 l1 (fun hq => k1 (by simp only [Bool.and_eq_true] at hq; exact hq.1)) S1.dropL
  cases d with
  | non => cases rd; exact ⟨false, rfl, fin rfl⟩
  | bl b => cases rd; exact ⟨b, rfl, fin rfl⟩
  | int i => cases rd; exact ⟨_, rfl, fin (by simp only [D.truth]; congr 1; by_cases hi : i = 0 <;> simp [hi])⟩
  | str s =>
    cases rd
    by_cases hl : s.length ≤ line
    · refine ⟨_, ⟨by rw [sv_length, ← line_eq]; exact hl, rfl⟩, fin ?_⟩
      simp only [D.truth, if_pos hl, sv_length]
      cases s with
      | nil => rfl
      | cons c s => simp; omega
    · simp only [D.truth, if_neg hl] at h2; exact h2.elim
  | tup xs =>
    obtain ⟨a, vs, fq, rfl, e, r⟩ := rd.tupS z
    refine ⟨!vs.isEmpty, .inr (.inl ⟨vs, hK ▸ e, rfl⟩), fin ?_⟩
    simp only [D.truth]
    cases r <;> rfl
  | ktup xs =>
    obtain ⟨a, vs, fq, rfl, e, r⟩ := rd.ktupS
    refine ⟨!vs.isEmpty, .inr (.inl ⟨vs, hK ▸ e, rfl⟩), fin ?_⟩
    simp only [D.truth]
    cases r <;> rfl
  | lst m xs =>
    obtain ⟨a, vs, fq, rfl, e, r⟩ := rd.lstS z
    refine ⟨!vs.isEmpty, .inl ⟨vs, .of e, rfl⟩, fin ?_⟩
    simp only [D.truth]
    cases r <;> rfl
  | scr xs =>
    obtain ⟨a, vs, fq, rfl, e, r⟩ := rd.scrS z
    refine ⟨!vs.isEmpty, .inl ⟨vs, hK ▸ e, rfl⟩, fin ?_⟩
    simp only [D.truth]
    cases r <;> rfl
  | dic _ _ _ _ => exact h2.elim
  | obj _ _ _ => exact h2.elim
  | rep _ => exact h2.elim
  | hole => exact h2.elim
  | raw _ => exact h2.elim
  | exn _ _ _ => exact h2.elim
section
variable {ca cb : Fr → Rs Bool}
theorem tT_not {t : TT} (h : ∀ σ H Q, tT Γ fld W ca σ H Q → t σ H Q) : ∀ σ H Q, tT Γ fld W (fun fr => (ca fr).bind fun b fr => .ok (!b) fr true) σ H Q → tNot t σ H Q := by
  intro σ H Q hh
  obtain ⟨B, F, T, af, S, hh⟩ := hh
  refine h _ _ _ ⟨B, F, T, af, S, rG_mono (rG_bind hh) (fun b f1 q1 e h1 H1 F1 l1 k1 S1 => ?_) fun _ _ _ h => h⟩
  exact h1 H1 F1 l1 (fun hq => k1 (by simpa using hq)) S1
theorem tT_and {t u : TT} (h : ∀ σ H Q, tT Γ fld W ca σ H Q → t σ H Q) (h' : ∀ σ H Q, tT Γ fld W cb σ H Q → u σ H Q) :
    ∀ σ H Q, tT Γ fld W (fun fr => (ca fr).bind fun k fr => if k then cb fr else .ok false fr true) σ H Q → tAnd t u σ H Q := by
  intro σ H Q hh
  obtain ⟨B, F, T, af, S, hh⟩ := hh
  refine h _ _ _ ⟨B, F, T, af, S, rG_mono (rG_bind hh) (fun b f1 q1 e h1 H1 F1 l1 k1 S1 => ?_) fun _ _ _ h => h⟩
  cases b with
  | true =>
    rw [if_pos rfl]
    refine h' _ _ _ ⟨B, F1, T, f1, S1, rG_mono h1 (fun b f2 q2 e h2 H2 F2 l2 k2 S2 => ?_) fun _ _ _ h => h⟩
    exact h2 H2 F2 (l1.trans l2) (q_and k1 k2) S2
  | false =>
    rw [if_neg Bool.false_ne_true]
    exact h1 H1 F1 l1 (fun hq => k1 (by simpa using hq)) S1
theorem tT_or {t u : TT} (h : ∀ σ H Q, tT Γ fld W ca σ H Q → t σ H Q) (h' : ∀ σ H Q, tT Γ fld W cb σ H Q → u σ H Q) :
    ∀ σ H Q, tT Γ fld W (fun fr => (ca fr).bind fun k fr => if k then .ok true fr true else cb fr) σ H Q → tOr t u σ H Q := by
  intro σ H Q hh
  obtain ⟨B, F, T, af, S, hh⟩ := hh
  refine h _ _ _ ⟨B, F, T, af, S, rG_mono (rG_bind hh) (fun b f1 q1 e h1 H1 F1 l1 k1 S1 => ?_) fun _ _ _ h => h⟩
  cases b with
  | false =>
    rw [if_neg Bool.false_ne_true]
    refine h' _ _ _ ⟨B, F1, T, f1, S1, rG_mono h1 (fun b f2 q2 e h2 H2 F2 l2 k2 S2 => ?_) fun _ _ _ h => h⟩
    exact h2 H2 F2 (l1.trans l2) (q_and k1 k2) S2
  | true =>
    rw [if_pos rfl]
    exact h1 H1 F1 l1 (fun hq => k1 (by simpa using hq)) S1
theorem pe_ifxD {t : Expr} (ht : PT X t (tT Γ fld W ca)) (ha : PE X a (tE Γ fld W fa)) (hb : PE X b (tE Γ fld W fb)) :
    PE X (.IfExp t a b pos) (tE Γ fld W (fun fr => (ca fr).bind fun k fr => if k then fa fr else fb fr)) := by
  refine (pe_ifExp ht ha hb).imp fun σ H Q h => ?_
  obtain ⟨B, F, T, af, S, h⟩ := h
  refine ⟨B, F, T, af, S, rG_mono (rG_bind h) (fun k f1 q1 e h1 H1 F1 l1 k1 S1 => ?_) fun _ _ _ h => h⟩
  cases k with
  | true =>
    rw [if_pos rfl]
    refine ⟨B, F1, T, f1, S1, rG_mono h1 (fun r f2 q2 e h2 v H2 F2 l2 k2 p2 => ?_) fun _ _ _ h => h⟩
    exact h2 v H2 F2 (l1.trans l2) (q_and k1 k2) p2
  | false =>
    rw [if_neg Bool.false_ne_true]
    refine ⟨B, F1, T, f1, S1, rG_mono h1 (fun r f2 q2 e h2 v H2 F2 l2 k2 p2 => ?_) fun _ _ _ h => h⟩
    exact h2 v H2 F2 (l1.trans l2) (q_and k1 k2) p2
/-- not, and, or as values, of truth values -/
theorem pe_notV {e : Expr} (ha : PE X e (tE Γ fld W fa)) : PE X (.UnaryOp .Not e pos) (tE Γ fld W (fun fr => (fa fr).bind fun r fr => match r with
    | .tmp (.bl b) => .ok (.tmp (.bl (!b))) fr true
    | _ => .no)) := by
  refine (pe_not ha).imp fun σ H Q h => ?_
  obtain ⟨B, F, T, af, S, h⟩ := h
  refine tE_step S h (fun _ _ _ h => h) fun r f1 q1 e1 h1 v H1 F1 l1 k1 p1 => ?_
  split at h1
  · rename_i b
    have S1 : Sta Γ B F1 H1 σ f1 ((v, .bl b) :: T) := p1
    obtain ⟨fp, r⟩ := S1.rp
    cases r
    exact ⟨b, rfl, h1 (.bl (!b)) H1 F1 l1 (fun hq => k1 (by simpa using hq)) (S1.drop.addPure (.bl (!b)) rfl)⟩
  · exact h1.elim
theorem pe_andD {rest : List Expr} (ha : PE X a (tE Γ fld W fa)) (hb : PE X (.BoolOp .And (b :: rest) pos) (tE Γ fld W fb)) : PE X (.BoolOp .And (a :: b :: rest) pos) (tE Γ fld W (fun fr => (fa fr).bind fun r fr => andK r (fb fr) fr)) := by
  refine (pe_and ha hb).imp fun σ H Q h => ?_
  obtain ⟨B, F, T, af, S, h⟩ := h
  refine tE_step S h (fun _ _ _ h => h) fun r f1 q1 e1 h1 v H1 F1 l1 k1 p1 => ?_
  unfold andK at h1
  split at h1
  · have S1 : Sta Γ B F1 H1 σ f1 ((v, .bl true) :: T) := p1
    obtain ⟨fp, r⟩ := S1.rp
    cases r
    refine ⟨true, rfl, ?_⟩
    rw [if_pos rfl]
    refine ⟨B, F1, T, f1, S1.drop, rG_mono h1 (fun r f2 q2 e h2 v H2 F2 l2 k2 p2 => ?_) fun _ _ _ h => h⟩
    exact h2 v H2 F2 (l1.trans l2) (q_and k1 k2) p2
  · have S1 : Sta Γ B F1 H1 σ f1 ((v, .bl false) :: T) := p1
    obtain ⟨fp, r⟩ := S1.rp
    cases r
    refine ⟨false, rfl, ?_⟩
    rw [if_neg Bool.false_ne_true]
    exact h1 (.bl false) H1 F1 l1 (fun hq => k1 (by simpa using hq)) S1
  · exact h1.elim
theorem pe_orD {rest : List Expr} (ha : PE X a (tE Γ fld W fa)) (hb : PE X (.BoolOp .Or (b :: rest) pos) (tE Γ fld W fb)) : PE X (.BoolOp .Or (a :: b :: rest) pos) (tE Γ fld W (fun fr => (fa fr).bind fun r fr => orK r (fb fr) fr)) := by
  refine (pe_or ha hb).imp fun σ H Q h => ?_
  obtain ⟨B, F, T, af, S, h⟩ := h
  refine tE_step S h (fun _ _ _ h => h) fun r f1 q1 e1 h1 v H1 F1 l1 k1 p1 => ?_
  unfold orK at h1
  split at h1
  · have S1 : Sta Γ B F1 H1 σ f1 ((v, .bl true) :: T) := p1
    obtain ⟨fp, r⟩ := S1.rp
    cases r
    refine ⟨true, rfl, ?_⟩
    rw [if_pos rfl]
    exact h1 (.bl true) H1 F1 l1 (fun hq => k1 (by simpa using hq)) S1
  · have S1 : Sta Γ B F1 H1 σ f1 ((v, .bl false) :: T) := p1
    obtain ⟨fp, r⟩ := S1.rp
    cases r
    refine ⟨false, rfl, ?_⟩
    rw [if_neg Bool.false_ne_true]
    refine ⟨B, F1, T, f1, S1.drop, rG_mono h1 (fun r f2 q2 e h2 v H2 F2 l2 k2 p2 => ?_) fun _ _ _ h => h⟩
    exact h2 v H2 F2 (l1.trans l2) (q_and k1 k2) p2
  · exact h1.elim
end
end
end VI

end

section
/-! ViE5: parts of values: a[b], a.f. -/
namespace VI
open PySem L2 PyProof.Rows

section
variable {Γ : Wd} {F H : Hp}
theorem ixN_ixOf (n : Nat) (i : Int) : ixN n i = ixOf n i := rfl
theorem RpL.nth {vs : List V} {ds : List D} {fp : List Addr} {n : Nat} {e : D} (h : RpL Γ F H vs ds fp) (g : ds[n]? = some e) : ∃ w fe, vs[n]? = some w ∧ Rp Γ F H w e fe := by
  obtain ⟨w, _, f2, _, a, _, b⟩ := h.at g
  exact ⟨w, f2, a, b⟩
/-- w is x[y] -/
def At (K : PySem.W.Frag) (H : Hp) (x y w : V) : Prop :=
  (∃ a vs i, x = .ref a ∧ y = .int i ∧ SqL K H a vs ∧ atI vs i = some w) ∨ (∃ a vs i, x = .ref a ∧ y = .int i ∧ SqT K H a vs ∧ atI vs i = some w) ∨ ∃ a, x = .ref a ∧ DGet H a y (some w)
theorem atI_of {vs : List V} {n m : Nat} {i : Int} {w : V} (l : vs.length = m) (e : ixOf m i = some n) (h : vs[n]? = some w) : atI vs i = some w := by
  subst l
  unfold atI
  rw [ixN_ixOf, e]; exact h
theorem subV_ix {n : Nat} {i : Int} {s : Sp1} (h : (ixOf n i).map Sp1.ix = some s) : ∃ j, ixOf n i = some j ∧ s = .ix j := by
  cases e : ixOf n i with
  | none => rw [e] at h; cases h
  | some j => rw [e] at h; cases h; exact ⟨j, rfl, rfl⟩
/-- a part, looked up -/
theorem Rp.sub (z : Fz F H) {v y : V} {d k e : D} {fv fk : List Addr} {s : Sp1} (h : Rp Γ F H v d fv) (hk : Rp Γ F H y k fk) (g : subV d k = some s) (t : d.step s = some e) : ∃ w fe, At Γ.K H v y w ∧ Rp Γ F H w e fe := by
  cases d with
  | tup xs =>
    cases k <;> simp only [subV, reduceCtorEq] at g
    obtain ⟨j, ej, rfl⟩ := subV_ix g
    cases hk
    obtain ⟨a, vs, fq, rfl, q, r⟩ := h.tupS z
    obtain ⟨w, fe, e1, e2⟩ := r.nth t
    exact ⟨w, fe, .inr (.inl ⟨a, vs, _, rfl, rfl, q, atI_of r.length ej e1⟩), e2⟩
  | lst m xs =>
    cases k <;> simp only [subV, reduceCtorEq] at g
    obtain ⟨j, ej, rfl⟩ := subV_ix g
    cases hk
    obtain ⟨a, vs, fq, rfl, q, r⟩ := h.lstS z
    obtain ⟨w, fe, e1, e2⟩ := r.nth t
    exact ⟨w, fe, .inl ⟨a, vs, _, rfl, rfl, .of q, atI_of r.length ej e1⟩, e2⟩
  | scr xs =>
    cases k <;> simp only [subV, reduceCtorEq] at g
    obtain ⟨j, ej, rfl⟩ := subV_ix g
    cases hk
    obtain ⟨a, vs, fq, rfl, q, r⟩ := h.scrS z
    obtain ⟨w, fe, e1, e2⟩ := r.nth t
    exact ⟨w, fe, .inl ⟨a, vs, _, rfl, rfl, q, atI_of r.length ej e1⟩, e2⟩
  | ktup xs =>
    cases k <;> simp only [subV, reduceCtorEq] at g
    obtain ⟨j, ej, rfl⟩ := subV_ix g
    cases hk
    obtain ⟨a, vs, fq, rfl, q, r⟩ := h.ktupS
    obtain ⟨w, fe, e1, e2⟩ := r.nth t
    exact ⟨w, fe, .inr (.inl ⟨a, vs, _, rfl, rfl, q, atI_of r.length ej e1⟩), e2⟩
  | dic m t' ks vs =>
    have hk' : kOk k t' = true ∧ s = .ky k := by
      have : (if kOk k t' = true then some (Sp1.ky k) else none) = some s := by simpa only [subV] using g
      split at this
      · rename_i hc; cases this; exact ⟨hc, rfl⟩
      · cases this
    obtain ⟨hk', rfl⟩ := hk'
    obtain ⟨a, o, rfl, g1, _, g3⟩ := h.dget z hk hk'
    obtain ⟨w, fe, rfl, r⟩ := g3 e t
    exact ⟨w, fe, .inr (.inr ⟨a, rfl, g1⟩), r⟩
  | _ => cases k <;> simp only [subV, reduceCtorEq] at g
/-- a part that is owned, by its way -/
theorem Pth.sub (z : Fz F H) {v y w : V} {d k e : D} {fv fk : List Addr} {s : Sp1} (h : Rp Γ F H v d fv) (hk : Rp Γ F H y k fk) (g : subV d k = some s) (t : d.step s = some e) (ne : e.pure = false) (p : Pth Γ F H v [s] w) : At Γ.K H v y w := by
  cases d with
  | tup xs =>
    cases k <;> simp only [subV, reduceCtorEq] at g
    obtain ⟨j, ej, rfl⟩ := subV_ix g
    cases hk
    cases h with
    | tup e0 r =>
      cases p with
      | tup e1 n1 q => cases q; rw [e0] at e1; cases e1; exact .inr (.inl ⟨_, _, _, rfl, rfl, .inl (.inl (z.sub _ _ e0)), atI_of r.length ej n1⟩)
      | lst e1 _ _ => exact (tup_lst z.sub e0 e1).elim
  | lst m xs =>
    cases k <;> simp only [subV, reduceCtorEq] at g
    obtain ⟨j, ej, rfl⟩ := subV_ix g
    cases hk
    obtain ⟨a, vs, fq, rfl, q, r⟩ := h.lstS z
    cases p with
    | tup e1 n1 q1 => exact (tup_lst z.sub e1 q).elim
    | lst e1 n1 q1 => cases q1; rw [q] at e1; cases e1; exact .inl ⟨_, _, _, rfl, rfl, .of q, atI_of r.length ej n1⟩
  | scr xs =>
    cases k <;> simp only [subV, reduceCtorEq] at g
    obtain ⟨j, ej, rfl⟩ := subV_ix g
    cases h with
    | scr _ _ pu => rw [pureL_at pu t] at ne; cases ne
  | ktup xs =>
    cases k <;> simp only [subV, reduceCtorEq] at g
    obtain ⟨j, ej, rfl⟩ := subV_ix g
    cases h with
    | ktup _ _ pu => rw [pureL_at pu t] at ne; cases ne
  | dic m t' ks vs =>
    have hk' : kOk k t' = true ∧ s = .ky k := by
      have : (if kOk k t' = true then some (Sp1.ky k) else none) = some s := by simpa only [subV] using g
      split at this
      · rename_i hc; cases this; exact ⟨hc, rfl⟩
      · cases this
    obtain ⟨hk', rfl⟩ := hk'
    have t : dfind k ks vs = some e := t
    cases h with
    | dicF _ _ _ pu => rw [dfind_pure pu t] at ne; cases ne
    | dicFT _ _ _ pu => rw [dfind_pure pu t] at ne; cases ne
    | dicO e0 g0 r =>
      obtain ⟨key, k1, k2⟩ := hk.keyK hk'
      cases p with
      | dicK e1 n1 l1 q => cases q; rw [e0] at e1; cases e1; rw [k1] at n1; cases n1; exact .inr (.inr ⟨_, rfl, .inl ⟨_, _, .inl e0, k2, l1.symm⟩⟩)
      | dicT e1 _ _ _ => rw [e0] at e1; cases e1
    | dicOT e0 g0 r =>
      obtain ⟨key, b, k1, k2, k3⟩ := hk.keyT z hk'
      cases p with
      | dicT e1 n1 l1 q => cases q; rw [e0] at e1; cases e1; rw [k1] at n1; cases n1; exact .inr (.inr ⟨_, rfl, .inr ⟨_, _, _, .inl e0, k2, k3, l1.symm⟩⟩)
      | dicK e1 _ _ _ => rw [e0] at e1; cases e1
  | _ => cases k <;> simp only [subV, reduceCtorEq] at g
theorem get_append : ∀ {p : List Sp1} {d x : D} {q : List Sp1}, d.get p = some x → d.get (p ++ q) = x.get q
  | [], d, x, q, h => by simp only [D.get, Option.some.injEq] at h; subst h; rfl
  | s :: p, d, x, q, h => by
    simp only [D.get] at h
    split at h
    · rename_i e he
      show (match d.step s with | some e => e.get (p ++ q) | none => none) = _
      rw [he]
      exact get_append h
    · cases h
theorem Pth.split {w : V} {q : List Sp1} : ∀ {p : List Sp1} {v : V}, Pth Γ F H v (p ++ q) w → ∃ u, Pth Γ F H v p u ∧ Pth Γ F H u q w
  | [], v, h => ⟨v, .nil v, h⟩
  | s :: p, v, h => by
    cases h with
    | tup e n t => obtain ⟨u, a, b⟩ := Pth.split (p := p) t; exact ⟨u, .tup e n a, b⟩
    | lst e n t => obtain ⟨u, a, b⟩ := Pth.split (p := p) t; exact ⟨u, .lst e n a, b⟩
    | dicK e n l t => obtain ⟨u, a, b⟩ := Pth.split (p := p) t; exact ⟨u, .dicK e n l a, b⟩
    | dicT e n l t => obtain ⟨u, a, b⟩ := Pth.split (p := p) t; exact ⟨u, .dicT e n l a, b⟩
    | obj e n t => obtain ⟨u, a, b⟩ := Pth.split (p := p) t; exact ⟨u, .obj e n a, b⟩
end
section
variable {Γ : Wd} {fld : String → Option String} {W : WX} {B : Bd} {F F' H H' : Hp} {σ : L2.St} {af af' : Fr} {T T' : List (V × D)}
theorem look_eq {r : Rv} {d : D} {q : Bool} (e : r.look af = .ok d af' q) : af' = af ∧ (r = .tmp d ∨ ∃ x p, r = .plc x p ∧ (Rv.plc x p).val af = some d ∧ (p = [] ∨ d.pure = false)) := by
  cases r with
  | tmp d' => cases e; exact ⟨rfl, .inl rfl⟩
  | plc x p =>
    simp only [Rv.look] at e
    cases hv : (Rv.plc x p).val af with
    | none => rw [hv] at e; cases e
    | some w =>
      rw [hv] at e
      simp only at e
      by_cases hw : (w.pure && !p.isEmpty) = true
      · rw [if_pos hw] at e; cases e
      · rw [if_neg hw] at e
        cases e
        refine ⟨rfl, .inr ⟨x, p, rfl, hv, ?_⟩⟩
        cases p with
        | nil => exact .inl rfl
        | cons a b => right; simpa using hw
/-- the part of what was looked at, as a result; R: how its value is got -/
theorem part_one {r : Rv} {v : V} {d e : D} {s : Sp1} {q : Bool} {R : V → Prop} (h : PR Γ B σ F H af T r v) (l : r.look af = .ok d af' q) (t : d.step s = some e)
    (hp : ∀ fp, Rp Γ F H v d fp → ∃ w fe, R w ∧ Rp Γ F H w e fe) (hn : ∀ fp w, Rp Γ F H v d fp → e.pure = false → Pth Γ F H v [s] w → R w) : ∃ w, R w ∧ PR Γ B σ F H af T (partR r s e) w := by
  obtain ⟨rfl, cs⟩ := look_eq l
  by_cases pe : e.pure = true
  · obtain ⟨_, ⟨L, S⟩, fp, rd⟩ := look_one h l
    obtain ⟨w, fe, a, b⟩ := hp fp rd
    refine ⟨w, a, ?_⟩
    unfold partR
    rw [if_pos pe]
    exact S.dropL.addPure b pe
  · have pe' : e.pure = false := by simpa using pe
    unfold partR
    rw [if_neg pe]
    have hg1 : d.get [s] = some e := by simp [D.get, t]
    rcases cs with rfl | ⟨x, p, rfl, hv, hi⟩
    · have S : Sta Γ B F H σ af' ((v, d) :: T) := h
      obtain ⟨fp, r, n, q⟩ := S.own.perm List.perm_middle
      cases r with
      | @cons _ _ f1 _ _ f2 a tl =>
        obtain ⟨w, g1, g2, b1, b2, b3, _⟩ := a.focus hg1 pe'
        refine ⟨w, hn _ w a pe' b1, ?_⟩
        have nd := (b3.append_right f2).nodup_iff.mp n
        rw [List.append_assoc] at nd
        refine { S.drop with own := Own.perm (L := (w, e) :: (coll σ af' ++ T)) ⟨g1 ++ f2, .cons b2 tl, ?_, fun b m => ?_⟩ List.perm_middle.symm }
        · obtain ⟨n1, n2, n3⟩ := List.nodup_append.mp nd
          exact List.nodup_append.mpr ⟨n1, (List.nodup_append.mp n2).2.1, fun a ha b hb => n3 a ha b (List.mem_append_right _ hb)⟩
        · rcases List.mem_append.mp m with m | m
          · exact q b (List.mem_append_left _ (b3.mem_iff.mpr (List.mem_append_left _ m)))
          · exact q b (List.mem_append_right _ m)
    · obtain ⟨S, hpl⟩ := h
      obtain ⟨fp, rd⟩ := S.at hpl hv hi
      obtain ⟨v0, e0, pth⟩ := hpl
      simp only [Rv.val] at hv
      cases hs : slot af' x with
      | none => rw [hs] at hv; cases hv
      | some d0 =>
        rw [hs] at hv
        have hv : d0.get p = some d := hv
        obtain ⟨v1, f0, e1, r0⟩ := S.get hs
        rw [e0] at e1; cases e1
        have hg2 : d0.get (p ++ [s]) = some e := by rw [get_append hv]; exact hg1
        obtain ⟨w, g1, g2, b1, b2, _, _⟩ := r0.focus hg2 pe'
        obtain ⟨u, u1, u2⟩ := Pth.split b1
        have := u1.fn S.sub pth
        subst this
        exact ⟨w, hn _ w rd pe' u2, S, v0, e0, b1⟩
end
/-! ### a[b] -/
def rSub (K : PySem.W.Frag) : R2 := fun x y H Q => (∃ w, At K H x y w ∧ Q w H) ∨ rIxS x y H Q
theorem ix_dict {X : Cx} (hu : X.A.units + 1 < cLine) : IxR X (fun x y H Q => ∃ a w, x = .ref a ∧ DGet H a y (some w) ∧ Q w H) := by
  intro value slice pins s σ H x y v u Q I rx ry h hs
  obtain ⟨a, w, rfl, g, q⟩ := h
  obtain rfl : v = Value.ref a := rx
  exact PyProof.Rows.tail_any (dict_typeIs I g) PySem.F.slot_dict_getitem.lookup (d_getItem hu I g ry fun w' s3 I3 rw' => ⟨w, H, I3, rw', q⟩) hs
theorem ix_sub {X : Cx} (hr : Room 0 X.A) : IxR X (rSub X.K) := by
  intro value slice pins s σ H x y v u Q I rx ry h hs
  have hu : X.A.units + 1 < cLine := by have := hr.un; omega
  rcases h with ⟨w, h, q⟩ | h
  · rcases h with ⟨a, vs, i, e1, e2, e3, e4⟩ | ⟨a, vs, i, e1, e2, e3, e4⟩ | ⟨a, e1, e2⟩
    · exact ix_list value slice pins s σ H x y v u Q I rx ry ⟨a, vs, i, w, e1, e2, e3, e4, q⟩ hs
    · exact ix_tup value slice pins s σ H x y v u Q I rx ry ⟨a, vs, i, w, e1, e2, e3, e4, q⟩ hs
    · exact ix_dict hu value slice pins s σ H x y v u Q I rx ry ⟨a, w, e1, e2, q⟩ hs
  · exact ix_str value slice pins s σ H x y v u Q I rx ry h hs
theorem strAt_spec {s : List Char} {i : Int} {e : D} (h : strAt s i = some e) : s.length ≤ line ∧ ∃ c, atI (sv s).cps.toList i = some c.toNat ∧ e = .str [c] := by
  unfold strAt at h
  split at h
  · rename_i hl
    refine ⟨hl, ?_⟩
    cases e1 : ixOf s.length i with
    | none => rw [e1] at h; cases h
    | some n =>
      rw [e1] at h
      simp only at h
      cases e2 : s[n]? with
      | none => rw [e2] at h; cases h
      | some c =>
        rw [e2] at h
        cases h
        refine ⟨c, ?_, rfl⟩
        unfold atI
        rw [cps_sv]
        have : (chs s).length = s.length := by simp [chs]
        rw [this, ixN_ixOf, e1]
        show (chs s)[n]? = some c.toNat
        simp [chs, e2]
  · cases h
section
variable {X : Cx} {Γ : Wd} {fld : String → Option String} {W : WX} {fa fb : Fr → Rs Rv} {a b : Expr} {pos : Pos}
theorem pe_subD (hK : Γ.K = X.K) (hr : Room 0 X.A) (ha : PE X a (tE Γ fld W fa)) (hb : PE X b (tE Γ fld W fb)) (hs : PlainIx b) :
    PE X (.Subscript a b pos) (tE Γ fld W (fun fr => (op2 fa fb fr).bind fun r fr => (r.1.look fr).bind fun d fr => (r.2.look fr).bind fun k fr => subR r.1 d k fr)) := by
  refine (pe_ix (ix_sub hr) ha hb hs).imp fun σ H Q h => ?_
  obtain ⟨B, F, T, af, S, h⟩ := h
  refine op2_step S h fun r r' f1 q1 h1 v w H1 F1 l1 k1 p => ?_
  obtain ⟨p1, p2⟩ := p.head
  obtain ⟨d, f2, q2, e2, h2⟩ := rG_step h1 fun _ _ _ => look_noex
  obtain ⟨k, f3, q3, e3, h3⟩ := rG_step h2 fun _ _ _ => look_noex
  obtain ⟨hf2, ⟨L, S2⟩, fd, rd⟩ := look_one p1 e2
  have pr' : PR Γ B σ F1 H1 f2 (L ++ T) r' w := by
    rw [hf2]
    cases r' with
    | tmp d => exact S2.perm (List.perm_middle)
    | plc x p => exact ⟨S2, p2.1⟩
  obtain ⟨hf3, ⟨L2, S3⟩, fk, rk⟩ := look_one pr' e3
  subst hf3; subst hf2
  have pT : PR Γ B σ F1 H1 f3 T r v := by
    cases r with
    | tmp d' =>
      have p1' : Sta Γ B F1 H1 σ f3 ((v, d') :: (tmps [r'] [w] ++ T)) := p1
      exact (Sta.dropL (L := tmps [r'] [w]) (p1'.perm List.perm_middle.symm))
    | plc x p => exact ⟨p1.1.dropL, p1.2⟩
  have z := S3.fz
  unfold subR at h3
  split at h3
  · rename_i s i
    cases es : strAt s i with
    | none => rw [es] at h3; exact h3.elim
    | some e =>
      rw [es] at h3
      have h3 : okE Γ B F T af σ H Q (.tmp e) f3 (q1 && (q2 && (q3 && true))) := h3
      obtain ⟨hl, c, e4, rfl⟩ := strAt_spec es
      cases rd.strS; cases rk.intS
      refine .inr ⟨_, _, _, rfl, rfl, by rw [sv_length, ← line_eq]; exact hl, e4, ?_⟩
      refine h3 (.str (sv [c])) H1 F1 l1 (fun hq => k1 (by simp only [Bool.and_eq_true] at hq; exact hq.1)) ?_
      have S4 : Sta Γ B F1 H1 σ f3 ((L2 ++ L) ++ T) := by rw [List.append_assoc]; exact S3
      exact S4.dropL.addPure (.str [c]) rfl
  · cases es : subV d k with
    | none => rw [es] at h3; exact h3.elim
    | some s =>
      rw [es] at h3
      cases et : d.step s with
      | none => simp only [et] at h3; exact h3.elim
      | some e =>
        simp only [et] at h3
        have h3 : okE Γ B F T af σ H Q (partR r s e) f3 (q1 && (q2 && (q3 && true))) := h3
        obtain ⟨u, hu, pu⟩ := part_one (R := At X.K H1 v w) pT e2 et (fun fp rp => hK ▸ rp.sub z rk es et) (fun fp u rp ne pt => hK ▸ pt.sub z rp rk es et ne)
        exact .inl ⟨u, hu, h3 u H1 F1 l1 (fun hq => k1 (by simp only [Bool.and_eq_true] at hq; exact hq.1)) pu⟩
/-! ### a.f -/
theorem pe_fldD {f : String} {x : Str} (hx : x = Str.ofString f) (hC : ∀ c C, Γ.ocl c = some C → Cls X.K C ∧ NoAttr X.K C x) (ha : PE X a (tE Γ fld W fa)) (hb : attributeBase a x X.env (eval a X.env) = eval a X.env) :
    PE X (.Attribute a x pos) (tE Γ fld W (fun fr => (fa fr).bind fun r fr => (r.look fr).bind fun d fr => match d with
    | .obj _ ns vs => match ofind f ns vs with
      | some e => .ok (partR r (.fd f) e) fr true
      | none => .no
    | _ => .no)) := by
  refine (pe_fld ha hb).imp fun σ H Q h => ?_
  obtain ⟨B, F, T, af, S, h⟩ := h
  refine tE_step S h (fun _ _ _ h => h) fun r f1 q1 e1 h1 v H1 F1 l1 k1 p1 => ?_
  obtain ⟨d, f2, q2, e2, h2⟩ := rG_step h1 fun _ _ _ => look_noex
  obtain ⟨hf2, _, fd, rd⟩ := look_one p1 e2
  subst hf2
  split at h2
  · rename_i c ns vs
    cases eo : ofind f ns vs with
    | none => rw [eo] at h2; exact h2.elim
    | some e =>
      rw [eo] at h2
      have h2 : okE Γ B F T af σ H Q (partR r (.fd f) e) f2 (q1 && (q2 && true)) := h2
      obtain ⟨u, ⟨ad, C, dx, fs, c1, c2, c3, c4⟩, pu⟩ := part_one (R := fun u => ∃ ad C dx fs, v = .ref ad ∧ H1 ad = some (.ins C dx fs) ∧ Γ.ocl c = some C ∧ fs.lookup x = some u) p1 e2 (show D.step (.obj c ns vs) (.fd f) = some e from eo) (fun fp rp => by
        cases rp with
        | obj e0 ec g0 r0 =>
          obtain ⟨n, b1, _, _, b4⟩ := ofind_at g0 eo
          obtain ⟨u, fe, b5, b6⟩ := r0.nth b1
          exact ⟨u, fe, ⟨_, _, _, _, rfl, e0, ec, by rw [hx]; exact b4.trans b5⟩, b6⟩) (fun fp u rp ne pt => by
        cases rp with
        | obj e0 ec g0 r0 =>
          cases pt with
          | obj e1 n1 q => cases q; rw [e0] at e1; cases e1; exact ⟨_, _, _, _, rfl, e0, ec, by rw [hx]; exact n1⟩)
      obtain ⟨k1', k2'⟩ := hC c C c3
      exact ⟨ad, C, dx, fs, u, c1, c2, k1', k2', c4, h2 u H1 F1 l1 (fun hq => k1 (by simp only [Bool.and_eq_true] at hq; exact hq.1)) pu⟩
  · exact h2.elim
end
end VI

end

section
/-! ViE6: argument lists, new tuples and lists, signs, slices. -/
namespace VI
open PySem L2 PyProof.Rows

section
variable {Γ : Wd} {fld : String → Option String} {W : WX} {B : Bd} {F F' H H' : Hp} {σ : L2.St} {af af' : Fr} {T T' : List (V × D)}
theorem zip_fst : ∀ {vs : List V} {ds : List D}, ds.length = vs.length → (vs.zip ds).map (·.1) = vs
  | [], _, _ => rfl
  | _ :: _, [], h => by simp at h
  | v :: vs, d :: ds, h => by simp [zip_fst (vs := vs) (ds := ds) (by simpa using h)]
theorem zip_snd : ∀ {vs : List V} {ds : List D}, ds.length = vs.length → (vs.zip ds).map (·.2) = ds
  | [], [], _ => rfl
  | [], _ :: _, h => by simp at h
  | _ :: _, [], h => by simp at h
  | v :: vs, d :: ds, h => by simp [zip_snd (vs := vs) (ds := ds) (by simpa using h)]
/-- a new node over temporaries -/
theorem Sta.node {L : List (V × D)} {v : V} {d : D} {nw : List Addr} (S : Sta Γ B F H σ af (L ++ T)) (A : Alloc F H F' H') (n : nw.Nodup) (h : ∀ a ∈ nw, H a = none ∧ F' a = none)
    (hr : ∀ fL, RpL Γ F' H' (L.map (·.1)) (L.map (·.2)) fL → Rp Γ F' H' v d (nw ++ fL)) : Sta Γ B F' H' σ af ((v, d) :: T) := by
  have hp : (coll σ af ++ (L ++ T)).Perm (L ++ (coll σ af ++ T)) := by
    rw [← List.append_assoc, ← List.append_assoc]
    exact List.perm_append_comm.append_right _
  have S' := S.dropL.grown A
  obtain ⟨f0, r0, n0, q0⟩ := S.own.perm hp
  have hd := r0.dom
  have r1 : RpL Γ F' H' ((L ++ (coll σ af ++ T)).map (·.1)) ((L ++ (coll σ af ++ T)).map (·.2)) f0 := r0.mono A.le.k fun a m => by
    cases e : H a with
    | none => exact absurd e (hd a m)
    | some o => exact A.same a o e
  rw [List.map_append, List.map_append (l₁ := L) (f := fun x => x.2)] at r1
  obtain ⟨v1, v2, f1, f2, e1, rfl, h1, h2⟩ := r1.split
  have el := h1.length
  have e2 := List.append_inj e1 (by simpa using el.symm)
  rw [← e2.1] at h1
  rw [← e2.2] at h2
  refine { S' with own := Own.perm (L := (v, d) :: (coll σ af ++ T)) ⟨(nw ++ f1) ++ f2, .cons (hr f1 h1) h2, ?_, fun a m => ?_⟩ List.perm_middle.symm }
  · rw [List.append_assoc]
    exact List.nodup_append.mpr ⟨n, n0, fun a m b m' e => by subst e; exact hd a m' (h a m).1⟩
  · rw [List.append_assoc] at m
    rcases List.mem_append.mp m with m | m
    · refine ⟨(h a m).2, ?_⟩
      cases e : B.H a with
      | none => exact .inr rfl
      | some o =>
        by_cases mm : B.M a
        · exact .inl mm
        · have := S.mod a o e mm
          rw [(h a m).1] at this; cases this
    · refine ⟨?_, (q0 a m).2⟩
      cases e : F' a with
      | none => rfl
      | some o =>
        rcases A.fr a (by rw [e]; simp) with z | z
        · exact absurd (q0 a m).1 z
        · exact absurd z (hd a m)
theorem Sta.mkTup {vs : List V} {ds : List D} {p : Addr} (S : Sta Γ B F H σ af (vs.zip ds ++ T)) (l : ds.length = vs.length) (hp : H p = none) : Sta Γ B (upd F p (.tup vs)) (upd H p (.tup vs)) σ af ((.ref p, .tup ds) :: T) := by
  refine S.node (alloc_tup S.fz hp) (nw := []) List.nodup_nil (fun a m => absurd m (by simp)) fun fL r => ?_
  rw [zip_fst l, zip_snd l] at r
  exact .tup upd_same r
theorem none_sub (z : Fz F H) {p : Addr} (hp : H p = none) : F p = none := by
  cases q : F p with
  | none => rfl
  | some o => rw [z.sub p o q] at hp; cases hp
theorem Sta.mkLst {vs : List V} {ds : List D} {p : Addr} (S : Sta Γ B F H σ af (vs.zip ds ++ T)) (l : ds.length = vs.length) (hp : H p = none) : Sta Γ B F (upd H p (.lst vs)) σ af ((.ref p, .lst true ds) :: T) := by
  refine S.node (alloc_lst S.fz hp) (nw := [p]) (by simp) (fun a m => ?_) fun fL r => ?_
  · rw [List.mem_singleton] at m; subst m; exact ⟨hp, none_sub S.fz hp⟩
  · rw [zip_fst l, zip_snd l] at r
    exact .lstO upd_same r
theorem alloc_dT (z : Fz F H) {p : Addr} {kvs : List (List L2.Key × V)} (hp : H p = none) : Alloc F H F (upd H p (.dT kvs)) where
  same := fun a o e => by rw [upd_ne (ne_of_none e hp)]; exact e
  le := .refl _
  sub := fun a o e => by rw [upd_ne (ne_of_none (z.sub a o e) hp)]; exact z.sub a o e
  tup := fun a ws e => by
    by_cases h : a = p
    · subst h; rw [upd_same] at e; cases e
    · rw [upd_ne h] at e; exact z.tup a ws e
  fr := fun a h => .inl h
theorem upd_grown {p : Addr} {o : HO} (hp : H p = none) : FLe H (upd H p o) := fun a u e => by rw [upd_ne (ne_of_none e hp)]; exact e
end
section
variable {X : Cx} {Γ : Wd} {fld : String → Option String} {W : WX} {fa fb : Fr → Rs Rv} {fs : Fr → Rs (List Rv)} {a b e : Expr} {es : List Expr} {pos : Pos}
theorem tA_step {α : Type} {g : List Rv → Fr → Rs α} {B : Bd} {F : Hp} {T : List (V × D)} {af : Fr} {σ : L2.St} {H : Hp} {ok : α → Fr → Bool → Prop} {ex : String → D → Fr → Prop} {Q : List V → Hp → Prop}
    (S : Sta Γ B F H σ af T) (h : rG ok ex ((fs af).bind g)) (hx : ∀ c a fr, ex c a fr → exW Γ fld W B σ T c a fr)
    (k : ∀ r f1 q1, fs af = .ok r f1 q1 → rG (fun b fr' q' => ok b fr' (q1 && q')) ex (g r f1) → ∀ v H1 F1, FLe F F1 → (q1 = true → f1 = af ∧ HLe H H1) → PRs Γ B σ F1 H1 f1 T r v → Q v H1) : tA Γ fld W fs σ H Q :=
  ⟨B, F, T, af, S, rG_mono (rG_bind h) (fun r f1 q1 e h1 v H1 F1 l k1 p => k r f1 q1 e h1 v H1 F1 l k1 p) hx⟩
theorem pa_nilD : PA X [] (tA Γ fld W (fun fr => .ok [] fr true)) := pa_nil.imp fun σ H Q h => by
  obtain ⟨B, F, T, af, S, h⟩ := h
  exact h [] H F (.refl _) (fun _ => ⟨rfl, .refl _⟩) ⟨S, trivial⟩
theorem tmps_cons (r : Rv) (rs : List Rv) (v : V) (vs : List V) : tmps (r :: rs) (v :: vs) = tmps [r] [v] ++ tmps rs vs := by
  cases r <;> rfl
def consF (fa : Fr → Rs Rv) (fs : Fr → Rs (List Rv)) (fr : Fr) : Rs (List Rv) := (fa fr).bind fun r fr => match fs fr with
    | .ok rs fr q => if r.deep && !q then .no else .ok (r :: rs) fr q
    | .ex e x fr => .ex e x fr
    | .no => .no
theorem tA_cons {σ : L2.St} {H : Hp} {Q : List V → Hp → Prop} (h : tA Γ fld W (consF fa fs) σ H Q) : tCons (tE Γ fld W fa) (tA Γ fld W fs) σ H Q := by
  obtain ⟨B, F, T, af, S, h⟩ := h
  refine tE_step S h (fun _ _ _ h => h) fun r f1 q1 e1 h3 v H1 F1 l k1 p => ?_
  refine ⟨B, F1, tmps [r] [v] ++ T, f1, p.sta, ?_⟩
  cases hb : fs f1 with
  | ok rs f2 q2 =>
    rw [hb] at h3
    simp only at h3
    split at h3
    · exact h3.elim
    · rename_i hd
      intro ws H2 F2 l2 k2 p2
      have h3 : okA Γ B F T af σ H Q (r :: rs) f2 (q1 && q2) := h3
      refine h3 (v :: ws) H2 F2 (l.trans l2) (q_and k1 k2) ⟨?_, ?_⟩
      · rw [tmps_cons]
        refine p2.1.perm ?_
        rw [← List.append_assoc]
        exact List.perm_append_comm.append_right _
      · cases r with
        | tmp d => exact p2.2
        | plc x ps =>
          refine ⟨p.2.mono l2 ?_, p2.2⟩
          cases ps with
          | nil => exact .inl rfl
          | cons s ss =>
            right
            have : q2 = true := by simpa [Rv.deep] using hd
            exact (k2 this).2
  | ex c z f2 => rw [hb] at h3; exact exW.drop h3
  | no => rw [hb] at h3; exact h3
theorem pa_consD (ha : PE X e (tE Γ fld W fa)) (hes : PA X es (tA Γ fld W fs)) (hs : starEach (e :: es) X.env = (false, eval e X.env) :: starEach es X.env) :
    PA X (e :: es) (tA Γ fld W (fun fr => (fa fr).bind fun r fr => match fs fr with
    | .ok rs fr q => if r.deep && !q then .no else .ok (r :: rs) fr q
    | .ex e x fr => .ex e x fr
    | .no => .no)) := by
  exact (pa_cons ha hes hs).imp fun σ H Q h => tA_cons h
theorem owns_noex' : ∀ {rs : List Rv} {af af' : Fr} {c : String} {a : D}, owns rs af ≠ .ex c a af'
  | [], _, _, _, _ => by intro e; cases e
  | r :: rs, af, af', c, a => by
    intro e
    simp only [owns] at e
    cases e1 : r.own af with
    | no => rw [e1] at e; cases e
    | ex _ _ _ => exact own_noex e1
    | ok d f1 q1 =>
      rw [e1] at e
      simp only [Rs.bind] at e
      cases e2 : owns rs f1 with
      | no => rw [e2] at e; cases e
      | ex _ _ _ => exact owns_noex' e2
      | ok ds f2 q2 => rw [e2] at e; cases e
/-- a tuple, a list -/
theorem pe_tupD {x1} (h : PA X es (tA Γ fld W fs)) : PE X (.Tuple es x1 pos) (tE Γ fld W (fun fr => (fs fr).bind fun rs fr => (owns rs fr).bind fun ds fr => if ds.length ≤ line then .ok (.tmp (.tup ds)) fr true else .no)) := by
  refine (pe_tup h).imp fun σ H Q h => ?_
  obtain ⟨B, F, T, af, S, h⟩ := h
  refine tA_step S h (fun _ _ _ h => h) fun rs f1 q1 e1 h1 vs H1 F1 l k1 p => ?_
  obtain ⟨ds, f2, q2, e2, h2⟩ := rG_step h1 fun _ _ _ => owns_noex'
  obtain ⟨F2, l2, S2, n2, k2⟩ := own_all p e2
  by_cases hl : ds.length ≤ line
  · rw [if_pos hl] at h2
    have h2 : okE Γ B F T af σ H Q (.tmp (.tup ds)) f2 (q1 && (q2 && true)) := h2
    refine ⟨by rw [← n2, ← line_eq]; exact hl, fun p hp => h2 _ _ _ (l.trans (l2.trans (alloc_tup S2.fz hp).le)) (fun hq => ?_) (S2.mkTup n2 hp)⟩
    simp only [Bool.and_eq_true, and_true] at hq
    obtain ⟨a1, a2⟩ := k1 hq.1
    exact ⟨by rw [k2 hq.2, a1], a2.trans (upd_grown hp).h⟩
  · rw [if_neg hl] at h2; exact h2.elim
theorem pe_lstD (h : PA X es (tA Γ fld W fs)) : PE X (.List es pos) (tE Γ fld W (fun fr => (fs fr).bind fun rs fr => (owns rs fr).bind fun ds fr => if ds.length ≤ line then .ok (.tmp (.lst true ds)) fr true else .no)) := by
  refine (pe_lst h).imp fun σ H Q h => ?_
  obtain ⟨B, F, T, af, S, h⟩ := h
  refine tA_step S h (fun _ _ _ h => h) fun rs f1 q1 e1 h1 vs H1 F1 l k1 p => ?_
  obtain ⟨ds, f2, q2, e2, h2⟩ := rG_step h1 fun _ _ _ => owns_noex'
  obtain ⟨F2, l2, S2, n2, k2⟩ := own_all p e2
  by_cases hl : ds.length ≤ line
  · rw [if_pos hl] at h2
    have h2 : okE Γ B F T af σ H Q (.tmp (.lst true ds)) f2 (q1 && (q2 && true)) := h2
    refine ⟨by rw [← n2, ← line_eq]; exact hl, fun p hp => h2 _ _ _ (l.trans (l2.trans (FLe.refl _))) (fun hq => ?_) (S2.mkLst n2 hp)⟩
    simp only [Bool.and_eq_true, and_true] at hq
    obtain ⟨a1, a2⟩ := k1 hq.1
    exact ⟨by rw [k2 hq.2, a1], a2.trans (upd_grown hp).h⟩
  · rw [if_neg hl] at h2; exact h2.elim
/-- -a -/
theorem pe_negD (ha : PE X a (tE Γ fld W fa)) : PE X (.UnaryOp .USub a pos) (tE Γ fld W (fun fr => (fa fr).bind fun r fr => match r with
    | .tmp (.int i) => .ok (.tmp (.int (-i))) fr true
    | _ => .no)) := by
  refine (pe_un un_neg ha).imp fun σ H Q h => ?_
  obtain ⟨B, F, T, af, S, h⟩ := h
  refine tE_step S h (fun _ _ _ h => h) fun r f1 q1 e1 h1 v H1 F1 l1 k1 p1 => ?_
  split at h1
  · rename_i i
    have S1 : Sta Γ B F1 H1 σ f1 ((v, .int i) :: T) := p1
    obtain ⟨fp, r⟩ := S1.rp
    cases r
    exact ⟨i, rfl, h1 (.int (-i)) H1 F1 l1 (fun hq => k1 (by simpa using hq)) (S1.drop.addPure (.int (-i)) rfl)⟩
  · exact h1.elim
/-- empty dicts -/
theorem pe_dnewD (t : Bool) : PE X (.Dict [] [] pos) (tE Γ fld W (fun fr => .ok (.tmp (.dic true t [] [])) fr true)) := by
  cases t with
  | false =>
    refine pe_dnewK.imp fun σ H Q h => ?_
    obtain ⟨B, F, T, af, S, h⟩ := h
    intro p hp
    refine h (.ref p) _ F (.refl _) (fun _ => ⟨rfl, (upd_grown hp).h⟩) (S.new (alloc_dK (kvs := []) S.fz hp) (.dicO (fp := []) upd_same ⟨rfl, List.nodup_nil⟩ .nil) (by simp) fun a m => ?_)
    rw [List.mem_singleton] at m; subst m; exact ⟨hp, none_sub S.fz hp⟩
  | true =>
    refine pe_dnewT.imp fun σ H Q h => ?_
    obtain ⟨B, F, T, af, S, h⟩ := h
    intro p hp
    refine h (.ref p) _ F (.refl _) (fun _ => ⟨rfl, (upd_grown hp).h⟩) (S.new (alloc_dT (kvs := []) S.fz hp) (.dicOT (fp := []) upd_same ⟨rfl, List.nodup_nil⟩ .nil) (by simp) fun a m => ?_)
    rw [List.mem_singleton] at m; subst m; exact ⟨hp, none_sub S.fz hp⟩
/-! ### slices -/
def okO (Γ : Wd) (B : Bd) (F : Hp) (T : List (V × D)) (af : Fr) (σ : L2.St) (H : Hp) (Q : Option Int → Hp → Prop) (b : Option Int) (af' : Fr) (q : Bool) : Prop :=
  ∀ H' F', FLe F F' → (q = true → af' = af ∧ HLe H H') → Sta Γ B F' H' σ af' T → Q b H'
def tO (Γ : Wd) (fld : String → Option String) (W : WX) (f : Fr → Rs (Option Int)) : TO := fun σ H Q => ∃ B F T af, Sta Γ B F H σ af T ∧ rG (okO Γ B F T af σ H Q) (exW Γ fld W B σ T) (f af)
theorem PO_imp {o : Option Expr} {t t' : TO} (h : PO X o t) (i : ∀ σ H Q, t' σ H Q → t σ H Q) : PO X o t' := ⟨fun pins s σ H Q I q => h.run pins s σ H Q I (i _ _ _ q)⟩
theorem po_noneD : PO X none (tO Γ fld W (fun fr => .ok none fr true)) := PO_imp po_none fun σ H Q h => by
  obtain ⟨B, F, T, af, S, h⟩ := h
  exact h H F (.refl _) (fun _ => ⟨rfl, .refl _⟩) S
theorem po_someD (ha : PE X a (tE Γ fld W fa)) : PO X (some a) (tO Γ fld W (fun fr => (fa fr).bind fun r fr => match r with
    | .tmp (.int i) => .ok (some i) fr true
    | _ => .no)) := PO_imp (po_some ha) fun σ H Q h => by
  obtain ⟨B, F, T, af, S, h⟩ := h
  refine tE_step S h (fun _ _ _ h => h) fun r f1 q1 e1 h1 v H1 F1 l1 k1 p1 => ?_
  split at h1
  · rename_i i
    have S1 : Sta Γ B F1 H1 σ f1 ((v, .int i) :: T) := p1
    obtain ⟨fp, r⟩ := S1.rp
    cases r
    exact ⟨i, rfl, h1 H1 F1 l1 (fun hq => k1 (by simpa using hq)) S1.drop⟩
  · exact h1.elim
theorem RpL.drop {F H : Hp} : ∀ {n : Nat} {vs : List V} {ds : List D} {fp : List Addr}, RpL Γ F H vs ds fp → pureL ds = true → RpL Γ F H (vs.drop n) (ds.drop n) [] ∧ pureL (ds.drop n) = true
  | 0, vs, ds, fp, h, p => ⟨h.any (FLe.refl F).k p, p⟩
  | n + 1, vs, ds, fp, h, p => by
    cases h with
    | nil => exact ⟨.nil, rfl⟩
    | cons a t =>
      simp only [pureL, Bool.and_eq_true] at p
      exact RpL.drop (n := n) t p.2
theorem RpL.take {F H : Hp} : ∀ {n : Nat} {vs : List V} {ds : List D} {fp : List Addr}, RpL Γ F H vs ds fp → pureL ds = true → RpL Γ F H (vs.take n) (ds.take n) [] ∧ pureL (ds.take n) = true
  | 0, vs, ds, fp, h, p => ⟨by rw [List.take_zero, List.take_zero]; exact .nil, by rw [List.take_zero]; rfl⟩
  | n + 1, vs, ds, fp, h, p => by
    cases h with
    | nil => exact ⟨.nil, rfl⟩
    | cons a t =>
      simp only [pureL, Bool.and_eq_true] at p
      obtain ⟨h1, h2⟩ := RpL.take (n := n) t p.2
      exact ⟨.cons (fp := []) (fq := []) (a.any (FLe.refl F).k p.1) h1, by simp only [List.take_succ_cons, pureL, Bool.and_eq_true]; exact ⟨p.1, h2⟩⟩
theorem RpL.cut {F H : Hp} {vs : List V} {ds : List D} {lo hi : Option Int} (h : RpL Γ F H vs ds []) (p : pureL ds = true) : RpL Γ F H (cutV vs lo hi) (cutL ds lo hi) [] ∧ pureL (cutL ds lo hi) = true := by
  unfold cutV cutL
  have e : vs.length = ds.length := h.length
  have := RpL.drop (n := HT.sIx vs.length 0 lo) h p
  have := RpL.take (n := HT.sIx vs.length vs.length hi - HT.sIx vs.length 0 lo) this.1 this.2
  rw [e] at this ⊢
  exact this
theorem RpL.rev {F H : Hp} : ∀ {vs : List V} {ds : List D} {fp : List Addr}, RpL Γ F H vs ds fp → pureL ds = true → RpL Γ F H vs.reverse ds.reverse [] ∧ pureL ds.reverse = true
  | vs, ds, fp, h, p => by
    cases h with
    | nil => exact ⟨.nil, rfl⟩
    | cons a t =>
      simp only [pureL, Bool.and_eq_true] at p
      obtain ⟨h1, h2⟩ := RpL.rev t p.2
      rw [List.reverse_cons, List.reverse_cons]
      exact ⟨h1.append (fp := []) (fq := []) (.cons (fp := []) (fq := []) (a.any (FLe.refl F).k p.1) .nil), pureL_append h2 (by simp [pureL, p.1])⟩
def rSl (Γ : Wd) : V → Option Int → Option Int → Hp → VK → Prop := fun x lo hi H Q => ∃ F dx fx d, Fz F H ∧ Rp Γ F H x dx fx ∧ dx.cpure = true ∧ sliceV dx lo hi = some d ∧ NewV Γ F H d Q
theorem cutL_whole {α : Type} {xs : List α} {lo hi : Option Int} (h : cutAt xs.length 0 lo = 0 ∧ cutAt xs.length xs.length hi = xs.length) : cutL xs lo hi = xs := by
  unfold cutL
  rw [h.1, h.2]; simp
theorem sv_cut (s : List Char) (lo hi : Option Int) : cutS (sv s) lo hi = sv (cutL s lo hi) := by
  unfold cutS cutL sv
  have e : (⟨(s.map Char.toNat).toArray⟩ : Str).length = s.length := by show ((s.map Char.toNat).toArray).size = _; simp
  rw [e]
  show (⟨(List.take _ (List.drop _ ((s.map Char.toNat).toArray).toList)).toArray⟩ : Str) = _
  rw [List.map_take, List.map_drop]
  rfl
theorem sl_any (hK : Γ.K = X.K) : SlR X (rSl Γ) := by
  intro pins s σ H x v vl vu lo hi sl Q I rx hs pl pu h
  obtain ⟨F, d, fx, e, z, hx, px, hd, n⟩ := h
  cases d <;> simp only [sliceV, reduceCtorEq, Option.some.injEq] at hd
  · rename_i xs
    split at hd
    · rename_i hl
      cases hd; cases hx.strS
      refine sl_str pins s σ H _ v vl vu lo hi sl Q I rx hs pl pu ⟨_, rfl, by rw [sv_length, ← line_eq]; exact hl, ?_⟩
      rw [sv_cut]; exact n.str z
    · cases hd
  · rename_i xs
    subst hd
    obtain ⟨a, vs, fq, rfl, q, r⟩ := hx.tupS z
    have pp : pureL xs = true := px
    have e1 := r.len_pure pp; subst e1
    have el : vs.length = xs.length := r.length
    refine sl_tupA pins s σ H _ v vl vu lo hi sl Q I rx hs pl pu ⟨a, vs, rfl, hK ▸ q, fun hw => ?_, fun hw p hp => ?_⟩
    · rw [el] at hw
      rw [cutL_whole hw] at n
      exact n.old z hx (by show pureL xs = true; exact pp)
    · obtain ⟨h1, h2⟩ := r.cut (lo := lo) (hi := hi) pp
      exact n.tup z h1 h2 hp
  · rename_i m xs
    subst hd
    obtain ⟨a, vs, fq, rfl, q, r⟩ := hx.lstS z
    have pp : pureL xs = true := px
    have e1 := r.len_pure pp; subst e1
    obtain ⟨h1, h2⟩ := r.cut (lo := lo) (hi := hi) pp
    exact sl_list pins s σ H _ v vl vu lo hi sl Q I rx hs pl pu ⟨a, vs, rfl, .of q, fun p hp => n.lst z h1 h2 hp⟩
  · rename_i xs
    obtain ⟨a, vs, fq, rfl, q, r⟩ := hx.ktupS
    have pp : pureL xs = true := px
    have e1 := r.len_pure pp; subst e1
    have el : vs.length = xs.length := r.length
    refine sl_tupA pins s σ H _ v vl vu lo hi sl Q I rx hs pl pu ⟨a, vs, rfl, hK ▸ q, fun hw => ?_, fun hw p hp => ?_⟩
    · rw [el] at hw
      have hw' : cutAt xs.length 0 lo = 0 ∧ cutAt xs.length xs.length hi = xs.length := hw
      rw [if_pos hw'] at hd
      cases hd
      exact n.old z hx (by show pureL xs = true; exact pp)
    · rw [el] at hw
      have hw' : ¬ (cutAt xs.length 0 lo = 0 ∧ cutAt xs.length xs.length hi = xs.length) := hw
      rw [if_neg hw'] at hd
      cases hd
      obtain ⟨h1, h2⟩ := r.cut (lo := lo) (hi := hi) pp
      exact n.tup z h1 h2 hp
  · rename_i xs
    subst hd
    obtain ⟨a, vs, fq, rfl, q, r⟩ := hx.scrS z
    have pp : pureL xs = true := px
    have e1 := r.len_pure pp; subst e1
    obtain ⟨h1, h2⟩ := r.cut (lo := lo) (hi := hi) pp
    exact sl_list pins s σ H _ v vl vu lo hi sl Q I rx hs pl pu ⟨a, vs, rfl, hK ▸ q, fun p hp => n.lst z h1 h2 hp⟩
end
end VI

end

section
/-! ViE7: slices; what is written. -/
namespace VI
open PySem L2 PyProof.Rows

section
variable {X : Cx} {Γ : Wd} {fld : String → Option String} {W : WX} {fa fb : Fr → Rs Rv} {fs : Fr → Rs (List Rv)} {a b e : Expr} {es : List Expr} {pos p2 : Pos} {lo hi : Option Expr} {gl gh : Fr → Rs (Option Int)}
theorem view_noex' {r : Rv} {af af' : Fr} {c : String} {a : D} : r.view af ≠ .ex c a af' := by
  intro e
  cases r <;> simp only [Rv.view, VI.freeze] at e <;> (repeat' split at e) <;> cases e
/-- the operand ahead is kept: what holds of it behind further operands -/
theorem PR.kept {B : Bd} {σ : L2.St} {F F' H H' : Hp} {af af' : Fr} {T : List (V × D)} {r : Rv} {v : V} {q : Bool} (h : PR Γ B σ F H af T r v) (S : Sta Γ B F' H' σ af' (tmps [r] [v] ++ T)) (l : FLe F F') (hd : ¬ (r.deep && !q) = true) (hq : q = true → HLe H H') : PR Γ B σ F' H' af' T r v := by
  cases r with
  | tmp d => exact S
  | plc x p =>
    refine ⟨S, h.2.mono l ?_⟩
    cases p with
    | nil => exact .inl rfl
    | cons s ss =>
      right
      have : q = true := by simpa [Rv.deep] using hd
      exact hq this
theorem rG_bindD {α β : Type} {ok : β → Fr → Bool → Prop} {ex : String → D → Fr → Prop} {r : Rv} {x : Rs α} {g : α → Fr → Rs β} (h : rG ok ex (x.bindD r g)) :
    rG (fun a fr q => ¬ (r.deep && !q) = true ∧ rG (fun b fr' q' => ok b fr' (q && q')) ex (g a fr)) ex x := by
  cases x with
  | ok a fr q =>
    simp only [Rs.bindD] at h
    split at h
    · exact h.elim
    · rename_i hd
      exact ⟨hd, rG_bind h⟩
  | ex c a fr => exact h
  | no => exact h
theorem pe_slcD (hK : Γ.K = X.K) (ha : PE X a (tE Γ fld W fa)) (hl : PO X lo (tO Γ fld W gl)) (hh : PO X hi (tO Γ fld W gh)) :
    PE X (.Subscript a (.Slice lo hi none p2) pos) (tE Γ fld W (fun fr => (fa fr).bind fun r fr => (sl2 gl gh fr).bindD r fun lh fr => (r.view fr).bind fun d fr => match sliceV d lh.1 lh.2 with
    | some e => .ok (.tmp e) fr true
    | none => .no)) := by
  refine (pe_slice (sl_any hK) ha hl hh).imp fun σ H Q h => ?_
  obtain ⟨B, F, T, af, S, h⟩ := h
  refine tE_step S h (fun _ _ _ h => h) fun r f1 q1 e1 h1 v H1 F1 l1 k1 p1 => ?_
  have h2 := rG_bindD h1
  have h3 := rG_bind h2
  refine ⟨B, F1, tmps [r] [v] ++ T, f1, p1.sta, rG_mono h3 (fun i f2 q2 e2 h4 H2 F2 l2 k2 S2 => ?_) fun _ _ _ h => exW.drop h⟩
  have h5 := rG_bind h4
  refine ⟨B, F2, tmps [r] [v] ++ T, f2, S2, rG_mono h5 (fun j f3 q3 e3 h6 H3 F3 l3 k3 S3 => ?_) fun _ _ _ h => exW.drop h⟩
  obtain ⟨hd, h7⟩ := h6
  have kk := q_and k2 k3
  have p3 : PR Γ B σ F3 H3 f3 T r v := p1.kept (q := q2 && (q3 && true)) S3 (l2.trans l3) hd fun hq => (kk (by simpa using hq)).2
  obtain ⟨d, f4, q4, e4, h8⟩ := rG_step h7 fun _ _ _ => view_noex'
  obtain ⟨F4, L4, l4, S4, ⟨fp, r4⟩, c4, k4⟩ := view_one p3 e4
  cases e5 : sliceV d i j with
  | none => simp only [e5] at h8; exact h8.elim
  | some e =>
    simp only [e5] at h8
    have h8 : okE Γ B F T af σ H Q (.tmp e) f4 (q1 && ((q2 && (q3 && true)) && (q4 && true))) := h8
    refine ⟨F4, d, fp, e, S4.dropL.fz, r4, c4, e5, fresh S4.dropL (l1.trans (l2.trans (l3.trans l4))) h8 fun hq => ?_⟩
    simp only [Bool.and_eq_true, and_true] at hq
    obtain ⟨a1, a2⟩ := k1 hq.1
    obtain ⟨b1, b2⟩ := kk (by simp only [Bool.and_eq_true]; exact hq.2.1)
    exact ⟨by rw [k4 hq.2.2, b1, a1], a2.trans b2⟩
/-- a[::-1] of a list, of a tuple -/
theorem pe_rslD {k : Nat} {p1 p3 p4 : Pos} (hK : Γ.K = X.K) (ha : PE X a (tE Γ fld W fa)) :
    PE X (.Subscript a (.Slice none none (some (.UnaryOp .USub (.Constant (.int 1) k p1) p2)) p3) p4) (tE Γ fld W (fun fr => (fa fr).bind fun r fr => (r.view fr).bind fun d fr => match d with
    | .lst _ xs => .ok (.tmp (.lst true xs.reverse)) fr true
    | .scr xs => .ok (.tmp (.lst true xs.reverse)) fr true
    | .tup xs => .ok (.tmp (.tup xs.reverse)) fr true
    | _ => .no)) := by
  refine (pe_revA ha).imp fun σ H Q h => ?_
  obtain ⟨B, F, T, af, S, h⟩ := h
  refine tE_step S h (fun _ _ _ h => h) fun r f1 q1 e1 h1 v H1 F1 l1 k1 p1 => ?_
  obtain ⟨d, f4, q4, e4, h8⟩ := rG_step h1 fun _ _ _ => view_noex'
  obtain ⟨F4, L4, l4, S4, ⟨fp, r4⟩, c4, k4⟩ := view_one p1 e4
  have hq : (q1 && (q4 && true)) = true → f4 = af ∧ HLe H H1 := fun hq => by
    simp only [Bool.and_eq_true, and_true] at hq
    obtain ⟨a1, a2⟩ := k1 hq.1
    exact ⟨by rw [k4 hq.2, a1], a2⟩
  have fin : ∀ {xs : List D} {vs : List V} {fq : List Addr}, RpL Γ F4 H1 vs xs fq → pureL xs = true → okE Γ B F T af σ H Q (.tmp (.lst true xs.reverse)) f4 (q1 && (q4 && true)) → ∀ p, H1 p = none → Q (.ref p) (upd H1 p (.lst vs.reverse)) := fun {xs vs fq} r pu h9 p hp => by
    obtain ⟨h1, h2⟩ := r.rev pu
    exact (fresh S4.dropL (l1.trans l4) h9 hq : NewV Γ F4 H1 _ Q).lst S4.dropL.fz h1 h2 hp
  split at h8
  · rename_i m xs
    obtain ⟨a, vs, fq, rfl, q, r⟩ := r4.lstS S4.fz
    exact ⟨a, vs, rfl, .inl ⟨.of q, fin r (show pureL xs = true from c4) h8⟩⟩
  · rename_i xs
    obtain ⟨a, vs, fq, rfl, q, r⟩ := r4.scrS S4.fz
    exact ⟨a, vs, rfl, .inl ⟨hK ▸ q, fin r (show pureL xs = true from c4) h8⟩⟩
  · rename_i xs
    obtain ⟨a, vs, fq, rfl, q, r⟩ := r4.tupS S4.fz
    refine ⟨a, vs, rfl, .inr ⟨hK ▸ q, fun p hp => ?_⟩⟩
    obtain ⟨h1, h2⟩ := r.rev (show pureL xs = true from c4)
    exact (fresh S4.dropL (l1.trans l4) h8 hq : NewV Γ F4 H1 _ Q).tup S4.dropL.fz h1 h2 hp
  · exact h8.elim
end
/-! ### writing -/
section
variable {Γ : Wd} {fld : String → Option String} {W : WX} {B : Bd} {F F' H H' : Hp} {σ : L2.St} {af af' : Fr} {T T' : List (V × D)}
def vsOf (L : List (V × D)) : List V := L.map (·.1)
def dsOf (L : List (V × D)) : List D := L.map (·.2)
/-- what a write at a asks of the node: w with e there, the temporaries L go in; e' stands there, L' come out -/
def WOk (Γ : Wd) (F H : Hp) (a : Addr) (o' : HO) (w : V) (e e' : D) (L L' : List (V × D)) : Prop :=
  (∀ vs, o' ≠ .tup vs) ∧ ∀ f1 fL, Rp Γ F H w e f1 → RpL Γ F H (vsOf L) (dsOf L) fL → (f1 ++ fL).Nodup → a ∈ f1 ∧ ∃ f' fL' R, (f1 ++ fL).Perm (f' ++ (fL' ++ R)) ∧ Rp Γ F (upd H a o') w e' f' ∧ RpL Γ F (upd H a o') (vsOf L') (dsOf L') fL'
theorem Sta.writeT {L L' : List (V × D)} {w : V} {e e' : D} {a : Addr} {o' : HO} (S : Sta Γ B F H σ af ((w, e) :: (L ++ T))) (hw : WOk Γ F H a o' w e e' L L') : Sta Γ B F (upd H a o') σ af ((w, e') :: (L' ++ T)) := by
  obtain ⟨ht, hw⟩ := hw
  have hp : (coll σ af ++ ((w, e) :: (L ++ T))).Perm ((w, e) :: (L ++ (coll σ af ++ T))) := by
    refine List.perm_middle.trans (List.Perm.cons _ ?_)
    rw [← List.append_assoc, ← List.append_assoc]
    exact List.perm_append_comm.append_right _
  obtain ⟨f0, r0, n0, q0⟩ := S.own.perm hp
  cases r0 with
  | @cons _ _ f1 _ _ f2 r1 r2 =>
    rw [List.map_append, List.map_append (l₁ := L) (f := fun x => x.2)] at r2
    obtain ⟨v1, v2, fL, fR, e1, rfl, h1, h2⟩ := r2.split
    have el := h1.length
    have e2 := List.append_inj e1 (by simpa using el.symm)
    rw [← e2.1] at h1
    rw [← e2.2] at h2
    have nn : (f1 ++ fL).Nodup ∧ fR.Nodup ∧ ∀ b ∈ f1 ++ fL, ∀ c ∈ fR, b ≠ c := by
      have := n0
      rw [← List.append_assoc] at this
      exact List.nodup_append.mp this
    obtain ⟨ha, f', fL', R, hpm, r', rL'⟩ := hw f1 fL r1 h1 nn.1
    have hFa := q0 a (List.mem_append_left _ ha)
    have hne : ∀ b ∈ fR, b ≠ a := fun b m q => by
      subst q; exact nn.2.2 b (List.mem_append_left _ ha) b m rfl
    have hFn : ∀ {b : Addr} {o : HO}, F b = some o → b ≠ a := fun {b o} hb q => by
      subst q
      have := hFa.1
      rw [hb] at this; cases this
    have h2' := h2.mono (H' := upd H a o') (FLe.refl F).k fun b m => upd_ne (hne b m)
    refine ⟨fun b o hb => by rw [upd_ne (hFn hb)]; exact S.sub b o hb, fun b vs hb => ?_, S.len, S.bnd, ?_, fun b o hb hm => ?_, S.mono, S.frF, by
      obtain ⟨o, e, k⟩ := r1.kind a ha
      exact tabs_upd S.tabs e (own_tbl k) (own_code k), S.mt, S.nt⟩
    · by_cases q : b = a
      · subst q; rw [upd_same] at hb; cases hb; exact (ht vs rfl).elim
      · rw [upd_ne q] at hb; exact S.tup b vs hb
    · have hp' : (coll σ af ++ ((w, e') :: (L' ++ T))).Perm ((w, e') :: (L' ++ (coll σ af ++ T))) := by
        refine List.perm_middle.trans (List.Perm.cons _ ?_)
        rw [← List.append_assoc, ← List.append_assoc]
        exact List.perm_append_comm.append_right _
      refine Own.perm ?_ hp'.symm
      refine ⟨f' ++ (fL' ++ fR), .cons r' ?_, ?_, fun b m => ?_⟩
      · rw [List.map_append, List.map_append (l₁ := L') (f := fun x => x.2)]
        exact rL'.append h2'
      · have n1 := hpm.nodup_iff.mp nn.1
        have : (f' ++ (fL' ++ R) ++ fR).Nodup := List.nodup_append.mpr ⟨n1, nn.2.1, fun b hb c hc => nn.2.2 b (hpm.mem_iff.mpr hb) c hc⟩
        have p2 : (f' ++ (fL' ++ R) ++ fR).Perm ((f' ++ (fL' ++ fR)) ++ R) := by
          simp only [List.append_assoc]
          exact (List.perm_append_comm.append_left fL').append_left f'
        exact (List.nodup_append.mp (p2.nodup_iff.mp this)).1
      · rcases List.mem_append.mp m with m | m
        · have : b ∈ f1 ++ fL := hpm.mem_iff.mpr (List.mem_append_left _ m)
          exact q0 b (by rw [← List.append_assoc]; exact List.mem_append_left _ this)
        · rcases List.mem_append.mp m with m | m
          · have : b ∈ f1 ++ fL := hpm.mem_iff.mpr (List.mem_append_right _ (List.mem_append_left _ m))
            exact q0 b (by rw [← List.append_assoc]; exact List.mem_append_left _ this)
          · exact q0 b (List.mem_append_right _ (List.mem_append_right _ m))
    · have : b ≠ a := fun q => by
        subst q
        rcases hFa.2 with h | h
        · exact hm h
        · rw [h] at hb; cases hb
      rw [upd_ne this]
      exact S.mod b o hb hm
/-- the same at a part of a tree -/
theorem WOk.deep {L L' : List (V × D)} {v w : V} {d e e' : D} {p : List Sp1} {a : Addr} {o' : HO} (z : FLe F H) (hg : d.get p = some e) (hn : e.pure = false) (hp : Pth Γ F H v p w) (hw : WOk Γ F H a o' w e e' L L') : WOk Γ F H a o' v d (d.put p e') L L' := by
  refine ⟨hw.1, fun f1 fL r1 rL n => ?_⟩
  obtain ⟨u, g1, g2, b1, b2, b3, b4⟩ := r1.focus hg hn
  have := b1.fn z hp
  subst this
  have n2 : ((g1 ++ fL) ++ g2).Nodup := by
    refine (List.Perm.nodup_iff ?_).mp n
    refine (b3.append_right fL).trans ?_
    rw [List.append_assoc, List.append_assoc]
    exact List.perm_append_comm.append_left g1
  obtain ⟨ha, f', fL', R, hpm, r', rL'⟩ := hw.2 g1 fL b2 rL (List.nodup_append.mp n2).1
  have hne : ∀ b ∈ g2, b ≠ a := fun b m q => by
    subst q; exact (List.nodup_append.mp n2).2.2 b (List.mem_append_left _ ha) b m rfl
  obtain ⟨fq, c1, c2⟩ := b4 F (upd H a o') e' f' (FLe.refl F).k (fun b m => upd_ne (hne b m)) r'
  refine ⟨b3.mem_iff.mpr (List.mem_append_left _ ha), fq, fL', R, ?_, c2, rL'⟩
  refine (b3.append_right fL).trans ?_
  refine List.Perm.trans ?_ (c1.append_right _).symm
  rw [List.append_assoc, List.append_assoc]
  refine (List.perm_append_comm.append_left g1).trans ?_
  rw [← List.append_assoc]
  refine (hpm.append_right g2).trans ?_
  rw [List.append_assoc]
  exact List.perm_append_comm.append_left f'
/-- a write at a place -/
theorem Sta.writeP {L L' : List (V × D)} {x : Nat} {p : List Sp1} {w : V} {d e e' : D} {a : Addr} {o' : HO} (S : Sta Γ B F H σ af (L ++ T)) (hs : slot af x = some d) (hg : d.get p = some e) (hn : e.pure = false) (hp : Plc Γ σ F H x p w)
    (hw : WOk Γ F H a o' w e e' L L') : Sta Γ B F (upd H a o') σ (af.set x (some (d.put p e'))) (L' ++ T) := by
  obtain ⟨v0, e0, pth⟩ := hp
  obtain ⟨v1, e1, S1⟩ := S.hide hs
  rw [e0] at e1; cases e1
  have S2 := S1.writeT (hw.deep S.sub hg hn pth)
  have := S2.back (x := x) (by simp [slot_lt hs]) e0
  rw [List.set_set] at this
  exact this
end
end VI

end

section
/-! ViE7b: entries of dicts, put in and taken out. -/
namespace VI
open PySem L2 PyProof.Rows

section
variable {κ : Type} [DecidableEq κ]
theorem putK_pos {r : List (κ × V)} {y : κ} {w w' : V} (h : y ∉ r.map (·.1)) : putK ((y, w') :: r) y w = (y, w) :: r := by
  unfold putK
  rw [if_pos (by simp)]
  simp only [List.map_cons, if_true]
  congr 1
  induction r with
  | nil => rfl
  | cons p r ih =>
    simp only [List.map_cons, List.mem_cons, not_or] at h
    simp only [List.map_cons]
    rw [if_neg (fun e => h.1 e.symm), ih h.2]
theorem putK_neg {r : List (κ × V)} {y y' : κ} {w w' : V} (h : y' ≠ y) : putK ((y', w') :: r) y w = (y', w') :: putK r y w := by
  unfold putK
  simp only [List.any_cons, h, decide_false, Bool.false_or]
  split
  · simp [h]
  · rfl
theorem putK_nil {y : κ} {w : V} : putK ([] : List (κ × V)) y w = [(y, w)] := rfl
theorem putK_mem : ∀ {r : List (κ × V)} {y z : κ} {w : V}, z ∈ (putK r y w).map (·.1) → z = y ∨ z ∈ r.map (·.1)
  | [], y, z, w, h => by rw [putK_nil] at h; left; simpa using h
  | (y', w') :: r, y, z, w, h => by
    by_cases c : y' = y
    · subst c
      unfold putK at h
      rw [if_pos (by simp)] at h
      simp only [List.map_cons, if_true, List.mem_cons] at h
      rcases h with h | h
      · exact .inl h
      · right
        rw [List.map_map] at h
        simp only [List.map_cons, List.mem_cons]
        right
        obtain ⟨p, hp, e⟩ := List.mem_map.mp h
        refine List.mem_map.mpr ⟨p, hp, ?_⟩
        rw [← e]
        simp only [Function.comp]
        split <;> rfl
    · rw [putK_neg c] at h
      simp only [List.map_cons, List.mem_cons] at h ⊢
      rcases h with h | h
      · exact .inr (.inl h)
      · rcases putK_mem h with h | h
        · exact .inl h
        · exact .inr (.inr h)
theorem dropK_pos {r : List (κ × V)} {y : κ} {w' : V} (h : y ∉ r.map (·.1)) : dropK ((y, w') :: r) y = r := by
  unfold dropK
  simp only [List.filter_cons, ne_eq, not_true, decide_false, Bool.false_eq_true, if_false]
  refine List.filter_eq_self.mpr fun p hp => ?_
  have : p.1 ≠ y := fun e => h (List.mem_map.mpr ⟨p, hp, e⟩)
  simpa using this
theorem dropK_neg {r : List (κ × V)} {y y' : κ} {w' : V} (h : y' ≠ y) : dropK ((y', w') :: r) y = (y', w') :: dropK r y := by
  unfold dropK
  simp [List.filter_cons, h]
theorem dropK_mem {r : List (κ × V)} {y z : κ} (h : z ∈ (dropK r y).map (·.1)) : z ∈ r.map (·.1) := by
  obtain ⟨p, hp, e⟩ := List.mem_map.mp h
  exact List.mem_map.mpr ⟨p, (List.mem_filter.mp hp).1, e⟩
section
variable {Γ : Wd} {F H : Hp} (f : D → Option κ) (hf : ∀ {k k' : D} {a b : κ}, f k = some a → f k' = some b → keq k' k = decide (b = a))
include hf
/-- an entry is put -/
theorem put_rel : ∀ {ks vs : List D} {kvs : List (κ × V)} {k d : D} {y : κ} {w : V} {fp fw : List Addr}, KRel f ks kvs → f k = some y → RpL Γ F H (kvs.map (·.2)) vs fp → Rp Γ F H w d fw →
    KRel f (dputK k ks) (putK kvs y w) ∧ ∃ fq R, (fw ++ fp).Perm (fq ++ R) ∧ RpL Γ F H ((putK kvs y w).map (·.2)) (dputV k d ks vs) fq
  | [], vs, [], k, d, y, w, fp, fw, g, hk, r, rw' => by
    cases r
    refine ⟨⟨?_, by rw [putK_nil]; simp⟩, fw ++ [], [], by simp, ?_⟩
    · show [f k] = _; rw [putK_nil, hk]; rfl
    · exact .cons rw' .nil
  | [], vs, _ :: _, _, _, _, _, _, _, g, _, _, _ => by have := g.1; simp at this
  | _ :: _, _, [], _, _, _, _, _, _, g, _, _, _ => by have := g.1; simp at this
  | k' :: ks, vs, (y', w') :: kvs, k, d, y, w, fp, fw, g, hk, r, rw' => by
    obtain ⟨g1, g2⟩ := g
    simp only [List.map_cons, List.cons.injEq] at g1
    simp only [List.map_cons, List.nodup_cons] at g2
    cases r with
    | @cons _ v' f1 _ vs' f2 a t =>
      have q := hf hk g1.1
      by_cases c : y' = y
      · subst c
        have hq : keq k' k = true := by rw [q]; simp
        refine ⟨⟨?_, ?_⟩, fw ++ f2, f1, ?_, ?_⟩
        · simp only [dputK, hq, if_true]; rw [putK_pos g2.1]; simp [g1.1, g1.2]
        · rw [putK_pos g2.1]; simpa using g2
        · rw [List.append_assoc]; exact (List.perm_append_comm).append_left fw
        · simp only [dputV, hq, if_true]; rw [putK_pos g2.1]; exact .cons rw' t
      · have hq : keq k' k = false := by rw [q]; simp [c]
        obtain ⟨⟨i1, i2⟩, fq, R, p, rr⟩ := put_rel (ks := ks) (k := k) (d := d) (w := w) ⟨g1.2, g2.2⟩ hk t rw'
        refine ⟨⟨?_, ?_⟩, f1 ++ fq, R, ?_, ?_⟩
        · simp only [dputK, hq, Bool.false_eq_true, if_false]; rw [putK_neg c]; simp [g1.1, i1]
        · rw [putK_neg c]
          simp only [List.map_cons, List.nodup_cons]
          refine ⟨fun m => ?_, i2⟩
          rcases putK_mem m with m | m
          · exact c m
          · exact g2.1 m
        · rw [← List.append_assoc, List.append_assoc f1]
          refine (List.perm_append_comm.append_right f2).trans ?_
          rw [List.append_assoc]
          exact p.append_left f1
        · simp only [dputV, hq, Bool.false_eq_true, if_false]; rw [putK_neg c]; exact .cons a rr
/-- an entry is taken out -/
theorem del_rel : ∀ {ks vs : List D} {kvs : List (κ × V)} {k e : D} {y : κ} {fp : List Addr}, KRel f ks kvs → f k = some y → RpL Γ F H (kvs.map (·.2)) vs fp → dfind k ks vs = some e →
    KRel f (ddelK k ks) (dropK kvs y) ∧ ∃ w fe fq, valV kvs y = some w ∧ fp.Perm (fe ++ fq) ∧ Rp Γ F H w e fe ∧ RpL Γ F H ((dropK kvs y).map (·.2)) (ddelV k ks vs) fq
  | [], vs, _, k, e, y, fp, g, hk, r, h => by simp [dfind] at h
  | _ :: _, _, [], _, _, _, _, g, _, _, _ => by have := g.1; simp at this
  | k' :: ks, vs, (y', w') :: kvs, k, e, y, fp, g, hk, r, h => by
    obtain ⟨g1, g2⟩ := g
    simp only [List.map_cons, List.cons.injEq] at g1
    simp only [List.map_cons, List.nodup_cons] at g2
    cases r with
    | @cons _ v' f1 _ vs' f2 a t =>
      have q := hf hk g1.1
      simp only [dfind] at h
      by_cases c : y' = y
      · subst c
        have hq : keq k' k = true := by rw [q]; simp
        rw [hq, if_pos rfl] at h
        cases h
        refine ⟨⟨?_, ?_⟩, w', f1, f2, valV_pos rfl, .refl _, a, ?_⟩
        · simp only [ddelK, hq, if_true]; rw [dropK_pos g2.1]; exact g1.2
        · rw [dropK_pos g2.1]; exact g2.2
        · simp only [ddelV, hq, if_true]; rw [dropK_pos g2.1]; exact t
      · have hq : keq k' k = false := by rw [q]; simp [c]
        rw [hq] at h
        simp only [Bool.false_eq_true, if_false] at h
        obtain ⟨⟨i1, i2⟩, w, fe, fq, i3, p, i4, i5⟩ := del_rel (ks := ks) (k := k) ⟨g1.2, g2.2⟩ hk t h
        refine ⟨⟨?_, ?_⟩, w, fe, f1 ++ fq, by rw [valV_neg c]; exact i3, ?_, i4, ?_⟩
        · simp only [ddelK, hq, Bool.false_eq_true, if_false]; rw [dropK_neg c]; simp [g1.1, i1]
        · rw [dropK_neg c]
          simp only [List.map_cons, List.nodup_cons]
          exact ⟨fun m => g2.1 (dropK_mem m), i2⟩
        · refine (p.append_left f1).trans ?_
          rw [← List.append_assoc, ← List.append_assoc]
          exact List.perm_append_comm.append_right fq
        · simp only [ddelV, hq, Bool.false_eq_true, if_false]; rw [dropK_neg c]; exact .cons a i5
end
end
end VI

end

section
/-! ViE8: built-ins called by their names. -/
namespace VI
open PySem L2 PyProof.Rows

/-! ### repr -/
theorem levD_show : ∀ (n : Nat) (d : D), levD n d = true → (pd d).showable = true ∧ (pd d).depth ≤ n := by
  intro n
  induction n with
  | zero =>
    intro d l
    cases d <;> simp only [levD, reduceCtorEq] at l <;> simp_all [pd, PyData.showable, PyData.depth]
  | succ n ih =>
    have all : ∀ ds : List D, ds.all (levD n) = true → PyData.showableAll (pdL ds) = true ∧ PyData.depthAll (pdL ds) ≤ n := by
      intro ds
      induction ds with
      | nil => intro _; simp [pdL, PyData.showableAll, PyData.depthAll]
      | cons d ds ih2 =>
        intro l
        simp only [List.all_cons, Bool.and_eq_true] at l
        have h1 := ih d l.1
        have h2 := ih2 l.2
        simp only [pdL, PyData.showableAll, PyData.depthAll, h1.1, h2.1, Bool.and_self, true_and]
        exact Nat.max_le.mpr ⟨h1.2, h2.2⟩
    intro d l
    cases d <;> simp only [levD, reduceCtorEq] at l
    · simp [pd, PyData.showable, PyData.depth]
    · simp [pd, PyData.showable, PyData.depth]
    · simpa [pd, PyData.showable, PyData.depth] using l
    · simp [pd, PyData.showable, PyData.depth]
    · have := all _ l
      simp only [pd, PyData.showable, PyData.depth, this.1, true_and]; omega
    · have := all _ l
      simp only [pd, PyData.showable, PyData.depth, this.1, true_and]; omega
    · rename_i m t ks vs
      simp only [Bool.and_eq_true, List.isEmpty_iff] at l
      obtain ⟨rfl, rfl⟩ := l
      simp [pd, pdL, PyData.showable, PyData.showableKv, PyData.depth, PyData.depthKv]
    · have := all _ l
      simp only [pd, PyData.showable, PyData.depth, this.1, true_and]; omega
theorem sv_small (s : List Char) : ∀ c ∈ (sv s).cps.toList, c < 16 ^ 8 := fun c h => by
  have := sv_ok s
  unfold PyData.strOk at this
  rw [Array.all_eq_true'] at this
  have := this c (by simpa using h)
  have : c < 1114112 := by simpa using this
  omega
theorem shown_le : ∀ (n : Nat) (d : D), levD n d = true → (pd d).shown.length ≤ rsz d := by
  intro n
  induction n with
  | zero =>
    intro d l
    cases d <;> simp only [levD, reduceCtorEq] at l
    · show (("None" : Str)).length ≤ 10; decide
    · rename_i b; cases b <;> decide
    · exact Nat.le_trans (int_text_len_1921 (of_decide_eq_true l)) (by show 1921 ≤ 1925; omega)
    · rename_i z
      have := StrLaws.reprText_len (sv z) (sv_small z)
      rw [sv_length] at this
      exact this
  | succ n ih =>
    have all : ∀ ds : List D, ds.all (levD n) = true → ((PyData.shownAll (pdL ds)).map (·.length)).sum + 2 * (PyData.shownAll (pdL ds)).length ≤ rszL ds := by
      intro ds
      induction ds with
      | nil => intro _; simp [pdL, PyData.shownAll, rszL]
      | cons d ds ih2 =>
        intro l
        simp only [List.all_cons, Bool.and_eq_true] at l
        have h1 := ih d l.1
        have h2 := ih2 l.2
        simp only [pdL, PyData.shownAll, List.map_cons, List.sum_cons, List.length_cons, rszL]
        omega
    intro d l
    cases d <;> simp only [levD, reduceCtorEq] at l
    · show (("None" : Str)).length ≤ 10; decide
    · rename_i b; cases b <;> decide
    · exact Nat.le_trans (int_text_len_1921 (of_decide_eq_true l)) (by show 1921 ≤ 1925; omega)
    · rename_i z
      have := StrLaws.reprText_len (sv z) (sv_small z)
      rw [sv_length] at this
      exact this
    · rename_i xs
      have := all _ l
      have h := tupleText_len_le (PyData.shownAll (pdL xs))
      show (tupleText (PyData.shownAll (pdL xs))).length ≤ rszL xs + 3
      omega
    · rename_i m xs
      have := all _ l
      have h := listText_len_le (PyData.shownAll (pdL xs))
      show (listText (PyData.shownAll (pdL xs))).length ≤ rszL xs + 3
      omega
    · rename_i m t ks vs
      simp only [Bool.and_eq_true, List.isEmpty_iff] at l
      obtain ⟨rfl, rfl⟩ := l
      cases m <;> cases t <;> decide
    · rename_i xs
      have := all _ l
      have h := tupleText_len_le (PyData.shownAll (pdL xs))
      show (tupleText (PyData.shownAll (pdL xs))).length ≤ rszL xs + 3
      omega
section
variable {X : Cx} {pins : List (Addr × Obj)} {σ : L2.St} {s : Shared} {F H : Hp} {Γ : Wd}
theorem base_none (I : Inv X pins σ H s) {b : Addr} {o : Obj} (e : X.K.lookup b = some o) : H b = none := by
  have e1 := I.ok.mod.kin b o e
  obtain ⟨h1, h2⟩ := I.ok.bs b o e1
  exact I.base.free b o h1 h2 (I.ok.noex b o e1)
theorem rdDict {m t : Bool} {v : V} {u : Value} {fp : List Addr} (I : Inv X pins σ H s) (z : Fz F H) (h : Rp Γ F H v (.dic m t [] []) fp) (r : RelV v u) : ∃ as, Reads s.heap u (.dict []) as ∧ PySem.sysModules ∉ as := by
  have getK : ∀ {a : Addr} {kvs : List (L2.Key × V)}, Rd H a (.dK kvs) → ([] : List D).map kD = kvs.map (fun p => some p.1) → ∃ as, Reads s.heap (.ref a) (.dict []) as ∧ PySem.sysModules ∉ as := fun {a kvs} e g => by
    cases kvs with
    | cons _ _ => simp at g
    | nil =>
      have ok : ObjOk X.prog X.w H s.heap a (.dK []) := by
        rcases e with e | ⟨u, e⟩
        · exact I.hok a _ e
        · exact (I.hok a _ e).2
      obtain ⟨_, hne, vs, kv, hd⟩ := ok
      cases kv
      obtain ⟨o, es, ep, h1, h2, h3, _, h4, _⟩ := hd
      have h4 : es.toList = [] := by
        generalize es.toList = l at h4
        cases h4; rfl
      refine ⟨[a], .dict (kvs := []) (as := []) (bs := []) h1 h2.1 h3 (by rw [h4]; exact .nil) (by rw [h4]; exact .nil), ?_⟩
      simp only [List.mem_singleton]
      intro e
      rw [← e] at hne
      simp at hne
  have getT : ∀ {a : Addr} {kvs : List (List L2.Key × V)}, Rd H a (.dT kvs) → ([] : List D).map tD = kvs.map (fun p => some p.1) → ∃ as, Reads s.heap (.ref a) (.dict []) as ∧ PySem.sysModules ∉ as := fun {a kvs} e g => by
    cases kvs with
    | cons _ _ => simp at g
    | nil =>
      have ok : ObjOk X.prog X.w H s.heap a (.dT []) := by
        rcases e with e | ⟨u, e⟩
        · exact I.hok a _ e
        · exact (I.hok a _ e).2
      obtain ⟨_, hne, vs, kv, o, es, ep, h1, h2, h3, h4, _⟩ := ok
      cases kv
      have h4 : es.toList = [] := by simpa using h4
      refine ⟨[a], .dict (kvs := []) (as := []) (bs := []) h1 h2.1 h3 (by rw [h4]; exact .nil) (by rw [h4]; exact .nil), ?_⟩
      simp only [List.mem_singleton]
      intro e
      rw [← e] at hne
      simp at hne
  cases h with
  | dicF e g _ _ => cases r; exact getK (z.sub.rd _ _ e) g.1
  | dicFT e g _ _ => cases r; exact getT (z.sub.rd _ _ e) g.1
  | dicO e g _ => cases r; exact getK (.inl e) g.1
  | dicOT e g _ => cases r; exact getT (.inl e) g.1
/-- data to be shown, read; sys.modules is not among them -/
theorem rdShow {om : Obj} (hK : Γ.K = X.K) (I : Inv X pins σ H s) (z : Fz F H) (hm : X.K.lookup PySem.sysModules = some om) : ∀ (n : Nat) {v : V} {u : Value} {d : D} {fp : List Addr}, Rp Γ F H v d fp → levD n d = true → RelV v u → ∃ as, Reads s.heap u (pd d) as ∧ PySem.sysModules ∉ as := by
  intro n
  have flat : ∀ {v : V} {u : Value} {d : D} {fp : List Addr}, Rp Γ F H v d fp → levD 0 d = true → RelV v u → ∃ as, Reads s.heap u (pd d) as ∧ PySem.sysModules ∉ as := by
    intro v u d fp h l r
    cases d <;> simp only [levD, reduceCtorEq] at l
    · cases h; cases r; exact ⟨_, .none, by simp⟩
    · cases h; cases r; exact ⟨_, .bool _, by simp⟩
    · cases h; obtain ⟨t, rfl⟩ := r; exact ⟨_, .int _ t, by simp⟩
    · cases h; obtain ⟨t, rfl⟩ := r; exact ⟨_, .str _ t, by simp⟩
  induction n with
  | zero => exact flat
  | succ n ih =>
    have all : ∀ {ds : List D} {vs : List V} {us : List Value} {fp : List Addr}, RpL Γ F H vs ds fp → ds.all (levD n) = true → Vals vs us → ∃ as, ReadsAll s.heap us (pdL ds) as ∧ PySem.sysModules ∉ as := by
      intro ds
      induction ds with
      | nil => intro vs us fp h _ r; cases h; cases r; exact ⟨_, .nil, by simp⟩
      | cons d ds ih2 =>
        intro vs us fp h l r
        cases h with
        | cons a t =>
          cases r with
          | cons r1 r2 =>
            simp only [List.all_cons, Bool.and_eq_true] at l
            obtain ⟨as, q1, n1⟩ := ih a l.1 r1
            obtain ⟨bs, q2, n2⟩ := ih2 t l.2 r2
            exact ⟨_, .cons q1 q2, by simp [n1, n2]⟩
    intro v u d fp h l r
    cases d <;> simp only [levD, reduceCtorEq] at l
    · exact flat h (by simp [levD]) r
    · exact flat h (by simp [levD]) r
    · exact flat h (by simpa [levD] using l) r
    · exact flat h (by simp [levD]) r
    · obtain ⟨a, vs, fq, rfl, e, rr⟩ := h.tupS z
      cases r
      obtain ⟨its, rv, ⟨o, ho, hc, k, hd⟩, _⟩ := I.tuple (hK ▸ e)
      obtain ⟨as, q, nn⟩ := all rr l rv
      exact ⟨_, .tuple ho hc hd q, nn⟩
    · obtain ⟨a, vs, fq, rfl, e, rr⟩ := h.lstS z
      cases r
      obtain ⟨its, rv, ⟨o, k, ho, hc, _, hd⟩, _⟩ := I.list (.of e)
      obtain ⟨as, q, nn⟩ := all rr l rv
      refine ⟨_, .list ho hc hd q, ?_⟩
      simp only [List.mem_cons, not_or]
      refine ⟨fun w => ?_, nn⟩
      have := base_none I hm
      rw [w, e] at this; cases this
    · rename_i m t ks vs
      simp only [Bool.and_eq_true, List.isEmpty_iff] at l
      obtain ⟨rfl, rfl⟩ := l
      exact rdDict I z h r
    · obtain ⟨a, vs, fq, rfl, e, rr⟩ := h.ktupS
      cases r
      obtain ⟨its, rv, ⟨o, ho, hc, k, hd⟩, _⟩ := I.tuple (hK ▸ e)
      obtain ⟨as, q, nn⟩ := all rr l rv
      exact ⟨_, .tuple ho hc hd q, nn⟩
theorem call_reprD (hK : Γ.K = X.K) (hr : Room 0 X.A) (hg : X.A.guards = some []) (hm : ∃ om, X.K.lookup PySem.sysModules = some om) : CallR X (.builtin "repr") (fun xs H Q => ∃ v d F fp, xs = [v] ∧ Fz F H ∧ Rp Γ F H v d fp ∧ levD 8 d = true ∧ (pd d).shown.length ≤ sizeLine ∧ Q (.str (pd d).shown) H) := by
  intro pins s σ H xs us Q I r h
  obtain ⟨v, d, F, fp, rfl, z, h, l, hsz, q⟩ := h
  obtain ⟨om, hm⟩ := hm
  obtain ⟨u, rfl, ru⟩ := vals1 r
  have hu : X.A.units + 200 < cLine := by have := hr.un; omega
  obtain ⟨hs, hdep⟩ := levD_show 8 d l
  obtain ⟨as, rd, ns⟩ := rdShow hK I z hm 8 h l ru
  have big : ∀ {a : Addr}, u = .ref a → wpAny (model X.prog X.w) X.A (call (.builtin "repr") [u]) (EP X pins σ Q) X.xe s := fun {a} e => by
    subst e
    exact repr_of_reads' rd hs (fun _ => ns) hg (by omega) (fun b o e => e) (fun h' u tk hk => ⟨.str _, H, I.kept hk, ⟨_, rfl⟩, q⟩) hsz
  cases d <;> simp only [levD, reduceCtorEq] at l
  · cases h
    obtain rfl : u = Value.none := ru
    exact PySem.P.repr_of_none ⟨.str _, H, I.tok _, ⟨_, rfl⟩, q⟩
  · cases h
    obtain rfl : u = Value.bool _ := ru
    exact PySem.P.repr_of_bool ⟨.str _, H, I.tok _, ⟨_, rfl⟩, q⟩
  · cases h
    obtain ⟨t, rfl⟩ := ru
    exact PySem.P.repr_of_int (of_decide_eq_true hs) ⟨.str _, H, I.tok _, ⟨_, rfl⟩, q⟩
  · cases h
    obtain ⟨t, rfl⟩ := ru
    exact PySem.P.repr_of_str ⟨.str _, H, I.tok _, ⟨_, rfl⟩, q⟩ hsz
  · obtain ⟨a, _, _, rfl, _⟩ := h.tupS z; exact big ru
  · obtain ⟨a, _, _, rfl, _⟩ := h.lstS z; exact big ru
  · cases h <;> exact big ru
  · obtain ⟨a, _, _, rfl, _⟩ := h.ktupS; exact big ru
end

/-! ### the built-ins -/
def biF : BI → Value
  | .len => .builtin "len"
  | .tuple => .type "tuple"
  | .list => .type "list"
  | .sorted => .builtin "sorted"
  | .int => .type "int"
  | .str => .type "str"
  | .repr => .builtin "repr"
  | .min => .builtin "min"
  | .max => .builtin "max"
  | .sum => .builtin "sum"
  | .all => .builtin "all"
  | .any => .builtin "any"
  | .abs => .builtin "abs"
  | .divmod => .builtin "divmod"
  | .dict => .type "dict"
  | .sortedItems => .none
  | .listItems => .none
inductive Vw (Γ : Wd) (F H : Hp) : List V → List D → Prop
  | nil : Vw Γ F H [] []
  | cons {v : V} {d : D} {fp : List Addr} {vs : List V} {ds : List D} : Rp Γ F H v d fp → d.cpure = true → Vw Γ F H vs ds → Vw Γ F H (v :: vs) (d :: ds)
def rBi (Γ : Wd) (f : BI) : List V → Hp → VK → Prop := fun xs H Q => ∃ F ds d, Fz F H ∧ Vw Γ F H xs ds ∧ biV f ds = some d ∧ NewV Γ F H d Q
section
variable {Γ : Wd} {F H : Hp}
theorem RpL.ints : ∀ {ds : List D} {vs : List V} {fp : List Addr} {is : List Int}, RpL Γ F H vs ds fp → intsOf ds = some is → vs = is.map V.int
  | [], vs, fp, is, h, e => by cases h; simp only [intsOf, Option.some.injEq] at e; subst e; rfl
  | d :: ds, vs, fp, is, h, e => by
    cases h with
    | cons a t =>
      cases d <;> simp only [intsOf, reduceCtorEq] at e
      cases e2 : intsOf ds with
      | none => rw [e2] at e; cases e
      | some l =>
        rw [e2] at e
        simp only [Option.map_some, Option.some.injEq] at e
        subst e
        rw [RpL.ints t e2, a.intS]; rfl
theorem RpL.bools : ∀ {ds : List D} {vs : List V} {fp : List Addr} {is : List Bool}, RpL Γ F H vs ds fp → boolsOf ds = some is → vs = is.map V.bl
  | [], vs, fp, is, h, e => by cases h; simp only [boolsOf, Option.some.injEq] at e; subst e; rfl
  | d :: ds, vs, fp, is, h, e => by
    cases h with
    | cons a t =>
      cases d <;> simp only [boolsOf, reduceCtorEq] at e
      cases e2 : boolsOf ds with
      | none => rw [e2] at e; cases e
      | some l =>
        rw [e2] at e
        simp only [Option.map_some, Option.some.injEq] at e
        subst e
        rw [RpL.bools t e2, a.blS]; rfl
theorem maxI_of : ∀ (is : List Int) (i m : Int), m ∈ i :: is → (∀ y, y ∈ i :: is → y ≤ m) → m = maxI is i
  | [], i, m, h, _ => by simpa [maxI] using h
  | j :: is, i, m, h, g => by
    have hi := g i (by simp)
    have hj := g j (by simp)
    simp only [maxI]
    refine maxI_of is _ m ?_ fun y hy => ?_
    · rcases List.mem_cons.mp h with h | h
      · by_cases c : i < j
        · omega
        · simp [c, h]
      · rcases List.mem_cons.mp h with h | h
        · by_cases c : i < j
          · simp [c, h]
          · have : i = m := by omega
            rw [if_neg c]; exact List.mem_cons.mpr (.inl this.symm)
        · exact List.mem_cons_of_mem _ h
    · rcases List.mem_cons.mp hy with h | h
      · subst h; split <;> assumption
      · exact g y (by simp [h])
theorem minI_of : ∀ (is : List Int) (i m : Int), m ∈ i :: is → (∀ y, y ∈ i :: is → m ≤ y) → m = minI is i
  | [], i, m, h, _ => by simpa [minI] using h
  | j :: is, i, m, h, g => by
    have hi := g i (by simp)
    have hj := g j (by simp)
    simp only [minI]
    refine minI_of is _ m ?_ fun y hy => ?_
    · rcases List.mem_cons.mp h with h | h
      · by_cases c : j < i
        · omega
        · simp [c, h]
      · rcases List.mem_cons.mp h with h | h
        · by_cases c : j < i
          · simp [c, h]
          · have : i = m := by omega
            rw [if_neg c]; exact List.mem_cons.mpr (.inl this.symm)
        · exact List.mem_cons_of_mem _ h
    · rcases List.mem_cons.mp hy with h | h
      · subst h; split <;> assumption
      · exact g y (by simp [h])
end
theorem str_int (i : Int) : (Str.ofString (toString i)) = sv (intStr i) := ofString_sv _
section
variable {Γ : Wd} {F H : Hp}
theorem each_zip {s : Shared} {F H : Hp} : ∀ {vs : List V} {its : List Value} {ds : List D} {fp : List Addr}, Vals vs its → RpL Γ F H vs ds fp → PySem.W.EachIs (fun u (b : V × D) => RelV b.1 u) its (vs.zip ds)
  | _, _, _, _, .nil, .nil => .nil
  | _, _, _, _, .cons r t, .cons a b => .cons r (each_zip (s := s) t b)
theorem each_reads {X : Cx} {pins : List (Addr × Obj)} {σ : L2.St} {s : Shared} {F H : Hp} (hK : Γ.K = X.K) (I : Inv X pins σ H s) (z : Fz F H) : ∀ {vs : List V} {its : List Value} {ds : List D} {fp : List Addr}, Vals vs its → RpL Γ F H vs ds fp → ds.all (lev 8) = true → PySem.W.EachIs (fun u (b : V × D) => ∃ as, Reads s.heap u (pd b.2) as) its (vs.zip ds)
  | _, _, _, _, .nil, .nil, _ => .nil
  | _, _, _, _, .cons r t, .cons a b, h => by
    rw [List.all_cons, Bool.and_eq_true] at h
    exact .cons (Dp.reads I _ _ _ (hK ▸ a.dp z 8 h.1) r) (each_reads hK I z t b h.2)
theorem zip_pd : ∀ {vs : List V} {ds : List D}, vs.length = ds.length → (vs.zip ds).map (fun b => pd b.2) = ds.map pd
  | [], [], _ => rfl
  | v :: vs, d :: ds, h => congrArg (pd d :: ·) (zip_pd (by simpa using h))
  | [], _ :: _, h => by simp at h
  | _ :: _, [], h => by simp at h
theorem zip_rp : ∀ {vs : List V} {ds : List D} {fp : List Addr}, RpL Γ F H vs ds fp → pureL ds = true → ∀ b ∈ vs.zip ds, Rp Γ F H b.1 b.2 []
  | _, _, _, .nil, _, b, m => by simp at m
  | _, _, _, .cons (v := v) (d := d) a t, p, b, m => by
    simp only [pureL, Bool.and_eq_true] at p
    rcases List.mem_cons.mp m with rfl | m
    · exact a.any (FLe.refl F).k p.1
    · exact zip_rp t p.2 b m
theorem rpL_of : ∀ {L : List (V × D)}, (∀ b ∈ L, Rp Γ F H b.1 b.2 []) → RpL Γ F H (L.map (·.1)) (L.map (·.2)) []
  | [], _ => .nil
  | b :: L, h => .cons (fp := []) (fq := []) (h b (List.mem_cons_self ..)) (rpL_of fun c m => h c (List.mem_cons_of_mem _ m))
theorem pureL_perm {xs ys : List D} (p : xs.Perm ys) : pureL xs = pureL ys := by
  induction p with
  | nil => rfl
  | cons x _ ih => simp only [pureL, ih]
  | swap x y l => simp only [pureL]; cases x.pure <;> cases y.pure <;> rfl
  | trans _ _ a b => rw [a, b]
theorem vals_each : ∀ {out : List Value} {L : List (V × D)}, PySem.W.EachIs (fun u (b : V × D) => RelV b.1 u) out L → Vals (L.map (·.1)) out
  | _, _, .nil => .nil
  | _, _, .cons r t => .cons r (vals_each t)
theorem pureL_put {k d : D} (h : d.pure = true) : ∀ {ks vs : List D}, pureL vs = true → pureL (dputV k d ks vs) = true
  | [], vs, p => by cases vs <;> simp [dputV, pureL, h]
  | _ :: _, [], p => by simp [dputV, pureL, h]
  | k' :: ks, v :: vs, p => by
    simp only [pureL, Bool.and_eq_true] at p
    simp only [dputV]
    split
    · simp only [pureL, Bool.and_eq_true]; exact ⟨h, p.2⟩
    · simp only [pureL, Bool.and_eq_true]; exact ⟨p.1, pureL_put h p.2⟩
theorem dict_of {K : PySem.W.Frag} (hK : Γ.K = K) (z : Fz F H) : ∀ {ps vp ks0 vs0 ks vs : List D} {us : List V} {fp : List Addr} {kvs0 : List (L2.Key × V)}, RpL Γ F H us ps fp → pureL ps = true → dictOf ps ks0 vs0 = some (ks, vs) →
    KRel kD ks0 kvs0 → RpL Γ F H (kvs0.map (·.2)) vs0 [] → pureL vs0 = true →
    ∃ (as : List Addr) (kvs : List (L2.Key × V)), us = as.map V.ref ∧ Paired (fun p kv => SqT K H p [kV kv.1, kv.2]) as kvs ∧ KRel kD ks (mergeK kvs0 kvs) ∧ RpL Γ F H ((mergeK kvs0 kvs).map (·.2)) vs [] ∧ pureL vs = true
  | [], _, ks0, vs0, ks, vs, us, fp, kvs0, r, p, e, g, r0, p0 => by
    cases r
    simp only [dictOf, Option.some.injEq, Prod.mk.injEq] at e
    obtain ⟨rfl, rfl⟩ := e
    exact ⟨[], [], rfl, .nil, g, r0, p0⟩
  | q :: ps, vp, ks0, vs0, ks, vs, us, fp, kvs0, r, p, e, g, r0, p0 => by
    unfold dictOf at e
    split at e
    · rename_i heq; exact absurd heq (by simp)
    · rename_i k v ps2 heq
      cases heq
      split at e
      · rename_i hk
        simp only [pureL, Bool.and_eq_true] at p
        cases r with
        | cons a t =>
          obtain ⟨ad, ws, f2, rfl, hs, rr⟩ := a.tupS z
          cases rr with
          | @cons kw _ f3 ws2 _ _ rk rt =>
            cases rt with
            | @cons vw _ f4 _ _ _ rv rn =>
              cases rn
              have hp : pureL [k, v] = true := by have := p.1; rwa [D.pure] at this
              simp only [pureL, Bool.and_eq_true, and_true] at hp
              obtain ⟨key, hkey, ekey⟩ := rk.keyK (by cases k <;> simp [D.scal] at hk <;> rfl)
              have rv' := rv.any (FLe.refl F).k hp.2 (H' := H)
              obtain ⟨g2, fq, R, pm, r2⟩ := put_rel kD kD_eq g hkey r0 rv'
              have : fq = [] := by
                have := pm.length_eq
                simp at this
                exact List.eq_nil_of_length_eq_zero (by omega)
              subst this
              obtain ⟨as, kvs, e1, pr, g3, r3, p3⟩ := dict_of hK z (vp := vp) t p.2 e g2 r2 (pureL_put hp.2 p0)
              exact ⟨ad :: as, (key, vw) :: kvs, by rw [e1]; rfl, .cons (by rw [← ekey, ← hK]; exact hs) pr, g3, r3, p3⟩
      · cases e
    · cases e
/-- sorted(xs) -/
theorem sorted_rule {X : Cx} {pins : List (Addr × Obj)} {σ : L2.St} {s : Shared} {F H : Hp} {Q : VK} {v : V} {us : List Value} {m : Bool} {xs : List D} {fp : List Addr} (hK : Γ.K = X.K) (hr : Room 0 X.A) (I : Inv X pins σ H s) (r : Vals [v] us) (z : Fz F H) (a : Rp Γ F H v (.lst m xs) fp)
    (pu : pureL xs = true) (ok : sortOk xs = true) (n : NewV Γ F H (.lst true (sortM xs)) Q) : wpAny (model X.prog X.w) X.A (call (.builtin "sorted") us) (EP X pins σ Q) X.xe s := by
  obtain ⟨p, vs, fq, rfl, q, rr⟩ := a.lstS z
  obtain ⟨its, rv, hl, hz⟩ := I.list (.of q)
  rw [Vals.ref1 r]
  simp only [sortOk, Bool.and_eq_true] at ok
  obtain ⟨⟨o1, o2⟩, o3⟩ := ok
  have len := rr.length
  have al : ∀ x ∈ xs, ∀ y ∈ xs, alikeD x y = true := fun x hx y hy => List.all_eq_true.mp (List.all_eq_true.mp o1 x hx) y hy
  have lv : ∀ x ∈ xs, lev 8 x = true := List.all_eq_true.mp o2
  have hal : PySem.W.AllAlike ((vs.zip xs).map fun b => pd b.2) := by
    rw [zip_pd len]
    intro d hd d' hd'
    obtain ⟨x, hx, rfl⟩ := List.mem_map.mp hd
    obtain ⟨y, hy, rfl⟩ := List.mem_map.mp hd'
    exact alike_pd x y (al x hx y hy)
  have hk : PySem.W.Sortable ((vs.zip xs).map fun b => pd b.2) := by
    rw [zip_pd len]
    cases xs with
    | nil => exact .inl fun d hd => by simp at hd
    | cons x0 r0 =>
      have h0 := al x0 (List.mem_cons_self ..)
      cases x0 with
      | tup ys0 =>
        refine .inl fun d hd => ?_
        obtain ⟨y, hy, rfl⟩ := List.mem_map.mp hd
        have hy2 := h0 y hy
        cases y with
        | tup ys =>
          have := List.all_eq_true.mp o3 _ hy
          cases ys with
          | nil => simp [noEmpty] at this
          | cons w ws => exact ⟨pd w, pdL ws, rfl⟩
        | _ => simp [alikeD] at hy2
      | bl b0 =>
        refine .inr fun d hd => ?_
        obtain ⟨y, hy, rfl⟩ := List.mem_map.mp hd
        have hy2 := h0 y hy
        cases y <;> first | (simp [alikeD] at hy2; done) | exact ⟨(by intro q; cases q), fun xs q => (by cases q)⟩
      | int b0 =>
        refine .inr fun d hd => ?_
        obtain ⟨y, hy, rfl⟩ := List.mem_map.mp hd
        have hy2 := h0 y hy
        cases y <;> first | (simp [alikeD] at hy2; done) | exact ⟨(by intro q; cases q), fun xs q => (by cases q)⟩
      | str b0 =>
        refine .inr fun d hd => ?_
        obtain ⟨y, hy, rfl⟩ := List.mem_map.mp hd
        have hy2 := h0 y hy
        cases y <;> first | (simp [alikeD] at hy2; done) | exact ⟨(by intro q; cases q), fun xs q => (by cases q)⟩
      | _ => have := h0 _ (List.mem_cons_self ..); simp [alikeD] at this
  have hL : (vs.zip xs).length ≤ sizeLine := by rw [List.length_zip]; exact Nat.le_trans (Nat.min_le_left ..) hz
  have hu : ∀ b, b ∈ vs.zip xs → X.A.units + 2 + (pd b.2).depth < cLine := fun b hb => by
    have := (lev_lay 8 b.2 (lv b.2 (List.of_mem_zip hb).2)).2
    have := hr.un
    omega
  have srt : ((vs.zip xs).mergeSort (PySem.W.dataLe false fun b => pd b.2)).map (·.2) = sortM xs := by
    rw [List.map_mergeSort (s := fun a b => !dlt b a) (fun x hx y hy => ?_)]
    · rw [show (vs.zip xs).map (·.2) = xs from zip_snd len.symm]; rfl
    · have mx := (List.of_mem_zip hx).2
      have my := (List.of_mem_zip hy).2
      rw [PySem.W.dataLe_eq]
      show (!PySem.W.dataLt (pd y.2) (pd x.2)) = !dlt y.2 x.2
      rw [lt_pd 8 8 y.2 x.2 (al _ my _ mx) (lv _ my) (lv _ mx)]
  have perm := List.mergeSort_perm (vs.zip xs) (PySem.W.dataLe false fun b => pd b.2)
  refine PySem.W.sorted_data (R := fun u (b : V × D) => RelV b.1 u) (enc := fun b => pd b.2) hl.isList (each_zip (s := s) rv rr) (each_reads hK I z rv rr o2) hal hk hL hu fun out ho eo => ?_
  obtain ⟨ep, he'⟩ := PyProof.Rows.sortedAll_at s.heap its out.toArray
  have vo := vals_each eo
  have ro := rpL_of (Γ := Γ) (F := F) (H := H) (L := (vs.zip xs).mergeSort (PySem.W.dataLe false fun b => pd b.2)) fun b hb => zip_rp rr pu b (perm.mem_iff.mp hb)
  have pu2 : pureL (sortM xs) = true := by
    rw [← srt, pureL_perm (perm.map (·.2)), show (vs.zip xs).map (·.2) = xs from zip_snd len.symm]; exact pu
  rw [srt] at ro
  have hlen : (((vs.zip xs).mergeSort (PySem.W.dataLe false fun b => pd b.2)).map (·.1)).length ≤ sizeLine := by
    rw [List.length_map, List.length_mergeSort]; exact hL
  exact ⟨.ref _, upd H (s.heap.objs.size + 1) (.lst _), I.laid (t' := s.toks) (fun _ _ => PyProof.Rows.sortedAll_old) (Nat.le_succ _) ⟨hlen, out, ep, vo, he'⟩, rfl, n.lst z ro pu2 (I.hok.fresh (Nat.le_succ _))⟩
end
theorem bi_rule {X : Cx} {Γ : Wd} (hK : Γ.K = X.K) (hm : ∃ om, X.K.lookup PySem.sysModules = some om) (hr : Room 0 X.A) (hg : X.A.guards = some []) (hc : X.calm = true) (f : BI) : CallR X (biF f) (rBi Γ f) := by
  intro pins s σ H xs us Q I r h
  obtain ⟨F, ds, d, z, vw, e, n⟩ := h
  unfold biV at e
  split at e
  · cases e; cases vw with | cons a c t => cases t; obtain ⟨p, vs, fq, rfl, q, rr⟩ := a.tupS z; exact call_tuple_of pins s σ H _ us Q I r ⟨p, vs, rfl, .inr ⟨hK ▸ q, n.old z a (show pureL _ = true from c)⟩⟩
  · cases e; cases vw with | cons a c t => cases t; obtain ⟨p, vs, fq, rfl, q, rr⟩ := a.lstS z; exact call_tuple_of pins s σ H _ us Q I r ⟨p, vs, rfl, .inl ⟨.of q, fun l hl => n.tup z rr (show pureL _ = true from c) hl⟩⟩
  · cases e; cases vw with | cons a c t => cases t; obtain ⟨p, vs, fq, rfl, q, rr⟩ := a.scrS z; exact call_tuple_of pins s σ H _ us Q I r ⟨p, vs, rfl, .inl ⟨hK ▸ q, fun l hl => n.tup z rr (show pureL _ = true from c) hl⟩⟩
  · cases e; cases vw with | cons a c t => cases t; obtain ⟨p, vs, fq, rfl, q, rr⟩ := a.ktupS; exact call_tuple_of pins s σ H _ us Q I r ⟨p, vs, rfl, .inr ⟨hK ▸ q, n.old z a (show pureL _ = true from c)⟩⟩
  · cases e; cases vw with | cons a c t => cases t; obtain ⟨p, vs, fq, rfl, q, rr⟩ := a.tupS z; exact call_list_of pins s σ H _ us Q I r ⟨p, vs, rfl, .inr (hK ▸ q), fun l hl => n.lst z rr (show pureL _ = true from c) hl⟩
  · cases e; cases vw with | cons a c t => cases t; obtain ⟨p, vs, fq, rfl, q, rr⟩ := a.lstS z; exact call_list_of pins s σ H _ us Q I r ⟨p, vs, rfl, .inl (.of q), fun l hl => n.lst z rr (show pureL _ = true from c) hl⟩
  · cases e; cases vw with | cons a c t => cases t; obtain ⟨p, vs, fq, rfl, q, rr⟩ := a.scrS z; exact call_list_of pins s σ H _ us Q I r ⟨p, vs, rfl, .inl (hK ▸ q), fun l hl => n.lst z rr (show pureL _ = true from c) hl⟩
  · cases e; cases vw with | cons a c t => cases t; obtain ⟨p, vs, fq, rfl, q, rr⟩ := a.ktupS; exact call_list_of pins s σ H _ us Q I r ⟨p, vs, rfl, .inr (hK ▸ q), fun l hl => n.lst z rr (show pureL _ = true from c) hl⟩
  · cases e; cases vw with | cons a c t => cases t; cases a; exact call_int1 pins s σ H _ us Q I r (.inl ⟨_, rfl, n.int z⟩)
  · cases e; cases vw with | cons a c t => cases t; cases a; exact call_int1 pins s σ H _ us Q I r (.inr ⟨_, rfl, n.int z⟩)
  · split at e
    · rename_i hl
      cases e; cases vw with | cons a c t => cases t; cases a; exact call_str_int pins s σ H _ us Q I r ⟨_, rfl, of_decide_eq_true hl, by rw [str_int]; exact n.str z⟩
    · cases e
  · split at e
    · rename_i hl
      simp only [Bool.and_eq_true, decide_eq_true_eq] at hl
      cases e
      cases vw with
      | cons a c t =>
        cases t
        exact call_reprD hK hr hg hm pins s σ H _ us Q I r ⟨_, _, F, _, rfl, z, a, hl.1, Nat.le_trans (shown_le 8 _ hl.1) (by rw [← line_eq]; exact hl.2), n.old z (.rep _) rfl⟩
    · cases e
  · cases e; cases vw with | cons a c t => cases t with | cons a2 c2 t => cases t; cases a; cases a2; exact call_min2 hc pins s σ H _ us Q I r ⟨_, _, rfl, n.int z⟩
  · cases e; cases vw with | cons a c t => cases t with | cons a2 c2 t => cases t; cases a; cases a2; exact call_max2 hc pins s σ H _ us Q I r ⟨_, _, rfl, n.int z⟩
  · split at e
    · rename_i i is hi
      cases e
      cases vw with
      | cons a c t =>
        cases t
        obtain ⟨p, vs, fq, rfl, q, rr⟩ := a.lstS z
        have := rr.ints hi
        subst this
        exact cr_min hc pins s σ H _ us Q I r ⟨p, i :: is, rfl, .of q, by simp, fun m h1 h2 => by rw [minI_of is i m h1 h2]; exact n.int z⟩
    · cases e
  · split at e
    · rename_i i is hi
      cases e
      cases vw with
      | cons a c t =>
        cases t
        obtain ⟨p, vs, fq, rfl, q, rr⟩ := a.lstS z
        have := rr.ints hi
        subst this
        exact cr_max hc pins s σ H _ us Q I r ⟨p, i :: is, rfl, .of q, by simp, fun m h1 h2 => by rw [maxI_of is i m h1 h2]; exact n.int z⟩
    · cases e
  · rename_i m xs
    cases hi : intsOf xs with
    | none => rw [hi] at e; cases e
    | some is =>
      rw [hi] at e
      cases e
      cases vw with
      | cons a c t =>
        cases t
        obtain ⟨p, vs, fq, rfl, q, rr⟩ := a.lstS z
        have := rr.ints hi
        subst this
        exact cr_sum hc pins s σ H _ us Q I r ⟨p, is, rfl, .of q, n.int z⟩
  · rename_i m xs
    cases hi : boolsOf xs with
    | none => rw [hi] at e; cases e
    | some is =>
      rw [hi] at e
      cases e
      cases vw with
      | cons a c t =>
        cases t
        obtain ⟨p, vs, fq, rfl, q, rr⟩ := a.lstS z
        have := rr.bools hi
        subst this
        exact cr_all hc pins s σ H _ us Q I r ⟨p, is, rfl, .of q, n.bl z⟩
  · rename_i m xs
    cases hi : boolsOf xs with
    | none => rw [hi] at e; cases e
    | some is =>
      rw [hi] at e
      cases e
      cases vw with
      | cons a c t =>
        cases t
        obtain ⟨p, vs, fq, rfl, q, rr⟩ := a.lstS z
        have := rr.bools hi
        subst this
        exact cr_any hc pins s σ H _ us Q I r ⟨p, is, rfl, .of q, n.bl z⟩
  · cases e; cases vw with | cons a c t => cases t; cases a; exact call_abs pins s σ H _ us Q I r ⟨_, rfl, n.int z⟩
  · split at e
    · rename_i i j hl
      simp only [Bool.and_eq_true, decide_eq_true_eq] at hl
      cases e; cases vw with | cons a c t => cases t with | cons a2 c2 t => cases t; cases a; cases a2; exact call_divmod pins s σ H _ us Q I r ⟨_, _, rfl, hl, fun p hp => n.tup z (.cons (fp := []) (fq := []) (.int _) (.cons (fp := []) (fq := []) (.int _) .nil)) rfl hp⟩
    · cases e
  · split at e
    · rename_i m xs ok
      cases e
      cases vw with | cons a c t => cases t; exact sorted_rule hK hr I r z a (show pureL _ = true from c) ok n
    · cases e
  · split at e
    · rename_i m ps hp
      cases eo : dictOf ps [] [] with
      | none => rw [eo] at e; cases e
      | some o =>
        rw [eo] at e
        cases e
        cases vw with | cons a c t =>
          cases t
          obtain ⟨l, ws, fq, rfl, q, rr⟩ := a.lstS z
          obtain ⟨as, kvs, rfl, pr, g, r2, p2⟩ := dict_of (vp := []) hK z rr hp eo (kvs0 := []) ⟨rfl, by simp⟩ .nil rfl
          refine call_dictP hc pins s σ H _ us Q I r ⟨l, as, kvs, rfl, .of q, pr, fun p hp2 => ?_⟩
          exact n _ F _ (p :: []) (alloc_dK z hp2) (.dicO (upd_same ..) g (r2.mono (FLe.refl F).k fun a m => absurd m (by simp))) (by simp) fun a m => by
            rw [List.mem_singleton] at m
            subst m
            exact ⟨hp2, none_sub z hp2⟩
    · cases e
  · cases e
section
variable {X : Cx} {Γ : Wd} {fld : String → Option String} {W : WX} {fs : Fr → Rs (List Rv)} {e : Expr} {es : List Expr} {pos p : Pos} {x : Str}
theorem vw_of {F H : Hp} : ∀ {vs : List V} {ds : List D}, ds.length = vs.length → (∀ (i : Nat) (v : V) (d : D), vs[i]? = some v → ds[i]? = some d → (∃ fp, Rp Γ F H v d fp) ∧ d.cpure = true) → Vw Γ F H vs ds
  | [], [], _, _ => .nil
  | [], _ :: _, h, _ => by simp at h
  | _ :: _, [], h, _ => by simp at h
  | v :: vs, d :: ds, h, k => by
    obtain ⟨⟨fp, r⟩, c⟩ := k 0 v d rfl rfl
    exact .cons r c (vw_of (by simpa using h) fun i v d h1 h2 => k (i + 1) v d (by simpa using h1) (by simpa using h2))
theorem views_noex' : ∀ {rs : List Rv} {af af' : Fr} {c : String} {a : D}, views rs af ≠ .ex c a af'
  | [], _, _, _, _ => by intro e; cases e
  | r :: rs, af, af', c, a => by
    intro e
    simp only [views] at e
    cases e1 : r.view af with
    | no => rw [e1] at e; cases e
    | ex _ _ _ => exact view_noex' e1
    | ok d f1 q1 =>
      rw [e1] at e
      simp only [Rs.bind] at e
      cases e2 : views rs f1 with
      | no => rw [e2] at e; cases e
      | ex _ _ _ => exact views_noex' e2
      | ok ds f2 q2 => rw [e2] at e; cases e
theorem pe_biD {f : BI} (hK : Γ.K = X.K) (hsm : ∃ om, X.K.lookup PySem.sysModules = some om) (hr : Room 0 X.A) (hgd : X.A.guards = some []) (hc : X.calm = true) (hg : Gl X x) (hm : X.mg x = none) (hv : bootBuiltins x = some (biF f)) (hn : x ≠ "__name__") (hdb : (x == ("__debug__" : Str)) = false) (hsi : f ≠ .sortedItems ∧ f ≠ .listItems)
    (ha : PA X (e :: es) (tA Γ fld W fs)) (he : starEach (e :: es) X.env = (false, eval e X.env) :: starEach es X.env) (hpl : (backTo pos (starEach es X.env)).any (·.1) = false) :
    PE X (.Call (.Name x p) (e :: es) [] pos) (tE Γ fld W (fun fr => (fs fr).bind fun rs fr => (views rs fr).bind fun ds fr => match biV f ds with
    | some d => .ok (.tmp d) fr true
    | none => .no)) := by
  have base : PE X (.Call (.Name x p) (e :: es) [] pos) (tCB (rBi Γ f) (tA Γ fld W fs)) := by
    have R := bi_rule hK hsm hr hgd hc f
    cases f
    case sortedItems => exact (hsi.1 rfl).elim
    case listItems => exact (hsi.2 rfl).elim
    case tuple => exact pe_callTy R hg hm hv ha hn hdb he hpl
    case list => exact pe_callTy R hg hm hv ha hn hdb he hpl
    case int => exact pe_callTy R hg hm hv ha hn hdb he hpl
    case str => exact pe_callTy R hg hm hv ha hn hdb he hpl
    case dict => exact pe_callTy R hg hm hv ha hn hdb he hpl
    all_goals exact pe_callB R hg hm hv ha hn hdb he hpl
  refine base.imp fun σ H Q h => ?_
  obtain ⟨B, F, T, af, S, h⟩ := h
  refine tA_step S h (fun _ _ _ h => h) fun rs f1 q1 e1 h1 vs H1 F1 l k1 p => ?_
  obtain ⟨ds, f2, q2, e2, h2⟩ := rG_step h1 fun _ _ _ => views_noex'
  obtain ⟨F2, L, l2, S2, n2, vw, k2⟩ := view_all p e2
  cases eb : biV f ds with
  | none => rw [eb] at h2; exact h2.elim
  | some d =>
    rw [eb] at h2
    have h2 : okE Γ B F T af σ H Q (.tmp d) f2 (q1 && (q2 && true)) := h2
    refine ⟨F2, ds, d, S2.dropL.fz, vw_of n2 vw, eb, fresh S2.dropL (l.trans l2) h2 fun hq => ?_⟩
    simp only [Bool.and_eq_true, and_true] at hq
    obtain ⟨a1, a2⟩ := k1 hq.1
    exact ⟨by rw [k2 hq.2, a1], a2⟩
/-- len -/
theorem pe_lenD (hK : Γ.K = X.K) (hg : Gl X "len") (hm : X.mg "len" = none) (ha : PA X (e :: es) (tA Γ fld W fs)) (he : starEach (e :: es) X.env = (false, eval e X.env) :: starEach es X.env) (hpl : (backTo pos (starEach es X.env)).any (·.1) = false) :
    PE X (.Call (.Name "len" p) (e :: es) [] pos) (tE Γ fld W (fun fr => (fs fr).bind fun rs fr => match rs with
    | [r] => (r.look fr).bind fun d fr => (match lenD d with
      | some n => .ok (.tmp (.int n)) fr true
      | none => .no)
    | _ => .no)) := by
  refine (pe_callB call_len hg hm rfl ha (by decide) (by decide) he hpl).imp fun σ H Q h => ?_
  obtain ⟨B, F, T, af, S, h⟩ := h
  refine tA_step S h (fun _ _ _ h => h) fun rs f1 q1 e1 h1 vs H1 F1 l k1 p => ?_
  split at h1
  · rename_i r
    have hl := PRs.len p.2
    match vs, hl, p with
    | [v], _, p =>
      obtain ⟨p1, _⟩ := p.head
      obtain ⟨d, f2, q2, e2, h2⟩ := rG_step h1 fun _ _ _ => look_noex
      obtain ⟨rfl, ⟨L, S1⟩, fd, rd⟩ := look_one p1 e2
      cases el : lenD d with
      | none => rw [el] at h2; exact h2.elim
      | some n =>
        rw [el] at h2
        have h2 : okE Γ B F T af σ H Q (.tmp (.int n)) f2 (q1 && (q2 && true)) := h2
        have z := S1.fz
        refine ⟨v, n, rfl, ?_, h2 (.int n) H1 F1 l (fun hq => k1 (by simp only [Bool.and_eq_true] at hq; exact hq.1)) (S1.dropL.addPure (.int n) rfl)⟩
        cases d <;> simp only [lenD, reduceCtorEq, Option.some.injEq] at el
        · split at el
          · rename_i hl; cases el; cases rd; exact ⟨by rw [sv_length, ← line_eq]; exact hl, (sv_length _).symm⟩
          · cases el
        · subst el; obtain ⟨a, vs, fq, rfl, q, rr⟩ := rd.tupS z; exact .inr ⟨vs, hK ▸ q, rr.length.symm⟩
        · subst el; obtain ⟨a, vs, fq, rfl, q, rr⟩ := rd.lstS z; exact .inl ⟨vs, .of q, rr.length.symm⟩
        · subst el; obtain ⟨a, vs, fq, rfl, q, rr⟩ := rd.ktupS; exact .inr ⟨vs, hK ▸ q, rr.length.symm⟩
        · subst el; obtain ⟨a, vs, fq, rfl, q, rr⟩ := rd.scrS z; exact .inl ⟨vs, hK ▸ q, rr.length.symm⟩
  · exact h1.elim
end
end VI

end

section
/-! ViE9: isinstance, the module's names, dict displays. -/
namespace VI
open PySem L2 PyProof.Rows

theorem kit_all : (["NoneType", "bool", "int", "str", "tuple", "list", "dict"].all fun t => isTs.all fun T => kitB t T == some (t == T || (t == "bool" && T == "int"))) = true := by decide +kernel
theorem tyD_mem {d : D} {t : String} (h : tyD d = some t) : t ∈ ["NoneType", "bool", "int", "str", "tuple", "list", "dict"] := by
  unfold tyD at h
  split at h <;> first | (cases h; simp) | cases h
theorem isT_kit {K : PySem.W.Frag} {d : D} {T : String} {b : Bool} (h : isT T d = some b) : ∃ t, tyD d = some t ∧ PySem.W.kitOne K (.type t) (.type T) = some b := by
  unfold isT at h
  cases e : tyD d with
  | none => rw [e] at h; cases h
  | some t =>
    rw [e] at h
    simp only at h
    split at h
    · rename_i hT
      cases h
      refine ⟨t, rfl, kit_ty ?_⟩
      have := List.all_eq_true.mp kit_all t (tyD_mem e)
      have := List.all_eq_true.mp this T (by simpa using hT)
      simpa using this
    · cases h
section
variable {Γ : Wd} {F H : Hp}
theorem Rp.ty (z : Fz F H) {v : V} {d : D} {fp : List Addr} {t : String} (h : Rp Γ F H v d fp) (e : tyD d = some t) : TyX Γ.K H v (.type t) := by
  unfold tyD at e
  split at e <;> first | (cases e; done) | (injection e with e; subst e)
  · cases h; exact .base .non
  · cases h; exact .base (.bl _)
  · cases h; exact .base (.int _)
  · cases h; exact .base (.str _)
  · cases h; exact .base (.str _)
  · cases h with | tup e r => exact .base (.tup (z.sub _ _ e))
  · cases h with | ktup e r _ => obtain ⟨o, its, n, e1, e2, _⟩ := e; exact .kTuple e1 e2
  · obtain ⟨a, vs, fq, rfl, q, r⟩ := h.lstS z; exact .base (.lst q)
  · obtain ⟨a, vs, fq, rfl, q, r⟩ := h.scrS z
    rcases q with (q | ⟨u, q⟩) | q
    · exact .base (.lst q)
    · exact .base (.frz q)
    · obtain ⟨o, its, n, e1, e2, _⟩ := q; exact .kList e1 e2
  · cases h with
    | dicF e _ _ _ =>
      rcases e with e | ⟨u, e⟩
      · exact .base (.dK (z.sub _ _ e))
      · exact .fDict (z.sub _ _ e)
    | dicO e _ _ => exact .base (.dK e)
end
section
variable {X : Cx} {Γ : Wd} {fld : String → Option String} {W : WX} {fa fb : Fr → Rs Rv} {a b e : Expr} {es : List Expr} {pos p p2 p3 : Pos} {x : Str}
theorem isAny_one {T : String} {d : D} {b : Bool} (h : isAny [T] d = some b) : isT T d = some b := by
  unfold isAny at h
  cases e : isT T d with
  | none => rw [e] at h; cases h
  | some c => rw [e] at h; simp only [isAny, Bool.or_false] at h; exact h
theorem pe_isiD {T : String} {x : Str} (hx : x = Str.ofString T) (hK : Γ.K = X.K) (hg : Gl X "isinstance") (hm : X.mg "isinstance" = none) (hgT : Gl X x) (hmT : X.mg x = none) (hvT : bootBuiltins x = some (.type T)) (hnT : x ≠ "__name__") (hdT : (x == ("__debug__" : Str)) = false)
    (ha : PE X a (tE Γ fld W fa)) (he : starEach (a :: [.Name x p2]) X.env = (false, eval a X.env) :: starEach [.Name x p2] X.env) (hpl : (backTo pos (starEach [.Name x p2] X.env)).any (·.1) = false) :
    PE X (.Call (.Name "isinstance" p) [a, .Name x p2] [] pos) (tE Γ fld W (fun fr => (fa fr).bind fun r fr => (r.look fr).bind fun d fr => match isAny [T] d with
    | some b => .ok (.tmp (.bl b)) fr true
    | none => .no)) := by
  have hb : PE X (.Name x p2) (tC (.ty T)) := pe_bltn hgT hmT hvT rfl hnT hdT
  refine (pe_callB call_isi hg hm rfl (pa_cons ha (pa_cons hb pa_nil) he) (by decide) (by decide) he hpl).imp fun σ H Q h => ?_
  obtain ⟨B, F, T', af, S, h⟩ := h
  refine tE_step S h (fun _ _ _ h => h) fun r f1 q1 e1 h1 v H1 F1 l1 k1 p1 => ?_
  obtain ⟨d, f2, q2, e2, h2⟩ := rG_step h1 fun _ _ _ => look_noex
  obtain ⟨rfl, ⟨L, S1⟩, fd, rd⟩ := look_one p1 e2
  cases ei : isAny [T] d with
  | none => rw [ei] at h2; exact h2.elim
  | some k =>
    rw [ei] at h2
    have h2 : okE Γ B F T' af σ H Q (.tmp (.bl k)) f2 (q1 && (q2 && true)) := h2
    obtain ⟨t, et, kt⟩ := isT_kit (K := X.K) (isAny_one ei)
    exact ⟨v, .ty T, .type t, .type T, k, rfl, .ty T, hK ▸ rd.ty S1.fz et, kt, h2 (.bl k) H1 F1 l1 (fun hq => k1 (by simp only [Bool.and_eq_true] at hq; exact hq.1)) (S1.dropL.addPure (.bl k) rfl)⟩
/-- a name of the module's own -/
theorem pe_gD {x : Str} {u : Value} {v : V} {d : D} (hg : Gl X x) (hm : X.mg x = some u) (r : RelV v u) (hd : (x == ("__debug__" : Str)) = false) (hr : ∀ F H, Rp Γ F H v d []) (hp : d.pure = true) : PE X (.Name x pos) (tE Γ fld W (fun fr => .ok (.tmp d) fr true)) :=
  pe_k (pe_glob hg hm r hd) hr hp
end
end VI

end

section
/-! ViE10: displays of dicts. -/
namespace VI
open PySem L2 PyProof.Rows

/-! ### {k: v, ..} -/
def evPs (fk fe : Fr → Rs Rv) (rest : List D → List D → Fr → Rs (List D × List D)) : List D → List D → Fr → Rs (List D × List D) := fun ks vs fr =>
  (fk fr).bind fun rk fr => (rk.own fr).bind fun dk fr => (fe fr).bind fun re fr => (re.own fr).bind fun d fr => if dk.scal then rest (dputK dk ks) (dputV dk d ks vs) fr else .no
section
variable {X : Cx} {Γ : Wd} {fld : String → Option String} {W : WX} {fk fe : Fr → Rs Rv} {k e : Expr} {ks : List (Option Expr)} {vs : List Expr} {pos : Pos} {rest : List D → List D → Fr → Rs (List D × List D)}
theorem scal_key {dk : D} (h : dk.scal = true) : kOk dk false = true := by
  cases dk <;> simp [D.scal] at h <;> rfl
def accV (L : List (L2.Key × V)) : List V := L.map (·.2)
/-- the reading of the pairs of a display: L what stands merged so far (it ends up in the dict at p) -/
def PsOk (Γ : Wd) (fld : String → Option String) (W : WX) (f : List D → List D → Fr → Rs (List D × List D)) (trs : List (TE × TE)) : Prop :=
  ∀ (B : Bd) (F : Hp) (T : List (V × D)) (af : Fr) (σ : L2.St) (H : Hp) (L : List (L2.Key × V)) (ds es : List D) (ok : List D × List D → Fr → Bool → Prop) (Q : List (V × V) → Hp → Prop),
    Sta Γ B F H σ af ((accV L).zip es ++ T) → es.length = L.length → KRel kD ds L → rG ok (exW Γ fld W B σ T) (f ds es af) →
    (∀ (kvs : List (L2.Key × V)) (o : List D × List D) (af' : Fr) (q : Bool) (F' H' : Hp), ok o af' q → FLe F F' → (q = true → af' = af ∧ HLe H H') → kvs.length = trs.length →
      Sta Γ B F' H' σ af' ((accV (mergeK L kvs)).zip o.2 ++ T) → o.2.length = (mergeK L kvs).length → KRel kD o.1 (mergeK L kvs) → Q (kvs.map fun kv => (kV kv.1, kv.2)) H') → tPairs trs σ H Q
theorem ps_nilD : PsOk Γ fld W (fun ks vs fr => .ok (ks, vs) fr true) [] := fun B F T af σ H L ds es ok Q S hl hk h k =>
  k [] (ds, es) af true F H h (.refl _) (fun _ => ⟨rfl, .refl _⟩) rfl S hl hk
theorem own_noex2 {r : Rv} {af af' : Fr} {c : String} {a : D} : r.own af ≠ .ex c a af' := own_noex
theorem ps_consD {trs : List (TE × TE)} (h : PsOk Γ fld W rest trs) : PsOk Γ fld W (evPs fk fe rest) ((tE Γ fld W fk, tE Γ fld W fe) :: trs) := fun B F T af σ H L ds es ok Q S hl hk hh fin => by
  have h1 : rG _ (exW Γ fld W B σ T) ((fk af).bind _) := hh
  refine ⟨B, F, (accV L).zip es ++ T, af, S, rG_mono (rG_bind h1) (fun rk f1 q1 e1 h2 x H1 F1 l1 k1 p1 => ?_) fun _ _ _ z => exW.drop z⟩
  obtain ⟨dk, f2, q2, e2, h3⟩ := rG_step h2 fun _ _ _ => own_noex2
  obtain ⟨F2, l2, S2, k2⟩ := own_one p1 e2
  have h4 := rG_bind h3
  refine ⟨B, F2, (x, dk) :: ((accV L).zip es ++ T), f2, S2, rG_mono h4 (fun re f3 q3 e3 h5 y H3 F3 l3 k3 p3 => ?_) fun _ _ _ z => exW.drop (L := (x, dk) :: (accV L).zip es) z⟩
  obtain ⟨d, f4, q4, e4, h6⟩ := rG_step h5 fun _ _ _ => own_noex2
  obtain ⟨F4, l4, S4, k4⟩ := own_one p3 e4
  by_cases hs : dk.scal = true
  · rw [if_pos hs] at h6
    obtain ⟨fx, rx⟩ := (S4.perm (.swap ..)).rp
    obtain ⟨key, e5, rfl⟩ := rx.keyK (scal_key hs)
    -- y goes in
    have S5 : Sta Γ B F4 H3 σ f4 ((y, d) :: ((accV L).zip es ++ T)) := (S4.perm (.swap ..)).drop
    have hl' : es.length = (accV L).length := by simp [accV, hl]
    have S6 : Sta Γ B F4 H3 σ f4 ((accV (putK L key y)).zip (dputV dk d ds es) ++ T) ∧ (dputV dk d ds es).length = (putK L key y).length ∧ KRel kD (dputK dk ds) (putK L key y) := by
      have hp : (coll σ f4 ++ ((y, d) :: ((accV L).zip es ++ T))).Perm ((y, d) :: ((accV L).zip es ++ (coll σ f4 ++ T))) := by
        refine List.perm_middle.trans (List.Perm.cons _ ?_)
        rw [← List.append_assoc, ← List.append_assoc]
        exact List.perm_append_comm.append_right _
      obtain ⟨f0, r0, n0, q0⟩ := S5.own.perm hp
      cases r0 with
      | @cons _ _ fw _ _ fr0 ry rr =>
        rw [List.map_append, List.map_append (l₁ := (accV L).zip es) (f := fun x => x.2), zip_fst hl', zip_snd hl'] at rr
        obtain ⟨v1, v2, fL, fR, ea, rfl, hL, hR⟩ := rr.split
        have el := hL.length
        have e2 := List.append_inj ea (by rw [el]; exact hl'.symm)
        rw [← e2.1] at hL
        rw [← e2.2] at hR
        obtain ⟨i1, fq, R, pm, i2⟩ := put_rel kD kD_eq hk e5 hL ry
        have i3 : (dputV dk d ds es).length = (accV (putK L key y)).length := i2.length.symm
        refine ⟨{ S5.drop.dropL with own := Own.perm (L := (accV (putK L key y)).zip (dputV dk d ds es) ++ (coll σ f4 ++ T)) ⟨fq ++ fR, ?_, ?_, fun a m => ?_⟩ ?_ }, by rw [i3]; simp [accV], i1⟩
        · rw [List.map_append, List.map_append (l₁ := (accV (putK L key y)).zip (dputV dk d ds es)) (f := fun x => x.2), zip_fst i3, zip_snd i3]
          exact i2.append hR
        · have n1 : ((fw ++ fL) ++ fR).Nodup := by rw [List.append_assoc]; exact n0
          have p2 : ((fw ++ fL) ++ fR).Perm ((fq ++ fR) ++ R) := by
            refine (pm.append_right fR).trans ?_
            rw [List.append_assoc, List.append_assoc]
            exact List.perm_append_comm.append_left fq
          exact (List.nodup_append.mp (p2.nodup_iff.mp n1)).1
        · rcases List.mem_append.mp m with m | m
          · have : a ∈ fw ++ fL := pm.mem_iff.mpr (List.mem_append_left _ m)
            exact q0 a (by rw [← List.append_assoc]; exact List.mem_append_left _ this)
          · exact q0 a (List.mem_append_right _ (List.mem_append_right _ m))
        · rw [← List.append_assoc, ← List.append_assoc]
          exact List.perm_append_comm.append_right _
    obtain ⟨S6, hl6, hk6⟩ := S6
    refine h B F4 T f4 σ H3 (putK L key y) (dputK dk ds) (dputV dk d ds es) _ _ S6 hl6 hk6 h6 fun kvs o af' q F' H' hok lF hq hlen S' hl2 hk2 => ?_
    refine fin ((key, y) :: kvs) o af' _ F' H' hok (l1.trans (l2.trans (l3.trans (l4.trans lF)))) (fun hq' => ?_) (by simp [hlen]) S' hl2 hk2
    simp only [Bool.and_eq_true] at hq'
    obtain ⟨c1, c2⟩ := k1 hq'.1
    obtain ⟨c3, c4⟩ := k3 hq'.2.2.1
    obtain ⟨c5, c6⟩ := hq hq'.2.2.2.2
    exact ⟨by rw [c5, k4 hq'.2.2.2.1, c3, k2 hq'.2.1, c1], c2.trans (c4.trans c6)⟩
  · rw [if_neg hs] at h6; exact h6.elim
theorem pe_dicD {f : List D → List D → Fr → Rs (List D × List D)} {trs : List (TE × TE)} (hp : PPs X pos ks vs trs) (ho : PsOk Γ fld W f trs) (hall : ks.all (·.isSome) = true) (hl : ks.length = vs.length) (h0 : ks ≠ []) (h15 : ks.length ≤ 15) (htr : trs.length ≤ 15) :
    PE X (.Dict ks vs pos) (tE Γ fld W (fun fr => (f [] [] fr).bind fun p fr => .ok (.tmp (.dic true false p.1 p.2)) fr true)) := by
  refine (pe_disp hp hall hl h0 h15).imp fun σ H Q h => ?_
  obtain ⟨B, F, T, af, S, h⟩ := h
  intro p hpn
  have h1 := rG_bind h
  have S1 : Sta Γ B F (upd H p (.dK [])) σ af ((.ref p, .dic true false [] []) :: T) := S.new (alloc_dK (kvs := []) S.fz hpn) (.dicO (fp := []) upd_same ⟨rfl, List.nodup_nil⟩ .nil) (by simp) fun a m => by
    rw [List.mem_singleton] at m; subst m; exact ⟨hpn, none_sub S.fz hpn⟩
  refine ho B F ((.ref p, .dic true false [] []) :: T) af σ _ [] [] [] (fun (o : List D × List D) fr q => okE Γ B F T af σ H Q (.tmp (.dic true false o.1 o.2)) fr (q && true)) _ S1 rfl ⟨rfl, List.nodup_nil⟩ (rG_mono h1 (fun _ _ _ _ z => z) fun _ _ _ z => exW.drop (L := [_]) z) fun kvs o af' q F' H' hok lF hq hlen S' hl2 hk2 => ?_
  have S2 := S'.perm (List.perm_middle (a := (V.ref p, D.dic true false [] [])) (l₁ := (accV (mergeK [] kvs)).zip o.2) (l₂ := T))
  obtain ⟨fp, rp⟩ := S2.rp
  cases rp with
  | @dicO _ kvs0 _ _ f0 e0 g0 r0 =>
    have hk0 : kvs0 = [] := by
      have := g0.1
      cases kvs0 with
      | nil => rfl
      | cons a b => simp at this
    subst hk0
    refine ⟨e0, kvs, rfl, by omega, ?_⟩
    have hl3 : o.2.length = (accV (mergeK [] kvs)).length := by rw [hl2]; simp [accV]
    have S3 := S2.writeT (L' := []) (a := p) (o' := .dK (mergeK [] kvs)) (e' := .dic true false o.1 o.2) ⟨fun vs z => (by cases z), fun f1 fL r1 rL nd => by
      cases r1 with
      | @dicO _ kvs1 _ _ f2 e1 g1 r1 =>
        have : f2 = [] := by cases kvs1 with
          | nil => cases r1; rfl
          | cons a b => have := g1.1; simp at this
        subst this
        rw [show vsOf ((accV (mergeK [] kvs)).zip o.2) = accV (mergeK [] kvs) from zip_fst hl3, show dsOf ((accV (mergeK [] kvs)).zip o.2) = o.2 from zip_snd hl3] at rL
        refine ⟨by simp, p :: fL, [], [], by simp, .dicO upd_same hk2 (rL.mono (FLe.refl F').k fun b m => upd_ne fun e => ?_), .nil⟩
        subst e
        exact (List.nodup_append.mp nd).2.2 b (by simp) b m rfl⟩
    refine hok (.ref p) _ F' lF (fun hq' => ?_) S3
    obtain ⟨a1, a2⟩ := hq (by simpa using hq')
    refine ⟨a1, fun b u hb => ?_⟩
    have nb : b ≠ p := ne_of_none hb hpn
    rw [upd_ne nb]
    exact a2 b u (by rw [upd_ne nb]; exact hb)
end
end VI

end

section
/-! ViF: calls of defs. -/
namespace VI
open PySem L2 PyProof.Rows

/-- as FnOk, where nothing is being shown around it -/
structure FnG (P : Program) (w : World) (K : PySem.W.Frag) (mg : Str → Option Value) (base : Heap) (CX : CXT) (k : Nat) (f : Addr) (fd : FuncData) (ps : List Str) (sp : Sp) : Prop where
  len : ∀ vs H Q E, sp vs H Q E → vs.length = ps.length
  run : ∀ (A : Around) (outer : List Env) (s : Shared) (H : Hp) (args : Args) (us : List Value) (vs : List V) (Q : VK) (E : XK), Room k A → A.guards = some [] → Env0 P w K mg base A outer s H → BindsTo s fd args (ps.zip us) → Vals vs us → sp vs H Q E →
    codeAny (model P w) A (.call (.ref f) args) (L2.CR CX outer P w H s Q E) s
section
variable {X : Cx} {CX : CXT} {k : Nat} {f C : Addr} {fd : FuncData} {ps ks : List Str} {sp : Sp} {E : L2.St → XK} {x m : Str} {p pos apos : Pos} {e o : Expr} {es : List Expr} {kws : List Keyword} {ta : TE} {t tk : TA}
theorem run_fnG {pins : List (Addr × Obj)} {σ : L2.St} {H : Hp} {s : Shared} {Q : VK} {us : List Value} {args : Args} {vs : List V} (F : FnG X.prog X.w X.K X.mg X.base CX k f fd ps sp) (hr : Room k X.A) (hgd : X.A.guards = some []) (hx : L2.PassesAt CX X σ (E σ))
    (I : Inv X pins σ H s) (r : Vals vs us) (h : sp vs H Q (E σ)) (hb : us.length = ps.length → BindsTo s fd args (ps.zip us)) : wpAny (model X.prog X.w) X.A (call (.ref f) args.pos args.kw) (EP X pins σ Q) X.xe s := by
  have hl : us.length = ps.length := by rw [← r.length]; exact F.len _ _ _ _ h
  refine wpAny_call (codeAny_mono (F.run X.A X.stack s H args us vs Q (E σ) hr hgd I.env0 (hb hl) r h) fun r s' hq => ?_)
  cases r with
  | error e => exact hx pins H s e s' I hq
  | ok fl =>
    cases fl with
    | ret u => exact I.after hq
    | next => exact False.elim hq
    | brk => exact False.elim hq
    | cont => exact False.elim hq
def tCallG (sp : Sp) (E : L2.St → XK) (t : TA) : TE := fun σ H Q => t σ H fun vs H1 => sp vs H1 Q (E σ)
theorem pe_callG (F : FnG X.prog X.w X.K X.mg X.base CX k f fd ps sp) (hr : Room k X.A) (hgd : X.A.guards = some []) (hg : Gl X x) (hm : X.mg x = some (.ref f)) (hk : PySem.W.keepIn X.K (.ref f) = true) (hb : Binds X.K fd ps []) (hx : ∀ σ, L2.PassesAt CX X σ (E σ))
    (ha : PA X (e :: es) t) (hdb : (x == ("__debug__" : Str)) = false) (he : starEach (e :: es) X.env = (false, eval e X.env) :: starEach es X.env) (hpl : (backTo pos (starEach es X.env)).any (·.1) = false) :
    PE X (.Call (.Name x p) (e :: es) [] pos) (tCallG sp E t) := by
  refine ⟨fun pins s σ H Q I h => ?_⟩
  refine wpAny_Call_Name_kw (ld_glob I hg hm ?_ hdb)
  refine PySem.W.callWith_K (h₀ := X.base) I.ok.mod.kin hk (thn (ha.run pos pins s σ H _ I h) fun us s1 ⟨vs, H1, I1, r, q⟩ => ⟨I1.kIn, ?_⟩) he hpl
  refine run_fnG (args := ⟨us, []⟩) F hr hgd (hx σ) I1 r q fun hl => ?_
  have := hb s1 us I1.kIn (by rw [List.append_nil]; exact hl)
  rw [List.append_nil] at this
  exact this
theorem pe_callG0 (F : FnG X.prog X.w X.K X.mg X.base CX k f fd ps sp) (hr : Room k X.A) (hgd : X.A.guards = some []) (hg : Gl X x) (hm : X.mg x = some (.ref f)) (hk : PySem.W.keepIn X.K (.ref f) = true) (hb : Binds X.K fd ps []) (hx : ∀ σ, L2.PassesAt CX X σ (E σ))
    (hdb : (x == ("__debug__" : Str)) = false) : PE X (.Call (.Name x p) [] [] pos) (tCallG sp E tNil) := by
  refine ⟨fun pins s σ H Q I h => ?_⟩
  refine wpAny_Call_Name_kw (ld_glob I hg hm ?_ hdb)
  refine PySem.W.callWith_K0 I.kIn hk (run_fnG (us := []) (args := ⟨[], []⟩) F hr hgd (hx σ) I .nil h fun hl => ?_)
  have := hb s [] I.kIn (by rw [List.append_nil]; exact hl)
  rw [List.append_nil] at this
  exact this
def tCallKG (sp : Sp) (gV : List V → List V → List V) (E : L2.St → XK) (t tk : TA) : TE := fun σ H Q => t σ H fun vs H1 => tk σ H1 fun zs H2 => sp (gV vs zs) H2 Q (E σ)
variable {g : List Value → List Value → List Value} {gV : List V → List V → List V}
/-- f(e, .., k = v, ..) -/
theorem pe_callKG (F : FnG X.prog X.w X.K X.mg X.base CX k f fd ps sp) (hr : Room k X.A) (hgd : X.A.guards = some []) (hg : Gl X x) (hm : X.mg x = some (.ref f)) (hk : PySem.W.keepIn X.K (.ref f) = true) (hb : KBinds X.K fd ps ks g gV) (hx : ∀ σ, L2.PassesAt CX X σ (E σ))
    (ha : PA X (e :: es) t) (hkw : PK X kws tk) (hall : (backToKw pos (keywordEach kws X.env)).all (·.1.isSome) = true) (hks : (backToKw pos (keywordEach kws X.env)).filterMap (·.1) = ks)
    (hdb : (x == ("__debug__" : Str)) = false) (he : starEach (e :: es) X.env = (false, eval e X.env) :: starEach es X.env)
    (hpl : ((backTo pos (starEach (e :: es) X.env)).any (·.1) || (backToKw pos (keywordEach kws X.env)).any (·.1.isNone)) = false) :
    PE X (.Call (.Name x p) (e :: es) kws pos) (tCallKG sp gV E t tk) := by
  refine ⟨fun pins s σ H Q I h => ?_⟩
  refine wpAny_Call_Name_kw (ld_glob I hg hm ?_ hdb)
  refine PySem.W.callWith_KW (h₀ := X.base) I.ok.mod.kin hk hall (thn (ha.run pos pins s σ H _ I h) fun us s1 ⟨vs, H1, I1, r, q⟩ => ?_) hpl he
  refine thn (hkw.run pos pins s1 σ H1 _ I1 q) fun ws s2 ⟨zs, H2, I2, rz, q2⟩ => ⟨I2.kIn, ?_⟩
  rw [hks]
  exact run_fnG (args := ⟨us, ks.zip ws⟩) F hr hgd (hx σ) I2 (hb.rel r rz) q2 fun hl => hb.to s2 us ws I2.kIn hl
end

/-- THE RULE for a def: as L2.fn_of -/
theorem fn_ofG {CX : CXT} {P : Program} {w : World} {K : PySem.W.Frag} {mg : Str → Option Value} {base : Heap} {k : Nat} {f : Addr} {name qual : Str} {params : Arguments} {body : List Stmt} {scope : Scope} {dV kV doc pm cdv ct oc : Value} {an od : Option Addr}
    {osl : Array (Option Value)} {N ps : List Str} {sp : Sp} (lk : K.lookup f = some ⟨oc, od, .func (PySem.W.fnOf name qual params body scope dV kV doc pm an cdv ct), osl⟩) (hcd : PySem.W.codeIn K cdv qual = true) (S : FnScope N ps scope)
    (len : ∀ vs H Q E, sp vs H Q E → vs.length = ps.length)
    (hbody : ∀ (A : Around) (outer : List Env) (s : Shared) (H : Hp) (vs : List V) (Q : VK) (E : XK), Room k (A.deeper (envOfC qual scope s.heap.objs.size f cdv)) → A.guards = some [] → sp vs H Q E →
      ∃ t, PSs (cxOf CX P w K mg base N qual scope f cdv A outer s H E) body t ∧ t { nx := fun _ H' => Q .non H', rt := Q } (L2.start N vs) H) :
    FnG P w K mg base CX (k + 1) f (PySem.W.fnOf name qual params body scope dV kV doc pm an cdv ct) ps sp := by
  refine ⟨len, fun A outer s H args us vs Q E hr hgd e0 hb r hsp => ?_⟩
  have hl := len _ _ _ _ hsp
  have kin : K.In s.heap := e0.mod.kin.keeps fun b o e => (e0.bs b o e).1
  have lim : s.heap.NoLimit := e0.mod.nolimit.keeps fun b o e => (e0.bs b o e).1
  obtain ⟨t, ht, hq⟩ := hbody A outer s H vs Q E (hr.deeper _) hgd hsp
  have kinds : ∀ y ∈ ps.zip us, scope.names.lookup y.1 = some .local ∨ (scope.names.lookup y.1 = some .cell ∧ ((cellsFrom (s.heap.objs.size + 1) scope.names []).lookup y.1).isSome = true) := by
    intro y hy
    rcases S.par y.1 (List.of_mem_zip (a := y.1) (b := y.2) hy).1 with c | c
    · exact .inl c
    · exact .inr ⟨c, PySem.W.cellsFrom_some _ _ _ (.inl c)⟩
  refine codeAny_call_function hr.depth (kin _ _ lk) rfl S.co S.gen rfl (PySem.W.codeRec_of kin hcd) (hb _ _ _ _ (wpAny_newFunctionEnv_cells S.kind kinds fun env he s1 x => ?_))
  subst he
  refine ⟨lim.keeps x.toInCall.keep, codeAny_func (wpAny_mono (ht.run [] s1 (L2.start N vs) H _ (inv_start S hr.hd e0 hl r x) hq) (fun fl s' hs => ?_) fun e s' hs => hs)⟩
  cases fl with
  | next => obtain ⟨σ', H', J, q⟩ := hs; exact ⟨.non, H', J.os, J.bare, J.base, J.hok, rfl, q⟩
  | ret u => obtain ⟨v, σ', H', J, rv, q⟩ := hs; exact ⟨v, H', J.os, J.bare, J.base, J.hok, rv, q⟩
  | brk => obtain ⟨_, _, _, q⟩ := hs; exact q.elim
  | cont => obtain ⟨_, _, _, q⟩ := hs; exact q.elim
end VI

end

section
/-! ViF2: what a def promises; the caller's side. -/
namespace VI
open PySem L2 PyProof.Rows

def outsL : List V → List (Option D) → List (V × D)
  | v :: vs, some d :: os => (v, d) :: outsL vs os
  | _ :: vs, none :: os => outsL vs os
  | _, _ => []
/-- behind a call: L is what the caller has of it -/
structure RetOk (Γ : Wd) (F H : Hp) (fp : List Addr) (L : List (V × D)) (F' H' : Hp) : Prop where
  le : FLe F F'
  fz : Fz F' H'
  own : ∃ fq, RpL Γ F' H' (vsOf L) (dsOf L) fq ∧ fq.Nodup ∧ ∀ a ∈ fq, F' a = none ∧ (a ∈ fp ∨ H a = none)
  mod : ∀ a o, H a = some o → a ∉ fp → ¬ isTb Γ a → H' a = some o
  frF : ∀ a, F' a ≠ none → F a ≠ none ∨ a ∈ fp ∨ Loose H a
  tabs : LamX.Tabs Γ.tb H'
def ExF (Γ : Wd) (fld : String → Option String) (H' : Hp) (c : String) (cls : Value) (d : Option Addr) (va : V) : Prop :=
  ∃ C dd fl, Γ.cls c = some C ∧ cls = .ref C ∧ d = some dd ∧ fld c = some fl ∧ H' dd = some (.xd [(Str.ofString fl, va)])
def rR (Γ : Wd) (fld : String → Option String) (F H : Hp) (fp : List Addr) (vs : List V) (Q : VK) (E : XK) : CR → Prop
  | .ok r os => os.length = vs.length ∧ ∀ v F' H', RetOk Γ F H fp ((v, r) :: outsL vs os) F' H' → Q v H'
  | .ex c a os => os.length = vs.length ∧ ∀ cls d va F' H', ExF Γ fld H' c cls d va → RetOk Γ F H fp ((va, a) :: outsL vs os) F' H' → E cls d H'
  | .no => False
/-- the promise of a def of n parameters, by what it computes -/
def spOf (Γ : Wd) (fld : String → Option String) (n : Nat) (call : List D → CR) : Sp := fun vs H Q E => vs.length = n ∧ ∃ F ds fp, Fz F H ∧ RpL Γ F H vs ds fp ∧ fp.Nodup ∧ (∀ a ∈ fp, F a = none) ∧ LamX.Tabs Γ.tb H ∧ (∀ a, isTb Γ a → F a = none) ∧ rR Γ fld F H fp vs Q E (call ds)

section
variable {Γ : Wd} {fld : String → Option String} {W : WX} {B : Bd} {F F' H H' : Hp} {σ : L2.St} {af af' : Fr} {T T' : List (V × D)}
/-- temporaries go into a call, others come back -/
theorem Sta.callT {L0 : List (V × D)} (S : Sta Γ B F H σ af (L0 ++ T)) :
    ∃ fp, RpL Γ F H (vsOf L0) (dsOf L0) fp ∧ fp.Nodup ∧ (∀ a ∈ fp, F a = none) ∧ ∀ L F' H', RetOk Γ F H fp L F' H' → Sta Γ B F' H' σ af (L ++ T) := by
  have hp : (coll σ af ++ (L0 ++ T)).Perm (L0 ++ (coll σ af ++ T)) := by
    rw [← List.append_assoc, ← List.append_assoc]
    exact List.perm_append_comm.append_right _
  obtain ⟨f0, r0, n0, q0⟩ := S.own.perm hp
  rw [List.map_append, List.map_append (l₁ := L0) (f := fun x => x.2)] at r0
  obtain ⟨v1, v2, f1, f2, e1, rfl, h1, h2⟩ := r0.split
  have el := h1.length
  have e2 := List.append_inj e1 (by simpa using el.symm)
  rw [← e2.1] at h1
  rw [← e2.2] at h2
  obtain ⟨n1, n2, n3⟩ := List.nodup_append.mp n0
  refine ⟨f1, h1, n1, fun a m => (q0 a (List.mem_append_left _ m)).1, fun L F' H' R => ?_⟩
  obtain ⟨fq, rq, nq, oq⟩ := R.own
  have hd2 := h2.dom
  have k2 : ∀ a ∈ f2, H' a = H a := fun a m => by
    cases e : H a with
    | none => exact absurd e (hd2 a m)
    | some o => exact R.mod a o e (fun m' => n3 a m' a m rfl) fun i => (h2.kind a m).elim fun o' x => tab_notOwn S.tabs i x.1 x.2
  have g2 : ∀ a ∈ f2, F' a = none := fun a m => by
    cases e : F' a with
    | none => rfl
    | some o =>
      rcases R.frF a (by rw [e]; simp) with z | z | z
      · exact absurd (q0 a (List.mem_append_right _ m)).1 z
      · exact absurd rfl (n3 a z a m)
      · exact ((h2.kind a m).elim fun o x => z o x.1 (own_stay x.2)).elim
  have BH : ∀ a, H a = none → B.M a ∨ B.H a = none := fun a ha => by
    cases e : B.H a with
    | none => exact .inr rfl
    | some o =>
      by_cases mm : B.M a
      · exact .inl mm
      · have := S.mod a o e mm
        rw [ha] at this; cases this
  refine ⟨R.fz.sub, R.fz.tup, S.len, S.bnd, ?_, fun a o e m => ?_, S.mono.trans R.le, fun a h => ?_, R.tabs, S.mt, fun a i => ?_⟩
  · have hp' : (coll σ af ++ (L ++ T)).Perm (L ++ (coll σ af ++ T)) := by
      rw [← List.append_assoc, ← List.append_assoc]
      exact List.perm_append_comm.append_right _
    refine Own.perm ?_ hp'.symm
    refine ⟨fq ++ f2, ?_, List.nodup_append.mpr ⟨nq, n2, fun a ha b hb e => ?_⟩, fun a m => ?_⟩
    · rw [List.map_append, List.map_append (l₁ := L) (f := fun x => x.2)]
      exact rq.append (h2.mono R.le.k k2)
    · subst e
      rcases (oq a ha).2 with z | z
      · exact n3 a z a hb rfl
      · exact hd2 a hb z
    · rcases List.mem_append.mp m with m | m
      · refine ⟨(oq a m).1, ?_⟩
        rcases (oq a m).2 with z | z
        · exact (q0 a (List.mem_append_left _ z)).2
        · exact BH a z
      · exact ⟨g2 a m, (q0 a (List.mem_append_right _ m)).2⟩
  · refine R.mod a o (S.mod a o e m) (fun m' => ?_) fun i => m (S.mt a i)
    rcases (q0 a (List.mem_append_left _ m')).2 with z | z
    · exact m z
    · rw [z] at e; cases e
  · rcases R.frF a h with z | z | z
    · exact S.frF a z
    · exact .inr ((q0 a (List.mem_append_left _ z)).2.imp id loose_none)
    · exact .inr (S.loose z)
  · cases e : F' a with
    | none => rfl
    | some o =>
      rcases R.frF a (by rw [e]; simp) with z | z | z
      · exact absurd (S.nt a i) z
      · obtain ⟨o', e', k⟩ := h1.kind a z
        exact (tab_notOwn S.tabs i e' k).elim
      · exact (loose_tab S.tabs i z).elim
/-- where the arguments come from -/
def Frm (σ : L2.St) : List (Option Nat) → List V → Prop
  | none :: xs, _ :: vs => Frm σ xs vs
  | some x :: xs, v :: vs => σ[x]? = some (some v) ∧ Frm σ xs vs
  | [], [] => True
  | _, _ => False
theorem args_ok : ∀ {rs : List Rv} {vs : List V} {af af' : Fr} {ds : List D} {xs : List (Option Nat)} {T : List (V × D)}, PRs Γ B σ F H af T rs vs → args rs af = some (ds, xs, af') →
    Sta Γ B F H σ af' (vs.zip ds ++ T) ∧ ds.length = vs.length ∧ Frm σ xs vs ∧ (xs.all (·.isNone) = true → af' = af)
  | [], [], af, af', ds, xs, T, h, e => by
    cases e
    exact ⟨h.1, rfl, trivial, fun _ => rfl⟩
  | [], _ :: _, _, _, _, _, _, h, _ => h.2.elim
  | .tmp d :: rs, [], _, _, _, _, _, h, _ => h.2.elim
  | .plc _ _ :: rs, [], _, _, _, _, _, h, _ => h.2.elim
  | .tmp d :: rs, v :: vs, af, af', ds, xs, T, h, e => by
    simp only [args] at e
    cases e1 : args rs af with
    | none => rw [e1] at e; cases e
    | some o =>
      obtain ⟨ds', xs', fr'⟩ := o
      rw [e1] at e
      cases e
      have S : Sta Γ B F H σ af ((v, d) :: (tmps rs vs ++ T)) := h.1
      obtain ⟨S1, l1, f1, k1⟩ := args_ok (rs := rs) (vs := vs) (T := (v, d) :: T) ⟨S.perm List.perm_middle.symm, h.2⟩ e1
      exact ⟨S1.perm List.perm_middle, by simp [l1], f1, fun hq => k1 (by simpa using hq)⟩
  | .plc x [] :: rs, v :: vs, af, af', ds, xs, T, h, e => by
    simp only [args] at e
    cases hs : slot af x with
    | none => rw [hs] at e; cases e
    | some d =>
      rw [hs] at e
      simp only at e
      cases e1 : args rs (af.set x none) with
      | none => rw [e1] at e; cases e
      | some o =>
        obtain ⟨ds', xs', fr'⟩ := o
        rw [e1] at e
        cases e
        obtain ⟨v2, ev, S⟩ := h.1.hide hs
        obtain ⟨v1, ev1, pt⟩ := h.2.1
        cases pt
        rw [ev] at ev1; cases ev1
        obtain ⟨S1, l1, f1, k1⟩ := args_ok (rs := rs) (vs := vs) (T := (v, d) :: T) ⟨S.perm List.perm_middle.symm, h.2.2⟩ e1
        exact ⟨S1.perm List.perm_middle, by simp [l1], ⟨ev, f1⟩, fun hq => by simp at hq⟩
  | .plc x (_ :: _) :: rs, v :: vs, _, _, _, _, _, h, e => by simp [args] at e
theorem backs_ok : ∀ {xs : List (Option Nat)} {vs : List V} {os : List (Option D)} {af : Fr} {T : List (V × D)}, Frm σ xs vs → os.length = vs.length → Sta Γ B F H σ af (outsL vs os ++ T) → Sta Γ B F H σ (backs xs os af) T
  | [], [], [], af, T, _, _, S => S
  | [], [], _ :: _, _, _, _, h, _ => by simp at h
  | [], _ :: _, _, _, _, h, _, _ => h.elim
  | none :: _, [], _, _, _, h, _, _ => h.elim
  | some _ :: _, [], _, _, _, h, _, _ => h.elim
  | none :: xs, v :: vs, [], _, _, _, h, _ => by simp at h
  | some _ :: xs, v :: vs, [], _, _, _, h, _ => by simp at h
  | none :: xs, v :: vs, o :: os, af, T, f, l, S => by
    simp only [backs]
    refine backs_ok (vs := vs) f (by simpa using l) ?_
    cases o with
    | none => exact S
    | some d => exact S.drop
  | some x :: xs, v :: vs, o :: os, af, T, f, l, S => by
    simp only [backs]
    refine backs_ok (vs := vs) f.2 (by simpa using l) ?_
    cases o with
    | none => exact S.forget x
    | some d =>
      have hx : x < af.length := by
        rw [S.len]
        exact (List.getElem?_eq_some_iff.mp f.1).1
      exact Sta.back (S : Sta Γ B F H σ af ((v, d) :: (outsL vs os ++ T))) hx f.1
theorem all_set {xs : List (Option Nat)} : ∀ {os : List (Option D)} {af : Fr}, xs.all (·.isNone) = true → backs xs os af = af := by
  induction xs with
  | nil => intro os af _; rfl
  | cons x xs ih =>
    intro os af h
    simp only [List.all_cons, Bool.and_eq_true] at h
    cases x with
    | some x => simp at h
    | none =>
      cases os with
      | nil => rfl
      | cons o os => exact ih h.2
theorem vsOf_zip {vs : List V} {ds : List D} (l : ds.length = vs.length) : vsOf (vs.zip ds) = vs := zip_fst l
theorem dsOf_zip {vs : List V} {ds : List D} (l : ds.length = vs.length) : dsOf (vs.zip ds) = ds := zip_snd l
/-- the caller's side -/
theorem call_core {c : Cv} {f : String} {n : Nat} {rs : List Rv} {vs : List V} {Q : VK} {B0F B0H : Hp} {af0 : Fr} {q0 : Bool} (p : PRs Γ B σ F H af T rs vs) (hn : vs.length = n) (l0 : FLe B0F F) (k0 : q0 = true → af = af0 ∧ HLe B0H H)
    (h : rG (fun r fr q => okE Γ B B0F T af0 σ B0H Q r fr (q0 && q)) (exW Γ fld W B σ T) (doCall c f rs af)) : spOf Γ fld n (c.call f) vs H Q (WE W σ) := by
  unfold doCall at h
  cases ea : args rs af with
  | none => rw [ea] at h; exact h.elim
  | some o =>
    obtain ⟨ds, xs, fr'⟩ := o
    rw [ea] at h
    simp only at h
    obtain ⟨S, ld, fr, kx⟩ := args_ok p ea
    obtain ⟨fp, r1, n1, g1, ret⟩ := S.callT
    rw [vsOf_zip ld, dsOf_zip ld] at r1
    refine ⟨hn, F, ds, fp, S.fz, r1, n1, g1, S.tabs, S.nt, ?_⟩
    cases ec : c.call f ds with
    | no => rw [ec] at h; exact h.elim
    | ok r os =>
      rw [ec] at h
      simp only at h
      by_cases hl : os.length = ds.length
      · rw [if_pos hl] at h
        rw [ld] at hl
        refine ⟨hl, fun v F' H' R => ?_⟩
        have h : okE Γ B B0F T af0 σ B0H Q (.tmp r) (backs xs os fr') (q0 && (xs.all (·.isNone) && pureL ds)) := h
        refine h v H' F' (l0.trans R.le) (fun hq => ?_) ?_
        · simp only [Bool.and_eq_true] at hq
          obtain ⟨a1, a2⟩ := k0 hq.1
          refine ⟨by rw [all_set hq.2.1, kx hq.2.1, a1], a2.trans fun a o e nt => ?_⟩
          have : fp = [] := r1.len_pure hq.2.2
          subst this
          exact R.mod a o e (by simp) fun i => by
            obtain ⟨q, hq⟩ := i
            obtain ⟨ps, z, _⟩ := S.tabs _ hq
            have z : H a = some (.tbl ps) := z
            rw [e] at z; cases z; exact nt _ rfl
        · have S' := ret _ F' H' R
          exact backs_ok (T := (v, r) :: T) fr hl (S'.perm List.perm_middle.symm)
      · rw [if_neg hl] at h; exact h.elim
    | ex e a os =>
      rw [ec] at h
      simp only at h
      by_cases hl : os.length = ds.length
      · rw [if_pos hl] at h
        rw [ld] at hl
        refine ⟨hl, fun cls d va F' H' hx R => ?_⟩
        obtain ⟨C, dd, fl, h1, h2, h3, h4, h5⟩ := hx
        have h : exW Γ fld W B σ T e a (backs xs os fr') := h
        refine h cls d F' H' ⟨C, dd, va, fl, h1, h2, h3, h4, h5, ?_⟩
        have S' := ret _ F' H' R
        exact backs_ok (T := (va, a) :: T) fr hl (S'.perm List.perm_middle.symm)
      · rw [if_neg hl] at h; exact h.elim
end
end VI

end

section
/-! ViF3: calls as expressions. -/
namespace VI
open PySem L2 PyProof.Rows

/-- positional arguments, then keywords -/
structure PAK (X : Cx) (as : List Expr) (kws : List Keyword) (t : TA) : Prop where
  run : ∀ (pos : Pos) (pins : List (Addr × Obj)) (s : Shared) (σ : L2.St) (H : Hp) (Q : List V → Hp → Prop), Inv X pins σ H s → t σ H Q →
    wpAny (model X.prog X.w) X.A (spliced (backTo pos (starEach as X.env))) (fun us s1 => wpAny (model X.prog X.w) X.A (evalAll ((backToKw pos (keywordEach kws X.env)).map (·.2)))
      (fun ws s2 => ∃ vs zs H', Inv X pins σ H' s2 ∧ Vals vs us ∧ Vals zs ws ∧ us.length = as.length ∧ Q (vs ++ zs) H') X.xe s1) X.xe s
section
variable {X : Cx} {Γ : Wd} {fld : String → Option String} {W : WX} {fa fb : Fr → Rs Rv} {fs : Fr → Rs (List Rv)} {a e : Expr} {as es : List Expr} {kws : List Keyword} {pos p kpos : Pos} {nm : Option Str} {t : TA} {x : Str} {k n : Nat} {f : Addr} {fd : FuncData} {ps ks : List Str}
theorem PK.imp {t t' : TA} (h : PK X kws t) (i : ∀ σ H Q, t' σ H Q → t σ H Q) : PK X kws t' := ⟨fun pos pins s σ H Q I q => h.run pos pins s σ H Q I (i _ _ _ q)⟩
/-- the reading of the head of a list of arguments -/
theorem tCons_of {σ : L2.St} {H : Hp} {Q : List V → Hp → Prop} (h : tA Γ fld W (fun fr => (fa fr).bind fun r fr => match fs fr with
    | .ok rs fr q => if r.deep && !q then .no else .ok (r :: rs) fr q
    | .ex e x fr => .ex e x fr
    | .no => .no) σ H Q) : tCons (tE Γ fld W fa) (tA Γ fld W fs) σ H Q := by
  obtain ⟨B, F, T, af, S, h⟩ := h
  refine tE_step S h (fun _ _ _ h => h) fun r f1 q1 e1 h3 v H1 F1 l k1 p => ?_
  refine ⟨B, F1, tmps [r] [v] ++ T, f1, p.sta, ?_⟩
  cases hb : fs f1 with
  | ok rs f2 q2 =>
    rw [hb] at h3
    simp only at h3
    split at h3
    · exact h3.elim
    · rename_i hd
      intro ws H2 F2 l2 k2 p2
      have h3 : okA Γ B F T af σ H Q (r :: rs) f2 (q1 && q2) := h3
      refine h3 (v :: ws) H2 F2 (l.trans l2) (q_and k1 k2) ⟨?_, ?_⟩
      · rw [tmps_cons]
        refine p2.1.perm ?_
        rw [← List.append_assoc]
        exact List.perm_append_comm.append_right _
      · cases r with
        | tmp d => exact p2.2
        | plc x ps =>
          refine ⟨p.2.mono l2 ?_, p2.2⟩
          cases ps with
          | nil => exact .inl rfl
          | cons s ss =>
            right
            have : q2 = true := by simpa [Rv.deep] using hd
            exact (k2 this).2
  | ex c z f2 => rw [hb] at h3; exact exW.drop h3
  | no => rw [hb] at h3; exact h3
theorem pk_nilD : PK X [] (tA Γ fld W (fun fr => .ok [] fr true)) := PK.imp pk_nil fun σ H Q h => by
  obtain ⟨B, F, T, af, S, h⟩ := h
  exact h [] H F (.refl _) (fun _ => ⟨rfl, .refl _⟩) ⟨S, trivial⟩
theorem pk_consD (ha : PE X e (tE Γ fld W fa)) (hr : PK X kws (tA Γ fld W fs)) : PK X (⟨nm, e, kpos⟩ :: kws) (tA Γ fld W (fun fr => (fa fr).bind fun r fr => match fs fr with
    | .ok rs fr q => if r.deep && !q then .no else .ok (r :: rs) fr q
    | .ex e x fr => .ex e x fr
    | .no => .no)) := PK.imp (pk_cons ha hr) fun σ H Q h => tCons_of h
theorem pak_kw (h : PK X kws t) : PAK X [] kws t := ⟨fun pos pins s σ H Q I q => by
  refine Calls.spliced_nil ?_
  refine thn (h.run pos pins s σ H Q I q) fun ws s2 ⟨zs, H', I', r, q'⟩ => ⟨[], zs, H', I', .nil, r, rfl, q'⟩⟩
theorem pak_cons (ha : PE X a (tE Γ fld W fa)) (hr : PAK X as kws (tA Γ fld W fs)) (hs : starEach (a :: as) X.env = (false, eval a X.env) :: starEach as X.env) : PAK X (a :: as) kws (tA Γ fld W (fun fr => (fa fr).bind fun r fr => match fs fr with
    | .ok rs fr q => if r.deep && !q then .no else .ok (r :: rs) fr q
    | .ex e x fr => .ex e x fr
    | .no => .no)) := ⟨fun pos pins s σ H Q I h => by
  rw [hs]
  show wpAny _ _ (spliced ((false, eval a X.env) :: backTo pos (starEach as X.env))) _ _ s
  refine Calls.spliced_cons (thn (ha.run pins s σ H _ I (tCons_of h)) fun u s1 ⟨x, H1, I1, r1, q1⟩ => ?_)
  refine thn (hr.run pos pins s1 σ H1 _ I1 q1) fun us s2 h2 => ?_
  exact thn h2 fun ws s3 ⟨vs, zs, H', I', r2, r3, l1, q⟩ => ⟨x :: vs, zs, H', I', .cons r1 r2, r3, by simp [l1], q⟩⟩
theorem vals_pick {p : List Nat} {vs : List V} {us : List Value} (r : Vals vs us) : Vals (pick p vs) (pick p us) := by
  induction p with
  | nil => exact .nil
  | cons i p ih =>
    unfold pick at ih ⊢
    simp only [List.filterMap_cons]
    cases e : vs[i]? with
    | none =>
      have : us[i]? = none := by
        rw [List.getElem?_eq_none_iff] at e ⊢
        rw [← r.length]; exact e
      rw [this]; exact ih
    | some v =>
      obtain ⟨u, e2, ru⟩ := r.get e
      rw [e2]; exact .cons ru ih
theorem kw_fin {CX : CXT} {sp : Sp} {E : L2.St → XK} {pm : List Nat} (F : FnG X.prog X.w X.K X.mg X.base CX k f fd ps sp) (hr : Room k X.A) (hgd : X.A.guards = some [])
    (hb : ∀ (s : Shared) (us ws : List Value), X.K.In s.heap → us.length = as.length → us.length + ws.length = pm.length → BindsTo s fd ⟨us, ks.zip ws⟩ (ps.zip (pick pm (us ++ ws)))) (hx : ∀ σ, L2.PassesAt CX X σ (E σ)) {pins : List (Addr × Obj)} {σ : L2.St} {Q : VK}
    (us ws : List Value) (s2 : Shared) (h : ∃ vs zs H', Inv X pins σ H' s2 ∧ Vals vs us ∧ Vals zs ws ∧ us.length = as.length ∧ (vs ++ zs).length = pm.length ∧ sp (pick pm (vs ++ zs)) H' Q (E σ)) :
    X.K.In s2.heap ∧ wpAny (model X.prog X.w) X.A (call (.ref f) us (ks.zip ws)) (EP X pins σ Q) X.xe s2 := by
  obtain ⟨vs, zs, H', I2, r1, r2, l1, l2, q⟩ := h
  refine ⟨I2.kIn, ?_⟩
  refine run_fnG (args := ⟨us, ks.zip ws⟩) F hr hgd (hx σ) I2 (vals_pick (p := pm) (r1.append r2)) q fun hl => hb s2 us ws I2.kIn l1 ?_
  rw [List.length_append, r1.length, r2.length] at l2
  exact l2
def tKw (sp : Sp) (pm : List Nat) (E : L2.St → XK) (t : TA) : TE := fun σ H Q => t σ H fun vs H1 => vs.length = pm.length ∧ sp (pick pm vs) H1 Q (E σ)
/-- f(e, .., k = v, ..) -/
theorem pe_callKG1 {CX : CXT} {sp : Sp} {E : L2.St → XK} {pm : List Nat} (F : FnG X.prog X.w X.K X.mg X.base CX k f fd ps sp) (hr : Room k X.A) (hgd : X.A.guards = some []) (hg : Gl X x) (hm : X.mg x = some (.ref f)) (hk : PySem.W.keepIn X.K (.ref f) = true)
    (hb : ∀ (s : Shared) (us ws : List Value), X.K.In s.heap → us.length = (a :: as).length → us.length + ws.length = pm.length → BindsTo s fd ⟨us, ks.zip ws⟩ (ps.zip (pick pm (us ++ ws)))) (hx : ∀ σ, L2.PassesAt CX X σ (E σ))
    (ha : PAK X (a :: as) kws t) (hall : (backToKw pos (keywordEach kws X.env)).all (·.1.isSome) = true) (hks : (backToKw pos (keywordEach kws X.env)).filterMap (·.1) = ks)
    (hdb : (x == ("__debug__" : Str)) = false) (he : starEach (a :: as) X.env = (false, eval a X.env) :: starEach as X.env)
    (hpl : ((backTo pos (starEach (a :: as) X.env)).any (·.1) || (backToKw pos (keywordEach kws X.env)).any (·.1.isNone)) = false) :
    PE X (.Call (.Name x p) (a :: as) kws pos) (tKw sp pm E t) := by
  refine ⟨fun pins s σ H Q I h => ?_⟩
  refine wpAny_Call_Name_kw (ld_glob I hg hm ?_ hdb)
  refine PySem.W.callWith_KW (h₀ := X.base) I.ok.mod.kin hk hall (thn (ha.run pos pins s σ H _ I h) fun us s1 h1 => ?_) hpl he
  rw [hks]
  exact thn h1 fun ws s2 h2 => kw_fin F hr hgd hb hx us ws s2 h2
/-- f(k = v, ..) -/
theorem pe_callKG0 {CX : CXT} {sp : Sp} {E : L2.St → XK} {pm : List Nat} (F : FnG X.prog X.w X.K X.mg X.base CX k f fd ps sp) (hr : Room k X.A) (hgd : X.A.guards = some []) (hg : Gl X x) (hm : X.mg x = some (.ref f)) (hk : PySem.W.keepIn X.K (.ref f) = true)
    (hb : ∀ (s : Shared) (us ws : List Value), X.K.In s.heap → us.length = ([] : List Expr).length → us.length + ws.length = pm.length → BindsTo s fd ⟨us, ks.zip ws⟩ (ps.zip (pick pm (us ++ ws)))) (hx : ∀ σ, L2.PassesAt CX X σ (E σ))
    (ha : PK X kws t) (hall : (backToKw pos (keywordEach kws X.env)).all (·.1.isSome) = true) (hks : (backToKw pos (keywordEach kws X.env)).filterMap (·.1) = ks)
    (hdb : (x == ("__debug__" : Str)) = false) (hpl : ((backTo pos (starEach [] X.env)).any (·.1) || (backToKw pos (keywordEach kws X.env)).any (·.1.isNone)) = false) :
    PE X (.Call (.Name x p) [] kws pos) (tKw sp pm E t) := by
  refine ⟨fun pins s σ H Q I h => ?_⟩
  refine wpAny_Call_Name_kw (ld_glob I hg hm ?_ hdb)
  refine PySem.W.callWith_KW0 (first := []) (h₀ := X.base) I.ok.mod.kin hk hall (thn (ha.run pos pins s σ H _ I h) fun ws s2 ⟨zs, H', I', r, q⟩ => ?_) hpl
  rw [hks]
  exact kw_fin (as := []) F hr hgd hb hx [] ws s2 ⟨[], zs, H', I', .nil, r, rfl, q⟩
/-! ### readings -/
theorem pe_callD {c : Cv} {fn : String} (F : FnG X.prog X.w X.K X.mg X.base (L2.CX X.prog X.w) k f fd ps (spOf Γ fld n (c.call fn))) (hr : Room k X.A) (hgd : X.A.guards = some []) (hg : Gl X x) (hm : X.mg x = some (.ref f)) (hk : PySem.W.keepIn X.K (.ref f) = true) (hb : Binds X.K fd ps []) (tk : Takes X W)
    (hn : ∀ fr rs fr' q, fs fr = .ok rs fr' q → rs.length = n)
    (ha : PA X (a :: as) (tA Γ fld W fs)) (hdb : (x == ("__debug__" : Str)) = false) (he : starEach (a :: as) X.env = (false, eval a X.env) :: starEach as X.env) (hpl : (backTo pos (starEach as X.env)).any (·.1) = false) :
    PE X (.Call (.Name x p) (a :: as) [] pos) (tE Γ fld W (fun fr => (fs fr).bind fun rs fr => doCall c fn rs fr)) := by
  refine (pe_callG (E := WE W) F hr hgd hg hm hk hb (fun σ => L2.passAt tk σ) ha hdb he hpl).imp fun σ H Q h => ?_
  obtain ⟨B, F, T, af, S, h⟩ := h
  refine tA_step S h (fun _ _ _ h => h) fun rs f1 q1 e1 h1 vs H1 F1 l k1 p => ?_
  exact call_core p (by rw [← PRs.len p.2]; exact hn _ _ _ _ e1) l k1 h1
theorem pe_callD0 {c : Cv} {fn : String} (F : FnG X.prog X.w X.K X.mg X.base (L2.CX X.prog X.w) k f fd ps (spOf Γ fld 0 (c.call fn))) (hr : Room k X.A) (hgd : X.A.guards = some []) (hg : Gl X x) (hm : X.mg x = some (.ref f)) (hk : PySem.W.keepIn X.K (.ref f) = true) (hb : Binds X.K fd ps []) (tk : Takes X W)
    (hdb : (x == ("__debug__" : Str)) = false) :
    PE X (.Call (.Name x p) [] [] pos) (tE Γ fld W (fun fr => (Rs.ok [] fr true).bind fun rs fr => doCall c fn rs fr)) := by
  refine (pe_callG0 (E := WE W) F hr hgd hg hm hk hb (fun σ => L2.passAt tk σ) hdb).imp fun σ H Q h => ?_
  obtain ⟨B, F, T, af, S, h⟩ := h
  have h1 := rG_bind h
  exact call_core (rs := []) (vs := []) (q0 := true) ⟨S, trivial⟩ rfl (.refl _) (fun _ => ⟨rfl, .refl _⟩) h1
def tmpsZ (P : List (Rv × V)) : List (V × D) := P.filterMap fun x => match x.1 with
  | .tmp d => some (x.2, d)
  | .plc _ _ => none
theorem tmpsZ_eq : ∀ {rs : List Rv} {vs : List V}, rs.length = vs.length → tmps rs vs = tmpsZ (rs.zip vs)
  | [], [], _ => rfl
  | [], _ :: _, h => by simp at h
  | _ :: _, [], h => by simp at h
  | .tmp d :: rs, v :: vs, h => by
    show (v, d) :: tmps rs vs = (v, d) :: tmpsZ (rs.zip vs)
    rw [tmpsZ_eq (by simpa using h)]
  | .plc x p :: rs, v :: vs, h => by
    show tmps rs vs = tmpsZ (rs.zip vs)
    exact tmpsZ_eq (by simpa using h)
theorem plcs_iff {σ : L2.St} {F H : Hp} : ∀ {rs : List Rv} {vs : List V}, rs.length = vs.length → (Plcs Γ σ F H rs vs ↔ ∀ x ∈ rs.zip vs, ∀ y p, x.1 = .plc y p → Plc Γ σ F H y p x.2)
  | [], [], _ => by simp [Plcs]
  | [], _ :: _, h => by simp at h
  | _ :: _, [], h => by simp at h
  | .tmp d :: rs, v :: vs, h => by
    have := plcs_iff (σ := σ) (F := F) (H := H) (rs := rs) (vs := vs) (by simpa using h)
    simp only [Plcs, this, List.zip_cons_cons, List.mem_cons, forall_eq_or_imp]
    simp
  | .plc x p :: rs, v :: vs, h => by
    have := plcs_iff (σ := σ) (F := F) (H := H) (rs := rs) (vs := vs) (by simpa using h)
    simp only [Plcs, this, List.zip_cons_cons, List.mem_cons, forall_eq_or_imp]
    simp
theorem pick_zip {α β : Type} {pm : List Nat} {l : List α} {m : List β} (h : l.length = m.length) : pick pm (l.zip m) = (pick pm l).zip (pick pm m) ∧ (pick pm l).length = (pick pm m).length := by
  induction pm with
  | nil => exact ⟨rfl, rfl⟩
  | cons i pm ih =>
    unfold pick at ih ⊢
    simp only [List.filterMap_cons]
    by_cases hi : i < l.length
    · have h1 : l[i]? = some l[i] := List.getElem?_eq_getElem hi
      have h2 : m[i]? = some (m[i]'(by omega)) := List.getElem?_eq_getElem (by omega)
      have h3 : (l.zip m)[i]? = some (l[i], m[i]'(by omega)) := by rw [List.getElem?_zip_eq_some]; exact ⟨h1, h2⟩
      rw [h1, h2, h3]
      exact ⟨congrArg _ ih.1, congrArg (· + 1) ih.2⟩
    · have h1 : l[i]? = none := by rw [List.getElem?_eq_none_iff]; omega
      have h2 : m[i]? = none := by rw [List.getElem?_eq_none_iff]; omega
      have h3 : (l.zip m)[i]? = none := by rw [List.getElem?_eq_none_iff, List.length_zip]; omega
      rw [h1, h2, h3]
      exact ih
theorem pick_take {α : Type} (l : List α) : ∀ n : Nat, pick (List.range n) l = l.take n
  | 0 => by simp [pick]
  | n + 1 => by
    have ih := pick_take l n
    unfold pick at ih ⊢
    rw [List.range_succ, List.filterMap_append, ih, List.take_add_one]
    cases e : l[n]? <;> simp [List.filterMap_cons, e]
theorem pick_range {α : Type} (l : List α) : pick (List.range l.length) l = l := by rw [pick_take, List.take_length]
theorem PRs.pick {B : Bd} {σ : L2.St} {F H : Hp} {af : Fr} {T : List (V × D)} {pm : List Nat} {rs : List Rv} {vs : List V} (h : PRs Γ B σ F H af T rs vs) (hl : rs.length = pm.length) (hp : pm.isPerm (List.range pm.length) = true) : PRs Γ B σ F H af T (pick pm rs) (pick pm vs) ∧ (VI.pick pm vs).length = pm.length := by
  have l0 := PRs.len h.2
  obtain ⟨z1, z2⟩ := pick_zip (pm := pm) l0
  have P : (VI.pick pm (rs.zip vs)).Perm (rs.zip vs) := by
    have := (List.isPerm_iff.mp hp).filterMap fun i => (rs.zip vs)[i]?
    have e : (List.range pm.length).filterMap (fun i => (rs.zip vs)[i]?) = rs.zip vs := by
      have := pick_range (rs.zip vs)
      unfold VI.pick at this
      rw [List.length_zip, ← l0, Nat.min_self, hl] at this
      exact this
    rw [e] at this
    exact this
  refine ⟨⟨?_, ?_⟩, ?_⟩
  · rw [tmpsZ_eq z2, ← z1]
    have := h.1
    rw [tmpsZ_eq l0] at this
    exact this.perm ((P.symm.filterMap _).append_right T)
  · rw [plcs_iff z2, ← z1]
    have := (plcs_iff l0).mp h.2
    exact fun x hx => this x (P.mem_iff.mp hx)
  · have := P.length_eq
    rw [z1, List.length_zip, z2, Nat.min_self, List.length_zip, ← l0, Nat.min_self] at this
    rw [this, hl]
theorem kw_read {c : Cv} {fn : String} {pm : List Nat} {σ : L2.St} {H : Hp} {Q : VK} (h : tE Γ fld W (fun fr => (fs fr).bind fun rs fr => if rs.length = pm.length ∧ pm.isPerm (List.range pm.length) = true then doCall c fn (pick pm rs) fr else .no) σ H Q) : tKw (spOf Γ fld pm.length (c.call fn)) pm (WE W) (tA Γ fld W fs) σ H Q := by
  obtain ⟨B, F, T, af, S, h⟩ := h
  refine tA_step S h (fun _ _ _ h => h) fun rs f1 q1 e1 h1 vs H1 F1 l k1 p => ?_
  split at h1
  · rename_i hc
    obtain ⟨p', l'⟩ := p.pick hc.1 hc.2
    exact ⟨by rw [← PRs.len p.2]; exact hc.1, call_core p' l' l k1 h1⟩
  · exact h1.elim
theorem pe_callKD1 {c : Cv} {fn : String} {pm : List Nat} (F : FnG X.prog X.w X.K X.mg X.base (L2.CX X.prog X.w) k f fd ps (spOf Γ fld pm.length (c.call fn))) (hr : Room k X.A) (hgd : X.A.guards = some []) (hg : Gl X x) (hm : X.mg x = some (.ref f)) (hk : PySem.W.keepIn X.K (.ref f) = true)
    (hb : ∀ (s : Shared) (us ws : List Value), X.K.In s.heap → us.length = (a :: as).length → us.length + ws.length = pm.length → BindsTo s fd ⟨us, ks.zip ws⟩ (ps.zip (pick pm (us ++ ws)))) (tk : Takes X W)
    (ha : PAK X (a :: as) kws (tA Γ fld W fs)) (hall : (backToKw pos (keywordEach kws X.env)).all (·.1.isSome) = true) (hks : (backToKw pos (keywordEach kws X.env)).filterMap (·.1) = ks)
    (hdb : (x == ("__debug__" : Str)) = false) (he : starEach (a :: as) X.env = (false, eval a X.env) :: starEach as X.env)
    (hpl : ((backTo pos (starEach (a :: as) X.env)).any (·.1) || (backToKw pos (keywordEach kws X.env)).any (·.1.isNone)) = false) :
    PE X (.Call (.Name x p) (a :: as) kws pos) (tE Γ fld W (fun fr => (fs fr).bind fun rs fr => if rs.length = pm.length ∧ pm.isPerm (List.range pm.length) = true then doCall c fn (pick pm rs) fr else .no)) :=
  (pe_callKG1 F hr hgd hg hm hk hb (fun σ => L2.passAt tk σ) ha hall hks hdb he hpl).imp fun σ H Q h => kw_read h
theorem pe_callKD0 {c : Cv} {fn : String} {pm : List Nat} (F : FnG X.prog X.w X.K X.mg X.base (L2.CX X.prog X.w) k f fd ps (spOf Γ fld pm.length (c.call fn))) (hr : Room k X.A) (hgd : X.A.guards = some []) (hg : Gl X x) (hm : X.mg x = some (.ref f)) (hk : PySem.W.keepIn X.K (.ref f) = true)
    (hb : ∀ (s : Shared) (us ws : List Value), X.K.In s.heap → us.length = ([] : List Expr).length → us.length + ws.length = pm.length → BindsTo s fd ⟨us, ks.zip ws⟩ (ps.zip (pick pm (us ++ ws)))) (tk : Takes X W)
    (ha : PK X kws (tA Γ fld W fs)) (hall : (backToKw pos (keywordEach kws X.env)).all (·.1.isSome) = true) (hks : (backToKw pos (keywordEach kws X.env)).filterMap (·.1) = ks)
    (hdb : (x == ("__debug__" : Str)) = false) (hpl : ((backTo pos (starEach [] X.env)).any (·.1) || (backToKw pos (keywordEach kws X.env)).any (·.1.isNone)) = false) :
    PE X (.Call (.Name x p) [] kws pos) (tE Γ fld W (fun fr => (fs fr).bind fun rs fr => if rs.length = pm.length ∧ pm.isPerm (List.range pm.length) = true then doCall c fn (pick pm rs) fr else .no)) :=
  (pe_callKG0 F hr hgd hg hm hk hb (fun σ => L2.passAt tk σ) ha hall hks hdb hpl).imp fun σ H Q h => kw_read h
end
end VI

end

section
/-! ViG: what is walked. -/
namespace VI
open PySem L2 PyProof.Rows

section
variable {Γ : Wd} {fld : String → Option String} {W : WX} {B : Bd} {F F' H H' : Hp} {σ : L2.St} {af af' : Fr} {T T' : List (V × D)}
/-- temporaries are put aside: nothing can reach them meanwhile -/
theorem Sta.frame {L : List (V × D)} (S : Sta Γ B F H σ af (L ++ T)) : ∃ B' fp, RpL Γ F H (vsOf L) (dsOf L) fp ∧ Sta Γ B' F H σ af T ∧
    ∀ F2 H2 σ2 af2 T2, Sta Γ B' F2 H2 σ2 af2 T2 → FLe F F2 ∧ (∀ a ∈ fp, H2 a = H a) ∧ Sta Γ B F2 H2 σ2 af2 (L ++ T2) := by
  have hp : (coll σ af ++ (L ++ T)).Perm (L ++ (coll σ af ++ T)) := by
    rw [← List.append_assoc, ← List.append_assoc]
    exact List.perm_append_comm.append_right _
  obtain ⟨f0, r0, n0, q0⟩ := S.own.perm hp
  rw [List.map_append, List.map_append (l₁ := L) (f := fun x => x.2)] at r0
  obtain ⟨v1, v2, f1, f2, e1, rfl, h1, h2⟩ := r0.split
  have el := h1.length
  have e2 := List.append_inj e1 (by simpa using el.symm)
  rw [← e2.1] at h1
  rw [← e2.2] at h2
  obtain ⟨n1, n2, n3⟩ := List.nodup_append.mp n0
  have hd1 := h1.dom
  refine ⟨⟨H, F, fun a => a ∈ f2 ∨ isTb Γ a⟩, f1, h1, ⟨S.sub, S.tup, S.len, S.bnd, ⟨f2, h2, n2, fun a m => ⟨(q0 a (List.mem_append_right _ m)).1, .inl (.inl m)⟩⟩, fun a o e _ => e, FLe.refl F, fun a h => .inl h, S.tabs, fun a i => .inr i, S.nt⟩, fun F2 H2 σ2 af2 T2 S2 => ?_⟩
  have k1 : ∀ a ∈ f1, H2 a = H a := fun a m => by
    cases e : H a with
    | none => exact absurd e (hd1 a m)
    | some o => exact S2.mod a o e fun m' => m'.elim (fun m' => n3 a m a m' rfl) fun i => (h1.kind a m).elim fun o' x => tab_notOwn S.tabs i x.1 x.2
  have g1 : ∀ a ∈ f1, F2 a = none := fun a m => by
    cases e : F2 a with
    | none => rfl
    | some o =>
      rcases S2.frF a (by rw [e]; simp) with z | (z | z) | z
      · exact absurd (q0 a (List.mem_append_left _ m)).1 z
      · exact absurd rfl (n3 a m a z)
      · exact ((h1.kind a m).elim fun o' x => tab_notOwn S.tabs z x.1 x.2).elim
      · exact ((h1.kind a m).elim fun o x => z o x.1 (own_stay x.2)).elim
  refine ⟨S2.mono, k1, ?_⟩
  obtain ⟨f3, r3, n4, q3⟩ := S2.own
  have BH : ∀ a, H a = none → B.M a ∨ B.H a = none := fun a ha => by
    cases e : B.H a with
    | none => exact .inr rfl
    | some o =>
      by_cases mm : B.M a
      · exact .inl mm
      · have := S.mod a o e mm
        rw [ha] at this; cases this
  refine ⟨S2.sub, S2.tup, S2.len, S2.bnd, ?_, fun a o e m => ?_, S.mono.trans S2.mono, fun a h => ?_, S2.tabs, S.mt, S2.nt⟩
  · have hp' : (coll σ2 af2 ++ (L ++ T2)).Perm (L ++ (coll σ2 af2 ++ T2)) := by
      rw [← List.append_assoc, ← List.append_assoc]
      exact List.perm_append_comm.append_right _
    refine Own.perm ?_ hp'.symm
    refine ⟨f1 ++ f3, ?_, List.nodup_append.mpr ⟨n1, n4, fun a ha b hb e => ?_⟩, fun a m => ?_⟩
    · rw [List.map_append, List.map_append (l₁ := L) (f := fun x => x.2)]
      exact (h1.mono S2.mono.k k1).append r3
    · subst e
      rcases (q3 a hb).2 with (z | z) | z
      · exact n3 a ha a z rfl
      · exact (h1.kind a ha).elim fun o' x => tab_notOwn S.tabs z x.1 x.2
      · exact hd1 a ha z
    · rcases List.mem_append.mp m with m | m
      · exact ⟨g1 a m, (q0 a (List.mem_append_left _ m)).2⟩
      · refine ⟨(q3 a m).1, ?_⟩
        rcases (q3 a m).2 with (z | z) | z
        · exact (q0 a (List.mem_append_right _ z)).2
        · exact .inl (S.mt a z)
        · exact BH a z
  · refine S2.mod a o (S.mod a o e m) fun m' => ?_
    rcases m' with m' | m'
    · rcases (q0 a (List.mem_append_right _ m')).2 with z | z
      · exact m z
      · rw [z] at e; cases e
    · exact m (S.mt a m')
  · rcases S2.frF a h with z | (z | z) | z
    · exact S.frF a z
    · exact .inr ((q0 a (List.mem_append_right _ z)).2.imp id loose_none)
    · exact .inr (.inl (S.mt a z))
    · exact .inr (S.loose z)
/-- J gives the items ds, as long as L stands -/
def WkJ (Γ : Wd) (J : It) (ds : List D) (F H : Hp) (L : List (V × D)) : Prop :=
  ∀ fp, RpL Γ F H (vsOf L) (dsOf L) fp → ∀ F2 H2, FLe F F2 → Fz F2 H2 → (∀ a ∈ fp, H2 a = H a) → ∀ i,
    (∀ d, ds[i]? = some d → J.go i H2 ∧ ∀ x H3, J.yld i H2 x H3 → ∃ F3, Alloc F2 H2 F3 H3 ∧ Rp Γ F3 H3 x d [] ∧ d.pure = true) ∧ (i = ds.length → J.stop i H2)
/-- a walk has begun: L is put aside -/
def Wlk (Γ : Wd) (B : Bd) (σ : L2.St) (J : It) (w : Wk) (F H : Hp) (af : Fr) (T : List (V × D)) : Prop :=
  ∃ L, Sta Γ B F H σ af (L ++ T) ∧ WkJ Γ J w.items F H L ∧
    ∀ B2 σ2 af2 F2 H2 T2, Sta Γ B2 F2 H2 σ2 af2 (L ++ T2) → (∀ x ∈ w.prot, σ2[x]? = σ[x]?) → Sta Γ B2 F2 H2 σ2 (w.done af2) T2
def okI (Γ : Wd) (B : Bd) (F : Hp) (T : List (V × D)) (af : Fr) (σ : L2.St) (H : Hp) (R : It → Hp → Prop) (w : Wk) (af' : Fr) (q : Bool) : Prop :=
  ∀ J H' F', FLe F F' → (q = true → w.done af' = af ∧ HLe H H') → Wlk Γ B σ J w F' H' af' T → R J H'
def tI (Γ : Wd) (fld : String → Option String) (W : WX) (f : Fr → Rs Wk) : TI := fun σ H R => ∃ B F T af, Sta Γ B F H σ af T ∧ rG (okI Γ B F T af σ H R) (exW Γ fld W B σ T) (f af)
end
theorem PI.imp {X : Cx} {tg l : Expr} {t t' : TI} (h : PI X tg l t) (i : ∀ σ H Q, t' σ H Q → t σ H Q) : PI X tg l t' := ⟨fun pins s σ H Q I q => h.run pins s σ H Q I (i _ _ _ q)⟩
theorem PI.or {X : Cx} {tg l : Expr} {t t' : TI} (h : PI X tg l t) (h' : PI X tg l t') : PI X tg l (fun σ H R => t σ H R ∨ t' σ H R) := ⟨fun pins s σ H Q I q => q.elim (h.run pins s σ H Q I) (h'.run pins s σ H Q I)⟩
section
variable {Γ : Wd} {F H : Hp}
theorem RpL.nthP {vs : List V} {ds : List D} {fp : List Addr} {i : Nat} {d : D} (h : RpL Γ F H vs ds fp) (p : pureL ds = true) (e : ds[i]? = some d) : ∃ v, vs[i]? = some v ∧ Rp Γ F H v d [] ∧ d.pure = true := by
  obtain ⟨w, fe, a, b⟩ := h.nth e
  have := pureL_at p e
  exact ⟨w, a, b.any (FLe.refl F).k this, this⟩
/-- the part that is walked, as long as the whole stands -/
theorem part_at {v0 v : V} {e d : D} {p : List Sp1} {fp : List Addr} {F2 H2 : Hp} (z : Fz F H) (hp : Pth Γ F H v0 p v) (hg : e.get p = some d) (hc : p = [] ∨ d.pure = false) (r : RpL Γ F H (vsOf [(v0, e)]) (dsOf [(v0, e)]) fp) (l2 : FLe F F2) (k : ∀ a ∈ fp, H2 a = H a) : ∃ fq, Rp Γ F2 H2 v d fq := by
  cases r with
  | @cons _ _ f1 _ _ f2 r1 t =>
    have k1 : ∀ a ∈ f1, H2 a = H a := fun a m => k a (List.mem_append_left _ m)
    by_cases hd : d.pure = true
    · rcases hc with rfl | hc
      · cases hp
        simp only [D.get, Option.some.injEq] at hg; subst hg
        exact ⟨f1, r1.mono l2.k k1⟩
      · rw [hd] at hc; cases hc
    · have hd : d.pure = false := by simpa using hd
      obtain ⟨w, g1, g2, b1, b2, b3, _⟩ := r1.focus hg hd
      have := b1.fn z.sub hp
      subst this
      exact ⟨g1, b2.mono l2.k fun a m => k1 a (b3.mem_iff.mpr (List.mem_append_left _ m))⟩
/-- a list walked -/
theorem wkj_lst {K : PySem.W.Frag} {a : Addr} {v0 : V} {e d : D} {p : List Sp1} {ds : List D} (z : Fz F H) (hp : Pth Γ F H v0 p (.ref a)) (hg : e.get p = some d) (hc : p = [] ∨ d.pure = false) (hs : ∀ F2 H2 fp, Fz F2 H2 → Rp Γ F2 H2 (.ref a) d fp → ∃ vs fq, SqL K H2 a vs ∧ RpL Γ F2 H2 vs ds fq) (pu : pureL ds = true) :
    WkJ Γ (Itl K a) ds F H [(v0, e)] := fun fp r F2 H2 l2 z2 k => by
  obtain ⟨fq, rq⟩ := part_at z hp hg hc r l2 k
  obtain ⟨vs, fr, e1, e2⟩ := hs F2 H2 fq z2 rq
  refine fun i => ⟨fun x hx => ?_, fun hi => ⟨vs, e1, by rw [e2.length, hi]; exact Nat.le_refl _⟩⟩
  obtain ⟨v, g1, g2, g3⟩ := e2.nthP pu hx
  refine ⟨⟨vs, v, e1, g1⟩, fun y H3 hy => ?_⟩
  obtain ⟨rfl, hy⟩ := hy
  have := hy vs e1
  rw [g1] at this; cases this
  exact ⟨F2, z2.refl, g2, g3⟩
/-- a tuple walked -/
theorem wkj_tup {K : PySem.W.Frag} {a : Addr} {v0 : V} {e d : D} {p : List Sp1} {ds : List D} (z : Fz F H) (hp : Pth Γ F H v0 p (.ref a)) (hg : e.get p = some d) (hc : p = [] ∨ d.pure = false) (hs : ∀ F2 H2 fp, Fz F2 H2 → Rp Γ F2 H2 (.ref a) d fp → ∃ vs fq, SqT K H2 a vs ∧ RpL Γ F2 H2 vs ds fq) (pu : pureL ds = true) :
    WkJ Γ (Itt K a) ds F H [(v0, e)] := fun fp r F2 H2 l2 z2 k => by
  obtain ⟨fq, rq⟩ := part_at z hp hg hc r l2 k
  obtain ⟨vs, fr, e1, e2⟩ := hs F2 H2 fq z2 rq
  refine fun i => ⟨fun x hx => ?_, fun hi => ⟨vs, e1, by rw [e2.length, hi]; exact Nat.le_refl _⟩⟩
  obtain ⟨v, g1, g2, g3⟩ := e2.nthP pu hx
  refine ⟨⟨vs, v, e1, g1⟩, fun y H3 hy => ?_⟩
  obtain ⟨rfl, hy⟩ := hy
  have := hy vs e1
  rw [g1] at this; cases this
  exact ⟨F2, z2.refl, g2, g3⟩
theorem pure_chars : ∀ s : List Char, pureL (s.map fun c => .str [c]) = true
  | [] => rfl
  | c :: s => by simp only [List.map_cons, pureL, D.pure, Bool.true_and]; exact pure_chars s
theorem wkj_str {s : List Char} {L : List (V × D)} : WkJ Γ (Its (sv s)) (s.map fun c => .str [c]) F H L := fun fp r F2 H2 l2 z2 k i => by
  have hsz : (sv s).cps.size = s.length := by show ((s.map Char.toNat).toArray).size = _; simp
  refine ⟨fun d hd => ?_, fun hi => by show (sv s).cps.size ≤ i; rw [hsz, hi]; simp⟩
  have hi : i < s.length := by
    have := (List.getElem?_eq_some_iff.mp hd).1
    simpa using this
  refine ⟨by show i < (sv s).cps.size; rw [hsz]; exact hi, fun x H3 hy => ?_⟩
  obtain ⟨rfl, c, hc, rfl⟩ := hy
  have e1 : (sv s).cps[i]? = some (s[i].toNat) := by
    show ((s.map Char.toNat).toArray)[i]? = _
    simp [hi]
  rw [e1] at hc; cases hc
  simp only [List.getElem?_map, List.getElem?_eq_getElem hi, Option.map_some, Option.some.injEq] at hd
  subst hd
  exact ⟨F2, z2.refl, .str [s[i]], rfl⟩
theorem rngL_len : ∀ (n : Nat) (lo : Int), (rngL lo n).length = n
  | 0, _ => rfl
  | n + 1, lo => by simp [rngL, rngL_len n]
theorem rngL_get : ∀ (n : Nat) (lo : Int) (i : Nat), i < n → (rngL lo n)[i]? = some (.int (lo + i))
  | 0, _, _, h => by omega
  | n + 1, lo, 0, _ => by simp [rngL]
  | n + 1, lo, i + 1, h => by
    simp only [rngL, List.getElem?_cons_succ, rngL_get n (lo + 1) i (by omega)]
    congr 2
    push_cast
    omega
theorem wkj_rng {lo : Int} {n : Nat} {L : List (V × D)} : WkJ Γ (Itr lo n) (rngL lo n) F H L := fun fp r F2 H2 l2 z2 k i => by
  refine ⟨fun d hd => ?_, fun hi => by show n ≤ i; rw [hi, rngL_len]; exact Nat.le_refl _⟩
  have hi : i < n := by
    have := (List.getElem?_eq_some_iff.mp hd).1
    rwa [rngL_len] at this
  refine ⟨hi, fun x H3 hy => ?_⟩
  obtain ⟨rfl, rfl⟩ := hy
  rw [rngL_get n lo i hi] at hd; cases hd
  exact ⟨F2, z2.refl, .int _, rfl⟩
end
section
variable {X : Cx} {Γ : Wd} {fld : String → Option String} {W : WX} {fa fb : Fr → Rs Rv} {fs : Fr → Rs (List Rv)} {tg a b e : Expr} {es : List Expr} {pos p : Pos}
/-- what is put aside for a walk of the value r -/
theorem walk_ok {B : Bd} {F H : Hp} {σ : L2.St} {af f1 f2 : Fr} {T : List (V × D)} {r : Rv} {v : V} {d : D} {xs : List D} {w : Wk} {q1 q2 : Bool} (h : PR Γ B σ F H af T r v) (e1 : r.view af = .ok d f2 q1) (e2 : walk2 r d xs f2 = .ok w f1 q2) :
    ∃ F' v0 t p, FLe F F' ∧ Sta Γ B F' H σ f1 ((v0, t) :: T) ∧ Pth Γ F' H v0 p v ∧ t.get p = some d ∧ (p = [] ∨ d.pure = false) ∧ (∃ fp, Rp Γ F' H v d fp) ∧ d.cpure = true ∧ xs = w.items ∧ ((q1 && q2) = true → w.done f1 = af) ∧
      ∀ B2 σ2 af2 F2 H2 T2, Sta Γ B2 F2 H2 σ2 af2 ((v0, t) :: T2) → (∀ x ∈ w.prot, σ2[x]? = σ[x]?) → Sta Γ B2 F2 H2 σ2 (w.done af2) T2 := by
  have dropDone : ∀ {xs : List D} {v0 : V} {t : D}, ∀ B2 σ2 af2 F2 H2 T2, Sta Γ B2 F2 H2 σ2 af2 ((v0, t) :: T2) → (∀ x ∈ Wk.prot ⟨xs, none⟩, σ2[x]? = σ[x]?) → Sta Γ B2 F2 H2 σ2 (Wk.done ⟨xs, none⟩ af2) T2 := fun B2 σ2 af2 F2 H2 T2 S2 _ => S2.drop
  cases r with
  | tmp d0 =>
    simp only [Rv.view] at e1
    simp only [walk2] at e2
    have S : Sta Γ B F H σ af ((v, d0) :: T) := h
    cases e2
    by_cases hc : d0.cpure = true
    · rw [if_pos hc] at e1; cases e1
      exact ⟨F, v, _, [], .refl _, S, .nil v, rfl, .inl rfl, S.rp, hc, rfl, fun _ => rfl, dropDone⟩
    · rw [if_neg hc] at e1
      by_cases hf : d0.frz.pure = true
      · rw [if_pos hf] at e1; cases e1
        obtain ⟨F', l, S'⟩ := S.freeze hf
        exact ⟨F', v, _, [], l, S', .nil v, rfl, .inl rfl, S'.rp, cpure_of hf, rfl, fun _ => rfl, dropDone⟩
      · rw [if_neg hf] at e1; cases e1
  | plc x p =>
    obtain ⟨S, hp⟩ := h
    simp only [Rv.view] at e1
    simp only [walk2] at e2
    cases hv : (Rv.plc x p).val af with
    | none => rw [hv] at e1; cases e1
    | some w0 =>
      rw [hv] at e1
      simp only at e1
      by_cases hw : (w0.pure && !p.isEmpty) = true
      · rw [if_pos hw] at e1; cases e1
      · rw [if_neg hw] at e1
        have hi : p = [] ∨ w0.pure = false := by
          cases p with
          | nil => exact .inl rfl
          | cons a b => right; simpa using hw
        by_cases hc : w0.cpure = true
        · rw [if_pos hc] at e1; cases e1
          cases hs : slot af x with
          | none => rw [hs] at e2; cases e2
          | some t =>
            rw [hs] at e2
            simp only at e2
            have hg : t.get p = some d := by simpa only [Rv.val, hs] using hv
            by_cases hd : d.pure = true
            · rw [if_pos hd] at e2; cases e2
              have hpe : p = [] := by
                rcases hi with h | h
                · exact h
                · rw [hd] at h; cases h
              subst hpe
              simp only [D.get, Option.some.injEq] at hg; subst hg
              obtain ⟨v0, ev, S'⟩ := S.copy hs hd
              obtain ⟨v1, ev1, pt⟩ := hp
              cases pt
              rw [ev] at ev1; cases ev1
              exact ⟨F, v, t, [], .refl _, S', .nil v, rfl, .inl rfl, S'.rp, hc, rfl, fun _ => rfl, dropDone⟩
            · rw [if_neg hd] at e2; cases e2
              have hd : d.pure = false := by simpa using hd
              obtain ⟨v0, ev, S'⟩ := S.hide hs
              obtain ⟨v1, ev1, pt⟩ := hp
              rw [ev] at ev1; cases ev1
              have hrp := S.at ⟨v0, ev, pt⟩ hv hi
              refine ⟨F, v0, t, p, .refl _, S', pt, hg, .inr hd, hrp, hc, rfl, fun _ => set_none_set hs, fun B2 σ2 af2 F2 H2 T2 S2 hk => ?_⟩
              have hk : σ2[x]? = some (some v0) := (hk x (by simp [Wk.prot])).trans ev
              exact S2.back (by rw [S2.len]; exact (List.getElem?_eq_some_iff.mp hk).1) hk
        · rw [if_neg hc] at e1
          have hw2 : w0.pure = false := by
            cases c : w0.pure with
            | false => rfl
            | true => exact absurd (cpure_of c) hc
          obtain ⟨F', l, S', r, pu, hq⟩ := S.freezeAt hp (.inr ⟨w0, hv, hw2⟩) e1
          cases hs : slot f2 x with
          | none => rw [hs] at e2; cases e2
          | some t =>
            rw [hs] at e2
            simp only at e2
            rw [if_pos pu] at e2; cases e2
            exact ⟨F', v, d, [], l, S'.addPure r pu, .nil v, rfl, .inl rfl, ⟨_, r⟩, cpure_of pu, rfl, fun h => by rw [hq] at h; simp at h, dropDone⟩
theorem walked_noex {r : Rv} {f : D → Option (List D)} {af af' : Fr} {c : String} {a : D} : walked r f af ≠ .ex c a af' := by
  intro e
  unfold walked at e
  have no2 : ∀ {d : D} {xs : List D} {f1 f2 : Fr}, walk2 r d xs f1 ≠ .ex c a f2 := fun {d xs f1 f2} e => by
    unfold walk2 at e
    (repeat' split at e) <;> cases e
  cases e1 : r.view af with
  | no => rw [e1] at e; cases e
  | ex _ _ _ => exact view_noex' e1
  | ok d f1 q1 =>
    rw [e1] at e
    simp only [Rs.bind] at e
    cases ef : f d with
    | none => rw [ef] at e; cases e
    | some xs =>
      rw [ef] at e
      simp only at e
      cases e2 : walk2 r d xs f1 with
      | ok w f2 q2 => rw [e2] at e; cases e
      | ex c' a' f2 =>
        rw [e2] at e
        cases e
        exact no2 e2
      | no => rw [e2] at e; cases e
theorem pi_eD (hK : Γ.K = X.K) (ha : PE X a (tE Γ fld W fa)) : PI X tg a (tI Γ fld W (fun fr => (fa fr).bind fun r fr => walked r iterV fr)) := by
  refine PI.imp (PI.or (pi_list ha) (PI.or (pi_tup ha) (pi_str ha))) fun σ H R h => ?_
  obtain ⟨B, F, T, af, S, h⟩ := h
  dsimp only at h
  cases ea : fa af with
  | no => rw [ea] at h; exact h.elim
  | ex c z f1 => rw [ea] at h; exact .inl ⟨B, F, T, af, S, by rw [ea]; exact h⟩
  | ok r f1 q1 =>
    rw [ea] at h
    have h1 : rG (fun w fr q' => okI Γ B F T af σ H R w fr (q1 && q')) (exW Γ fld W B σ T) (walked r iterV f1) := rG_bind (x := Rs.ok r f1 q1) h
    unfold walked at h1
    obtain ⟨d, f2, q2, e2, h2⟩ := rG_step h1 fun _ _ _ => view_noex'
    cases ef : iterV d with
    | none => rw [ef] at h2; exact h2.elim
    | some xs =>
      rw [ef] at h2
      simp only at h2
      cases e3 : walk2 r d xs f2 with
      | no => rw [e3] at h2; exact h2.elim
      | ex c z f3 => unfold walk2 at e3; (repeat' split at e3) <;> cases e3
      | ok w f3 q3 =>
        rw [e3] at h2
        have h2 : okI Γ B F T af σ H R w f3 (q1 && (q2 && q3)) := h2
        have core : ∀ (v : V) (H1 F1 : Hp), FLe F F1 → (q1 = true → f1 = af ∧ HLe H H1) → PR Γ B σ F1 H1 f1 T r v → ∃ F' v0 t p, Fz F' H1 ∧ Pth Γ F' H1 v0 p v ∧ t.get p = some d ∧ (p = [] ∨ d.pure = false) ∧ (∃ fp, Rp Γ F' H1 v d fp) ∧ d.cpure = true ∧ xs = w.items ∧ ∀ J, WkJ Γ J w.items F' H1 [(v0, t)] → R J H1 := fun v H1 F1 l1 k1 p1 => by
          obtain ⟨F', v0, t, p, l2, S2, pt, hg, hi, hrp, hc, hx, hq, hdone⟩ := walk_ok p1 e2 e3
          refine ⟨F', v0, t, p, S2.fz, pt, hg, hi, hrp, hc, hx, fun J hJ => h2 J H1 F' (l1.trans l2) (fun hq' => ?_) ⟨[(v0, t)], S2, hJ, hdone⟩⟩
          simp only [Bool.and_eq_true] at hq'
          obtain ⟨a1, a2⟩ := k1 hq'.1
          exact ⟨(hq (by simp only [Bool.and_eq_true]; exact hq'.2)).trans a1, a2⟩
        cases d <;> simp only [iterV, reduceCtorEq, Option.some.injEq] at ef
        · refine .inr (.inr ⟨B, F, T, af, S, by
            rw [ea]
            intro v H1 F1 l1 k1 p1
            obtain ⟨F', v0, t, p, z, pt, hg, hi, ⟨fp, hrp⟩, hc, rfl, fin⟩ := core v H1 F1 l1 k1 p1
            cases hrp
            refine ⟨_, rfl, fin _ ?_⟩
            rw [← ef]
            exact wkj_str⟩)
        · refine .inr (.inl ⟨B, F, T, af, S, by
            rw [ea]
            intro v H1 F1 l1 k1 p1
            obtain ⟨F', v0, t, p, z, pt, hg, hi, ⟨fp, hrp⟩, hc, rfl, fin⟩ := core v H1 F1 l1 k1 p1
            subst ef
            obtain ⟨a, vs, fq, rfl, q, r⟩ := hrp.tupS z
            exact ⟨a, rfl, ⟨vs, hK ▸ q⟩, fin _ (wkj_tup z pt hg hi (fun F2 H2 fp z2 r2 => by
              obtain ⟨a', vs', fq', e, q', r'⟩ := r2.tupS z2
              cases e
              exact ⟨vs', fq', hK ▸ q', r'⟩) hc)⟩⟩)
        · refine .inl ⟨B, F, T, af, S, by
            rw [ea]
            intro v H1 F1 l1 k1 p1
            obtain ⟨F', v0, t, p, z, pt, hg, hi, ⟨fp, hrp⟩, hc, rfl, fin⟩ := core v H1 F1 l1 k1 p1
            subst ef
            obtain ⟨a, vs, fq, rfl, q, r⟩ := hrp.lstS z
            exact ⟨a, rfl, ⟨vs, .of q⟩, fin _ (wkj_lst z pt hg hi (fun F2 H2 fp z2 r2 => by
              obtain ⟨a', vs', fq', e, q', r'⟩ := r2.lstS z2
              cases e
              exact ⟨vs', fq', .of q', r'⟩) hc)⟩⟩
        · refine .inr (.inl ⟨B, F, T, af, S, by
            rw [ea]
            intro v H1 F1 l1 k1 p1
            obtain ⟨F', v0, t, p, z, pt, hg, hi, ⟨fp, hrp⟩, hc, rfl, fin⟩ := core v H1 F1 l1 k1 p1
            subst ef
            obtain ⟨a, vs, fq, rfl, q, r⟩ := hrp.ktupS
            exact ⟨a, rfl, ⟨vs, hK ▸ q⟩, fin _ (wkj_tup z pt hg hi (fun F2 H2 fp z2 r2 => by
              obtain ⟨a', vs', fq', e, q', r'⟩ := r2.ktupS
              cases e
              exact ⟨vs', fq', hK ▸ q', r'⟩) hc)⟩⟩)
        · refine .inl ⟨B, F, T, af, S, by
            rw [ea]
            intro v H1 F1 l1 k1 p1
            obtain ⟨F', v0, t, p, z, pt, hg, hi, ⟨fp, hrp⟩, hc, rfl, fin⟩ := core v H1 F1 l1 k1 p1
            subst ef
            obtain ⟨a, vs, fq, rfl, q, r⟩ := hrp.scrS z
            exact ⟨a, rfl, ⟨vs, hK ▸ q⟩, fin _ (wkj_lst z pt hg hi (fun F2 H2 fp z2 r2 => by
              obtain ⟨a', vs', fq', e, q', r'⟩ := r2.scrS z2
              cases e
              exact ⟨vs', fq', hK ▸ q', r'⟩) hc)⟩⟩
end
end VI

end

section
/-! ViG2: range, zip, enumerate as walks. -/
namespace VI
open PySem L2 PyProof.Rows

section
variable {X : Cx} {Γ : Wd} {fld : String → Option String} {W : WX} {fa fb : Fr → Rs Rv} {fs : Fr → Rs (List Rv)} {tg a b e : Expr} {es : List Expr} {pos p tpos : Pos} {elts : List Expr} {kk : Nat}
/-- the reading of a range: ok over its bounds -/
theorem rng_core {σ : L2.St} {H : Hp} {R : It → Hp → Prop} {B : Bd} {F : Hp} {T : List (V × D)} {af : Fr} {rs : List Rv} {vs : List V} {H1 F1 : Hp} {f1 : Fr} {q1 : Bool} (l : FLe F F1) (k1 : q1 = true → f1 = af ∧ HLe H H1) (p : PRs Γ B σ F1 H1 f1 T rs vs)
    (h1 : rG (fun w fr q' => okI Γ B F T af σ H R w fr (q1 && q')) (exW Γ fld W B σ T) ((owns rs f1).bind fun ds fr => match rngV ds with
      | some xs => Rs.ok (⟨xs, none⟩ : Wk) fr true
      | none => .no)) :
    ∃ ds xs, rngV ds = some xs ∧ ds.length = vs.length ∧ (∀ (i : Nat) (v : V) (d : D), vs[i]? = some v → ds[i]? = some d → ∃ F2 fp, Rp Γ F2 H1 v d fp) ∧ ∀ J, (∀ F H, WkJ Γ J xs F H []) → R J H1 := by
  obtain ⟨ds, f2, q2, e2, h2⟩ := rG_step h1 fun _ _ _ => owns_noex'
  obtain ⟨F2, l2, S2, n2, k2⟩ := own_all p e2
  cases er : rngV ds with
  | none => rw [er] at h2; exact h2.elim
  | some xs =>
    rw [er] at h2
    have h2 : okI Γ B F T af σ H R ⟨xs, none⟩ f2 (q1 && (q2 && true)) := h2
    refine ⟨ds, xs, er, n2, fun i v d hv hd => ?_, fun J hJ => h2 J H1 F2 (l.trans l2) (fun hq => ?_) ⟨[], S2.dropL, hJ F2 H1, fun B2 σ2 af2 F3 H3 T2 S3 _ => S3⟩⟩
    · obtain ⟨fp, r, _, _⟩ := S2.own.perm (show (coll σ f2 ++ (vs.zip ds ++ T)).Perm (vs.zip ds ++ (coll σ f2 ++ T)) by
        rw [← List.append_assoc, ← List.append_assoc]
        exact List.perm_append_comm.append_right _)
      rw [List.map_append, List.map_append (l₁ := vs.zip ds) (f := fun x => x.2), zip_fst n2, zip_snd n2] at r
      obtain ⟨v1, v2, g1, g2, ea, _, h3, _⟩ := r.split
      have e3 := List.append_inj ea (by rw [h3.length, n2])
      rw [← e3.1] at h3
      obtain ⟨w, fe, c1, c2⟩ := h3.nth hd
      rw [hv] at c1; cases c1
      exact ⟨F2, fe, c2⟩
    · simp only [Bool.and_eq_true, and_true] at hq
      obtain ⟨a1, a2⟩ := k1 hq.1
      exact ⟨(show f2 = af by rw [k2 hq.2, a1]), a2⟩
theorem pi_rng1D (hn : ∀ fr rs fr' q, fs fr = .ok rs fr' q → rs.length = 1) (hg : Gl X "range") (hm : X.mg "range" = none) (ha : PA X [a] (tA Γ fld W fs)) (hs : starEach [a] X.env = [(false, eval a X.env)]) :
    PI X tg (.Call (.Name "range" p) [a] [] pos) (tI Γ fld W (fun fr => (fs fr).bind fun rs fr => (owns rs fr).bind fun ds fr => match rngV ds with
    | some xs => .ok ⟨xs, none⟩ fr true
    | none => .no)) := by
  refine PI.imp (pi_range1 hg hm ha hs) fun σ H R h => ?_
  obtain ⟨B, F, T, af, S, h⟩ := h
  refine tA_step S h (fun _ _ _ h => h) fun rs f1 q1 e1 h1 vs H1 F1 l k1 p => ?_
  have pl := PRs.len p.2
  have hl := hn _ _ _ _ e1
  obtain ⟨ds, xs, er, n2, hv, fin⟩ := rng_core l k1 p h1
  match vs, ds, n2, pl.symm.trans hl with
  | [v], [d], _, _ =>
    simp only [rngV] at er
    split at er
    · rename_i n heq
      cases heq
      split at er
      · rename_i ho
        cases er
        obtain ⟨F2, fp, r⟩ := hv 0 v _ rfl rfl
        cases r
        unfold rngOk at ho
        simp only [Bool.and_eq_true, decide_eq_true_eq] at ho
        exact ⟨n, rfl, ho.1, ho.2, fin _ fun F H => wkj_rng⟩
      · cases er
    · rename_i heq; cases heq
    · cases er
theorem pi_rng2D (hn : ∀ fr rs fr' q, fs fr = .ok rs fr' q → rs.length = 2) (hg : Gl X "range") (hm : X.mg "range" = none) (ha : PA X [a, b] (tA Γ fld W fs)) (hs : starEach [a, b] X.env = [(false, eval a X.env), (false, eval b X.env)]) (hs2 : starEach [b] X.env = [(false, eval b X.env)]) :
    PI X tg (.Call (.Name "range" p) [a, b] [] pos) (tI Γ fld W (fun fr => (fs fr).bind fun rs fr => (owns rs fr).bind fun ds fr => match rngV ds with
    | some xs => .ok ⟨xs, none⟩ fr true
    | none => .no)) := by
  refine PI.imp (pi_range2 hg hm ha hs hs2) fun σ H R h => ?_
  obtain ⟨B, F, T, af, S, h⟩ := h
  refine tA_step S h (fun _ _ _ h => h) fun rs f1 q1 e1 h1 vs H1 F1 l k1 p => ?_
  have pl := PRs.len p.2
  have hl := hn _ _ _ _ e1
  obtain ⟨ds, xs, er, n2, hv, fin⟩ := rng_core l k1 p h1
  match vs, ds, n2, pl.symm.trans hl with
  | [v, w], [d, d2], _, _ =>
    simp only [rngV] at er
    split at er
    · rename_i heq; cases heq
    · rename_i i j heq
      cases heq
      split at er
      · rename_i ho
        cases er
        obtain ⟨F2, fp, r⟩ := hv 0 v _ rfl rfl
        obtain ⟨F3, fp3, r3⟩ := hv 1 w _ rfl rfl
        cases r; cases r3
        unfold rngOk at ho
        simp only [Bool.and_eq_true, decide_eq_true_eq] at ho
        exact ⟨i, j, rfl, ⟨ho.1.1, ho.1.2, ho.2.1, ho.2.2⟩, fin _ fun F H => wkj_rng⟩
      · cases er
    · cases er
theorem zipL_get : ∀ {xs ys : List D} {i : Nat} {d : D}, (zipL xs ys)[i]? = some d → ∃ x y, xs[i]? = some x ∧ ys[i]? = some y ∧ d = .tup [x, y]
  | [], _, _, _, h => by simp [zipL] at h
  | _ :: _, [], _, _, h => by simp [zipL] at h
  | x :: xs, y :: ys, 0, d, h => by simp [zipL] at h; exact ⟨x, y, rfl, rfl, h.symm⟩
  | x :: xs, y :: ys, i + 1, d, h => by
    simp only [zipL, List.getElem?_cons_succ] at h
    obtain ⟨u, v, a, b, c⟩ := zipL_get h
    exact ⟨u, v, by simpa using a, by simpa using b, c⟩
theorem zipL_len : ∀ (xs ys : List D), (zipL xs ys).length = min xs.length ys.length
  | [], _ => by simp [zipL]
  | _ :: _, [] => by simp [zipL]
  | x :: xs, y :: ys => by simp [zipL, zipL_len xs ys]
theorem pair_new {F H : Hp} (z : Fz F H) {T : Addr} {x y : V} {dx dy : D} (hT : H T = none) (rx : Rp Γ F H x dx []) (ry : Rp Γ F H y dy []) (px : dx.pure = true) (py : dy.pure = true) : ∃ F3, Alloc F H F3 (upd H T (.tup [x, y])) ∧ Rp Γ F3 (upd H T (.tup [x, y])) (.ref T) (.tup [dx, dy]) [] ∧ (D.tup [dx, dy]).pure = true := by
  have A := alloc_tup (vs := [x, y]) z hT
  refine ⟨_, A, .tup upd_same (.cons (fp := []) (fq := []) (rx.any A.le.k px) (.cons (fp := []) (fq := []) (ry.any A.le.k py) .nil)), ?_⟩
  simp [D.pure, pureL, px, py]
theorem wkj_zip {K : PySem.W.Frag} {F H : Hp} {a b : Addr} {x y : D} {xs ys : List D} (hx : ∀ F2 H2 fp, Fz F2 H2 → Rp Γ F2 H2 (.ref a) x fp → ∃ vs fq, SqL K H2 a vs ∧ RpL Γ F2 H2 vs xs fq) (hy : ∀ F2 H2 fp, Fz F2 H2 → Rp Γ F2 H2 (.ref b) y fp → ∃ vs fq, SqL K H2 b vs ∧ RpL Γ F2 H2 vs ys fq)
    (px : pureL xs = true) (py : pureL ys = true) : WkJ Γ (Itz K a b) (zipL xs ys) F H [(.ref a, x), (.ref b, y)] := fun fp r F2 H2 l2 z2 k i => by
  have r2 := r.mono l2.k k
  cases r2 with
  | cons r3 t =>
    cases t with
    | cons r4 t =>
      obtain ⟨vs, f1, e1, e2⟩ := hx F2 H2 _ z2 r3
      obtain ⟨ws, f2, e3, e4⟩ := hy F2 H2 _ z2 r4
      refine ⟨fun d hd => ?_, fun hi => ⟨vs, ws, e1, e3, ?_⟩⟩
      · obtain ⟨dx, dy, g1, g2, rfl⟩ := zipL_get hd
        obtain ⟨u, u1, u2, u3⟩ := e2.nthP px g1
        obtain ⟨v, v1, v2, v3⟩ := e4.nthP py g2
        refine ⟨⟨vs, ws, u, v, e1, e3, u1, v1⟩, fun z H3 hz => ?_⟩
        obtain ⟨T, x', y', rfl, hT, rfl, c1, c2⟩ := hz
        have c1 := c1 vs e1
        have c2 := c2 ws e3
        rw [u1] at c1; cases c1
        rw [v1] at c2; cases c2
        exact pair_new z2 hT u2 v2 u3 v3
      · rw [zipL_len] at hi
        rw [e2.length, e4.length]
        omega
theorem wkj_zipT {K : PySem.W.Frag} {F H : Hp} {a b : Addr} {x y : D} {xs ys : List D} (hx : ∀ F2 H2 fp, Fz F2 H2 → Rp Γ F2 H2 (.ref a) x fp → ∃ vs fq, SqT K H2 a vs ∧ RpL Γ F2 H2 vs xs fq) (hy : ∀ F2 H2 fp, Fz F2 H2 → Rp Γ F2 H2 (.ref b) y fp → ∃ vs fq, SqT K H2 b vs ∧ RpL Γ F2 H2 vs ys fq)
    (px : pureL xs = true) (py : pureL ys = true) : WkJ Γ (RZ.ItzT K a b) (zipL xs ys) F H [(.ref a, x), (.ref b, y)] := fun fp r F2 H2 l2 z2 k i => by
  have r2 := r.mono l2.k k
  cases r2 with
  | cons r3 t =>
    cases t with
    | cons r4 t =>
      obtain ⟨vs, f1, e1, e2⟩ := hx F2 H2 _ z2 r3
      obtain ⟨ws, f2, e3, e4⟩ := hy F2 H2 _ z2 r4
      refine ⟨fun d hd => ?_, fun hi => ⟨vs, ws, e1, e3, ?_⟩⟩
      · obtain ⟨dx, dy, g1, g2, rfl⟩ := zipL_get hd
        obtain ⟨u, u1, u2, u3⟩ := e2.nthP px g1
        obtain ⟨v, v1, v2, v3⟩ := e4.nthP py g2
        refine ⟨⟨vs, ws, u, v, e1, e3, u1, v1⟩, fun z H3 hz => ?_⟩
        obtain ⟨T, x', y', rfl, hT, rfl, c1, c2⟩ := hz
        have c1 := c1 vs e1
        have c2 := c2 ws e3
        rw [u1] at c1; cases c1
        rw [v1] at c2; cases c2
        exact pair_new z2 hT u2 v2 u3 v3
      · rw [zipL_len] at hi
        rw [e2.length, e4.length]
        omega
end
end VI

end

section
/-! ViH: targets; comprehensions. -/
namespace VI
open PySem L2 PyProof.Rows

mutual
def slotsT : T → List Nat
  | .n i => [i]
  | .t ts => slotsTs ts
def slotsTs : Ts → List Nat
  | .nil => []
  | .cons t ts => slotsT t ++ slotsTs ts
end
/-- only these slots have changed -/
def Chg (is : List Nat) (σ σ' : L2.St) : Prop := σ'.length = σ.length ∧ ∀ i, i ∉ is → σ'[i]? = σ[i]?
theorem Chg.refl {is : List Nat} (σ : L2.St) : Chg is σ σ := ⟨rfl, fun _ _ => rfl⟩
theorem Chg.trans {is js : List Nat} {σ σ' σ2 : L2.St} (h : Chg is σ σ') (h' : Chg js σ' σ2) : Chg (is ++ js) σ σ2 := ⟨h'.1.trans h.1, fun i m => by
  rw [List.mem_append, not_or] at m
  exact (h'.2 i m.2).trans (h.2 i m.1)⟩
section
variable {Γ : Wd} {fld : String → Option String} {W : WX} {B : Bd} {F F' H H' : Hp} {σ : L2.St} {af af' : Fr} {T T' : List (V × D)}
def tG (Γ : Wd) (prot : List Nat) (tg : VI.T) : TG := fun v σ H Q => ∃ B F T af d, Sta Γ B F H σ af ((v, d) :: T) ∧ match setT prot tg d af with
  | some af' => ∀ σ', Chg (slotsT tg) σ σ' → (∀ i ∈ prot, σ'[i]? = σ[i]?) → Sta Γ B F H σ' af' T → Q σ' H
  | none => False
def tGs (Γ : Wd) (prot : List Nat) (tg : Ts) : TGs := fun vs σ H Q => ∃ B F T af ds, Sta Γ B F H σ af (vs.zip ds ++ T) ∧ ds.length = vs.length ∧ match setTs prot tg ds af with
  | some af' => ∀ σ', Chg (slotsTs tg) σ σ' → (∀ i ∈ prot, σ'[i]? = σ[i]?) → Sta Γ B F H σ' af' T → Q σ' H
  | none => False
/-- a tuple's parts -/
theorem Sta.parts {v : V} {d : D} {xs : List D} (S : Sta Γ B F H σ af ((v, d) :: T)) (hd : d = .tup xs ∨ d = .ktup xs) : ∃ a vs, v = .ref a ∧ SqT Γ.K H a vs ∧ xs.length = vs.length ∧ Sta Γ B F H σ af (vs.zip xs ++ T) := by
  obtain ⟨f0, r0, n0, q0⟩ := S.own.perm (List.perm_middle)
  cases r0 with
  | @cons _ _ f1 _ _ f2 r1 r2 =>
    have core : ∀ {a : Addr} {vs : List V} {g : List Addr}, g = f1 → SqT Γ.K H a vs → RpL Γ F H vs xs g → v = .ref a → ∃ a vs, v = .ref a ∧ SqT Γ.K H a vs ∧ xs.length = vs.length ∧ Sta Γ B F H σ af (vs.zip xs ++ T) := fun {a vs g} eg h r ev => by
      subst eg
      have l : xs.length = vs.length := r.length.symm
      refine ⟨a, vs, ev, h, l, { S.drop with own := Own.perm (L := vs.zip xs ++ (coll σ af ++ T)) ⟨g ++ f2, ?_, n0, q0⟩ ?_ }⟩
      · rw [List.map_append, List.map_append (l₁ := vs.zip xs) (f := fun x => x.2), zip_fst l, zip_snd l]
        exact r.append r2
      · rw [← List.append_assoc, ← List.append_assoc]
        exact List.perm_append_comm.append_right _
    rcases hd with rfl | rfl
    · cases r1 with
      | tup e r => exact core rfl (.inl (.inl (S.sub _ _ e))) r rfl
    · cases r1 with
      | ktup e r p => exact core rfl (.inr e) r rfl
end
section
variable {X : Cx} {Γ : Wd} {prot : List Nat} {i : Nat} {x : Str} {pos : Pos} {e : Expr} {es : List Expr} {t : VI.T} {ts : Ts} {kk : Nat}
theorem PG_imp {g g' : TG} (h : PG X e g) (k : ∀ v σ H Q, g' v σ H Q → g v σ H Q) : PG X e g' := ⟨fun pins s σ H v u Q I r q => h.run pins s σ H v u Q I r (k _ _ _ _ q)⟩
theorem PGs_imp {g g' : TGs} (h : PGs X es g) (k : ∀ v σ H Q, g' v σ H Q → g v σ H Q) : PGs X es g' := ⟨fun pins s σ H v u Q I r q => h.run pins s σ H v u Q I r (k _ _ _ _ q)⟩
theorem pg_nD (hN : X.N.Nodup) (hi : X.N[i]? = some x) (hx : Loc X.env.scope x) (hf : X.fn x = true ∨ X.env.scope.names.lookup x = some .local) : PG X (.Name x pos) (tG Γ prot (.n i)) :=
  PG_imp (pg_name hN hi hx hf) fun v σ H Q h => by
    obtain ⟨B, F, T, af, d, S, h⟩ := h
    simp only [setT] at h
    by_cases hc : (decide (i < af.length) && !prot.contains i) = true
    · rw [if_pos hc] at h
      simp only [Bool.and_eq_true, decide_eq_true_eq, Bool.not_eq_true', List.contains_eq_mem, decide_eq_false_iff_not] at hc
      refine h _ ⟨by simp, fun j hj => ?_⟩ (fun j hj => ?_) (S.store hc.1)
      · simp only [slotsT, List.mem_singleton] at hj
        rw [List.getElem?_set_ne (Ne.symm hj)]
      · rw [List.getElem?_set_ne (fun e => by subst e; exact hc.2 hj)]
    · rw [if_neg hc] at h; exact h.elim
theorem pgs_nilD : PGs X [] (tGs Γ prot .nil) := PGs_imp pgs_nil fun vs σ H Q h => by
  obtain ⟨B, F, T, af, ds, S, l, h⟩ := h
  cases ds with
  | nil =>
    have : vs = [] := by simpa using l.symm
    subst this
    exact ⟨rfl, h σ (.refl _) (fun _ _ => rfl) S⟩
  | cons d ds => exact h.elim
theorem pgs_consD (h1 : PG X e (tG Γ prot t)) (h2 : PGs X es (tGs Γ prot ts)) (hs : (assignEach (e :: es) X.env).map (·.2) = assign e X.env :: (assignEach es X.env).map (·.2)) : PGs X (e :: es) (tGs Γ prot (.cons t ts)) := PGs_imp (pgs_cons h1 h2 hs) fun vs σ H Q h => by
  obtain ⟨B, F, T, af, ds, S, l, h⟩ := h
  cases ds with
  | nil => exact h.elim
  | cons d ds =>
    match vs, l with
    | v :: vs, l =>
      simp only [setTs] at h
      cases e1 : setT prot t d af with
      | none => rw [e1] at h; exact h.elim
      | some af1 =>
        rw [e1] at h
        simp only at h
        refine ⟨v, vs, rfl, B, F, vs.zip ds ++ T, af, d, S, ?_⟩
        rw [e1]
        intro σ1 c1 k1 S1
        refine ⟨B, F, T, af1, ds, S1, by simpa using l, ?_⟩
        cases e2 : setTs prot ts ds af1 with
        | none => rw [e2] at h; exact h.elim
        | some af2 =>
          rw [e2] at h
          exact fun σ2 c2 k2 S2 => h σ2 (c1.trans c2) (fun i m => (k2 i m).trans (k1 i m)) S2
theorem setTs_len {prot : List Nat} : ∀ {ts : Ts} {ds : List D} {af af' : Fr}, setTs prot ts ds af = some af' → ∀ {es : List Expr} {g : List Nat}, True := fun _ => trivial
def lenTs : Ts → Nat
  | .nil => 0
  | .cons _ ts => lenTs ts + 1
theorem setTs_length : ∀ {ts : Ts} {ds : List D} {af af' : Fr}, setTs prot ts ds af = some af' → ds.length = lenTs ts
  | .nil, [], _, _, _ => rfl
  | .nil, _ :: _, _, _, h => by simp [setTs] at h
  | .cons _ _, [], _, _, h => by simp [setTs] at h
  | .cons t ts, d :: ds, af, af', h => by
    simp only [setTs] at h
    cases e1 : setT prot t d af with
    | none => rw [e1] at h; cases h
    | some af1 =>
      rw [e1] at h
      simp only [List.length_cons, lenTs, setTs_length h]
theorem pg_tD (hK : Γ.K = X.K) (hc : X.calm = true) (h : PGs X es (tGs Γ prot ts)) (hn : (assignEach es X.env).length = lenTs ts) (hst : (assignEach es X.env).findIdx? (·.1) = none) : PG X (.Tuple es kk pos) (tG Γ prot (.t ts)) :=
  PG_imp (pg_tup hc h hn hst) fun v σ H Q h => by
    obtain ⟨B, F, T, af, d, S, h⟩ := h
    have core : ∀ xs, (d = .tup xs ∨ d = .ktup xs) → (match setTs prot ts xs af with
        | some af' => ∀ σ', Chg (slotsTs ts) σ σ' → (∀ i ∈ prot, σ'[i]? = σ[i]?) → Sta Γ B F H σ' af' T → Q σ' H
        | none => False) → gTup X.K (lenTs ts) (tGs Γ prot ts) v σ H Q := fun xs hd h => by
      obtain ⟨a, vs, rfl, hq, hl, S'⟩ := S.parts hd
      refine ⟨a, vs, rfl, hK ▸ hq, ?_, B, F, T, af, xs, S', hl, h⟩
      cases e : setTs prot ts xs af with
      | none => rw [e] at h; exact h.elim
      | some af' => rw [← hl]; exact setTs_length e
    cases d <;> simp only [setT] at h
    case tup xs => exact core xs (.inl rfl) h
    case ktup xs => exact core xs (.inr rfl) h
    all_goals exact h.elim
end
/-! ### slots hidden and back -/
section
variable {Γ : Wd} {fld : String → Option String} {W : WX} {B : Bd} {F F' H H' : Hp} {σ : L2.St} {af af' : Fr} {T T' : List (V × D)}
theorem hideAll_len (g : Fr) : ∀ own : List Nat, (hideAll g own).length = g.length
  | [] => rfl
  | i :: is => by simp [hideAll, hideAll_len g is]
theorem backAll_len (o g : Fr) : ∀ own : List Nat, (backAll o g own).length = g.length
  | [] => rfl
  | i :: is => by simp [backAll, backAll_len o g is]
theorem hideAll_out {g : Fr} {i : Nat} : ∀ {own : List Nat}, i ∉ own → (hideAll g own)[i]? = g[i]?
  | [], _ => rfl
  | j :: js, h => by
    simp only [List.mem_cons, not_or] at h
    rw [hideAll, List.getElem?_set_ne (Ne.symm h.1)]
    exact hideAll_out h.2
theorem hideAll_in {g : Fr} {i : Nat} : ∀ {own : List Nat}, i ∈ own → ∀ d, (hideAll g own)[i]? ≠ some (some d)
  | j :: js, h, d, e => by
    rw [hideAll] at e
    by_cases hj : j = i
    · subst hj
      by_cases hl : j < (hideAll g js).length
      · rw [List.getElem?_set_self hl] at e; cases e
      · rw [List.getElem?_eq_none (by simpa using hl)] at e; cases e
    · rw [List.getElem?_set_ne hj] at e
      exact hideAll_in (by simpa [Ne.symm hj] using h) d e
theorem hideAll_set {g : Fr} {v : Nat} : ∀ own : List Nat, (hideAll g own).set v none = hideAll (g.set v none) own
  | [] => rfl
  | i :: is => by
    rw [hideAll, hideAll, ← hideAll_set is]
    by_cases h : i = v
    · subst h; rfl
    · rw [List.set_comm _ _ h]
theorem coll_wipe : ∀ (own : List Nat) (g : Fr), coll (wipe σ own) (hideAll g own) = coll σ (hideAll g own)
  | [], _ => rfl
  | v :: vs, g => by
    rw [wipe, hideAll, coll_off, hideAll_set, coll_wipe vs]
theorem Sta.toWipe {own : List Nat} {g : Fr} (S : Sta Γ B F H σ (hideAll g own) T) : Sta Γ B F H (wipe σ own) (hideAll g own) T := by
  refine ⟨S.sub, S.tup, by rw [S.len, wipe_length], fun i d h => ?_, by rw [coll_wipe]; exact S.own, S.mod, S.mono, S.frF, S.tabs, S.mt, S.nt⟩
  have hi : i ∉ own := fun m => hideAll_in m d h
  rw [wipe_out hi]; exact S.bnd i d h
theorem Sta.ofWipe {own : List Nat} {g : Fr} (S : Sta Γ B F H (wipe σ own) (hideAll g own) T) : Sta Γ B F H σ (hideAll g own) T := by
  refine ⟨S.sub, S.tup, by rw [S.len, wipe_length], fun i d h => ?_, by rw [← coll_wipe]; exact S.own, S.mod, S.mono, S.frF, S.tabs, S.mt, S.nt⟩
  have hi : i ∉ own := fun m => hideAll_in m d h
  have := S.bnd i d h
  rw [wipe_out hi] at this; exact this
theorem Sta.forgetAll (S : Sta Γ B F H σ af T) : ∀ own : List Nat, Sta Γ B F H σ (hideAll af own) T
  | [] => S
  | i :: is => (Sta.forgetAll S is).forget i
/-- hidden, to come back -/
theorem Sta.hideAll (S : Sta Γ B F H σ af T) : ∀ (own : List Nat), own.Nodup → ∃ L, Sta Γ B F H σ (VI.hideAll af own) (L ++ T) ∧
    ∀ B2 F2 H2 af2 T2, Sta Γ B2 F2 H2 σ af2 (L ++ T2) → Sta Γ B2 F2 H2 σ (backAll af af2 own) T2
  | [], _ => ⟨[], S, fun _ _ _ _ _ S2 => S2⟩
  | i :: is, nd => by
    rw [List.nodup_cons] at nd
    obtain ⟨L, S1, k⟩ := Sta.hideAll S is nd.2
    cases e : slot af i with
    | none =>
      refine ⟨L, S1.forget i, fun B2 F2 H2 af2 T2 S2 => ?_⟩
      rw [backAll, e]
      exact (k B2 F2 H2 af2 T2 S2).forget i
    | some d =>
      have e1 : slot (VI.hideAll af is) i = some d := by
        rw [slot_iff, hideAll_out nd.1]; exact slot_iff.mp e
      obtain ⟨v, hv, S3⟩ := S1.hide e1
      refine ⟨(v, d) :: L, S3, fun B2 F2 H2 af2 T2 S2 => ?_⟩
      rw [backAll, e]
      have S4 := k B2 F2 H2 af2 ((v, d) :: T2) (S2.perm List.perm_middle.symm)
      exact S4.back (by rw [S4.len]; exact (List.getElem?_eq_some_iff.mp hv).1) hv
theorem backAll_out {o g : Fr} {i : Nat} : ∀ {own : List Nat}, i ∉ own → (backAll o g own)[i]? = g[i]?
  | [], _ => rfl
  | j :: js, h => by
    simp only [List.mem_cons, not_or] at h
    rw [backAll, List.getElem?_set_ne (Ne.symm h.1)]
    exact backAll_out h.2
theorem backAll_in {o g : Fr} {i : Nat} (hl : i < g.length) : ∀ {own : List Nat}, i ∈ own → (backAll o g own)[i]? = some (slot o i)
  | j :: js, h => by
    rw [backAll]
    by_cases hj : j = i
    · subst hj
      rw [List.getElem?_set_self (by rw [backAll_len]; exact hl)]
    · rw [List.getElem?_set_ne hj]
      exact backAll_in hl (by simpa [Ne.symm hj] using h)
theorem backAll_hide (own : List Nat) (g : Fr) : backAll g (VI.hideAll g own) own = g := by
  apply List.ext_getElem?
  intro i
  by_cases h : i ∈ own
  · by_cases hl : i < g.length
    · rw [backAll_in (by rw [hideAll_len]; exact hl) h]
      rw [List.getElem?_eq_getElem hl]
      unfold slot
      rw [List.getElem?_eq_getElem hl]
      cases g[i] <;> rfl
    · rw [List.getElem?_eq_none (by rw [backAll_len, hideAll_len]; omega), List.getElem?_eq_none (by omega)]
  · rw [backAll_out h, hideAll_out h]
end
end VI

end

section
/-! ViH2: list comprehensions. -/
namespace VI
open PySem L2 PyProof.Rows

abbrev W0 : WX := fun _ _ _ _ => False
section
variable {X : Cx} {Γ : Wd} {fld : String → Option String} {W : WX}
theorem rG_noEx {α : Type} {ok : α → Fr → Bool → Prop} {ex ex' : String → D → Fr → Prop} {x : Rs α} (h : rG ok ex (noEx x)) : rG ok ex' x := by
  cases x with
  | ok a fr q => exact h
  | ex c a fr => exact h.elim
  | no => exact h.elim
/-- one turn -/
def lcTurn (own : List Nat) (tg : VI.T) (fc : Fr → Rs Bool) (fe : Fr → Rs Rv) : D → Fr → Rs (Option D) := fun x fr' => match setT [] tg x (hideAll fr' own) with
  | some fr1 => (fc fr1).bind fun b fr2 => if b then (fe fr2).bind fun r fr3 => (r.own fr3).bind fun d fr4 => .ok (some d) (hideAll fr4 own) true else .ok none (hideAll fr2 own) true
  | none => .no
theorem wipe_in {τ : L2.St} {i : Nat} : ∀ {own : List Nat}, i ∈ own → (wipe τ own)[i]? = if i < τ.length then some none else none
  | v :: vs, h => by
    rw [wipe]
    by_cases hv : v = i
    · subst hv
      by_cases hl : v < τ.length
      · rw [List.getElem?_set_self (by rw [wipe_length]; exact hl), if_pos hl]
      · rw [List.getElem?_eq_none (by rw [List.length_set, wipe_length]; omega), if_neg hl]
    · rw [List.getElem?_set_ne hv]
      exact wipe_in (by simpa [Ne.symm hv] using h)
theorem chg_wipe {is own : List Nat} {σ σ2 : L2.St} (h : Chg is (wipe σ own) σ2) (hs : ∀ i ∈ is, i ∈ own) : wipe σ2 own = wipe σ own := by
  apply List.ext_getElem?
  intro i
  by_cases hi : i ∈ own
  · rw [wipe_in hi, wipe_in hi, h.1, wipe_length]
  · rw [wipe_out hi, h.2 i (fun m => hi (hs i m))]
theorem hideAll_val {g : Fr} {i : Nat} : ∀ {own : List Nat}, i ∈ own → (hideAll g own)[i]? = if i < g.length then some none else none
  | v :: vs, h => by
    rw [hideAll]
    by_cases hv : v = i
    · subst hv
      by_cases hl : v < g.length
      · rw [List.getElem?_set_self (by rw [hideAll_len]; exact hl), if_pos hl]
      · rw [List.getElem?_eq_none (by rw [List.length_set, hideAll_len]; omega), if_neg hl]
    · rw [List.getElem?_set_ne hv]
      exact hideAll_val (by simpa [Ne.symm hv] using h)
theorem hide_hide (g : Fr) (own : List Nat) : hideAll (hideAll g own) own = hideAll g own := by
  apply List.ext_getElem?
  intro i
  by_cases hi : i ∈ own
  · rw [hideAll_val hi, hideAll_val hi, hideAll_len]
  · rw [hideAll_out hi]
theorem lcLoop_step {turn : D → Fr → Rs (Option D)} {x : D} {xs : List D} {af : Fr} {ok : List D → Fr → Bool → Prop} {ex : String → D → Fr → Prop} (h : rG ok ex (lcLoop turn (x :: xs) af)) :
    rG (fun o fr q => rG (fun ds fr' q' => ok (o.toList ++ ds) fr' (q && q')) ex (lcLoop turn xs fr)) ex (turn x af) := by
  have h1 : rG ok ex ((turn x af).bind fun o fr => (lcLoop turn xs fr).bind fun ds fr => .ok (match o with
    | some d => d :: ds
    | none => ds) fr true) := h
  refine rG_mono (rG_bind h1) (fun o fr q e z => ?_) fun _ _ _ z => z
  refine rG_mono (rG_bind z) (fun ds fr' q' e z2 => ?_) fun _ _ _ z => z
  cases o with
  | none =>
    have z3 : ok ds fr' (q && (q' && true)) := z2
    rw [Bool.and_true] at z3; exact z3
  | some d =>
    have z3 : ok (d :: ds) fr' (q && (q' && true)) := z2
    rw [Bool.and_true] at z3; exact z3
theorem hide_setN {g : Fr} {i : Nat} {s : Option D} {own : List Nat} (h : i ∈ own) : hideAll (g.set i s) own = hideAll g own := by
  apply List.ext_getElem?
  intro j
  by_cases hj : j ∈ own
  · rw [hideAll_val hj, hideAll_val hj, List.length_set]
  · rw [hideAll_out hj, hideAll_out hj, List.getElem?_set_ne (fun e => by subst e; exact hj h)]
mutual
theorem setT_hide {prot own : List Nat} : ∀ {tg : VI.T} {d : D} {af af' : Fr}, setT prot tg d af = some af' → (∀ i ∈ slotsT tg, i ∈ own) → hideAll af' own = hideAll af own
  | .n i, d, af, af', h, hs => by
    simp only [setT] at h
    split at h
    · cases h; exact hide_setN (hs i (by simp [slotsT]))
    · cases h
  | .t ts, d, af, af', h, hs => by
    cases d <;> simp only [setT, reduceCtorEq] at h
    · exact setTs_hide h hs
    · exact setTs_hide h hs
theorem setTs_hide {prot own : List Nat} : ∀ {tg : Ts} {ds : List D} {af af' : Fr}, setTs prot tg ds af = some af' → (∀ i ∈ slotsTs tg, i ∈ own) → hideAll af' own = hideAll af own
  | .nil, [], af, af', h, _ => by simp only [setTs, Option.some.injEq] at h; rw [h]
  | .nil, _ :: _, af, af', h, _ => by simp [setTs] at h
  | .cons _ _, [], af, af', h, _ => by simp [setTs] at h
  | .cons t ts, d :: ds, af, af', h, hs => by
    simp only [setTs] at h
    cases e : setT prot t d af with
    | none => rw [e] at h; cases h
    | some af1 =>
      rw [e] at h
      rw [setTs_hide h (fun i m => hs i (by simp [slotsTs, m])), setT_hide e (fun i m => hs i (by simp [slotsTs, m]))]
end
theorem lc_walk {σ : L2.St} {Q : VK} {J : It} {items : List D} {own : List Nat} {tg : VI.T} {fc : Fr → Rs Bool} {fe : Fr → Rs Rv} {B' : Bd} {F1 H1 : Hp} {T : List (V × D)} {fpL : List Addr} {f1 : Fr}
    (hJ : ∀ F2 H2, FLe F1 F2 → Fz F2 H2 → (∀ a ∈ fpL, H2 a = H1 a) → ∀ i, (∀ d, items[i]? = some d → J.go i H2 ∧ ∀ x H3, J.yld i H2 x H3 → ∃ F3, Alloc F2 H2 F3 H3 ∧ Rp Γ F3 H3 x d [] ∧ d.pure = true) ∧ (i = items.length → J.stop i H2))
    (hback : ∀ F2 H2 σ2 af2 T2, Sta Γ B' F2 H2 σ2 af2 T2 → FLe F1 F2 ∧ (∀ a ∈ fpL, H2 a = H1 a))
    (S : Sta Γ B' F1 H1 σ (hideAll f1 own) T) (hsl : ∀ i ∈ slotsT tg, i ∈ own)
    {fin : List D → Fr → Bool → Prop} (h : rG fin (fun _ _ _ => False) (lcLoop (lcTurn own tg fc fe) items (hideAll f1 own)))
    (hfin : ∀ ds g q (p : Addr) F2 H2, fin ds (hideAll g own) q → (q = true → hideAll g own = hideAll f1 own ∧ HLe H1 H2) → Sta Γ B' F2 H2 σ (hideAll g own) ((.ref p, .lst true ds) :: T) → Q (.ref p) H2) (hlen : ∀ ds fr q, fin ds fr q → ds.length ≤ line) :
    ∀ p, H1 p = none → ∃ W : Nat → Nat → Hp → Prop, (∃ m, W 0 m (upd H1 p (.lst []))) ∧ ∀ i m H, W i m H →
      (J.stop i H ∧ Q (.ref p) H) ∨ (J.go i H ∧ ∃ Nx : Hp → Prop, (∀ H', Nx H' → ∃ m', m' < m ∧ W (i + 1) m' H') ∧ ∀ x H', J.yld i H x H' → tG Γ [] tg x (wipe σ own) H' fun σ2 H2 => wipe σ2 own = wipe σ own ∧ tT Γ fld W0 fc σ2 H2 fun b H3 =>
        if b = true then tE Γ fld W0 fe σ2 H3 fun y H4 => ∃ acc, H4 p = some (.lst acc) ∧ acc.length < sizeLine ∧ Nx (upd H4 p (.lst (acc ++ [y]))) else Nx H3) := by
  intro p hp
  -- where a turn stands
  refine ⟨fun i m H => i ≤ items.length ∧ m = items.length - i ∧ ∃ F g acc q0, Sta Γ B' F H σ (hideAll g own) ((.ref p, .lst true acc) :: T) ∧ (q0 = true → hideAll g own = hideAll f1 own ∧ HLe H1 H) ∧
      rG (fun ds fr q => fin (acc ++ ds) fr (q0 && q)) (fun _ _ _ => False) (lcLoop (lcTurn own tg fc fe) (items.drop i) (hideAll g own)),
    ⟨items.length, Nat.zero_le _, rfl, F1, f1, [], true, S.new (alloc_lst (vs := []) S.fz hp) (.lstO (fp := []) upd_same .nil) (by simp) (fun a m => ?_), fun _ => ⟨rfl, (upd_grown hp).h⟩, ?_⟩, ?_⟩
  · rw [List.mem_singleton] at m; subst m; exact ⟨hp, none_sub S.fz hp⟩
  · exact rG_mono h (fun ds fr q _ z => by simpa using z) fun _ _ _ z => z
  rintro i m H2 ⟨hi, rfl, F2, g, acc, q0, S2, hq0, h2⟩
  obtain ⟨l2, k2⟩ := hback F2 H2 _ _ _ S2
  have hJ2 := hJ F2 H2 l2 S2.fz k2 i
  by_cases hlt : i < items.length
  · refine .inr ?_
    have ed : items.drop i = items[i] :: items.drop (i + 1) := List.drop_eq_getElem_cons hlt
    obtain ⟨hgo, hy⟩ := hJ2.1 items[i] (List.getElem?_eq_getElem hlt)
    rw [ed] at h2
    -- the turn of the evaluator
    have h4 := lcLoop_step h2
    refine ⟨hgo, _, fun H' hN => ⟨items.length - (i + 1), by omega, hN⟩, fun x H3 hyl => ?_⟩
    obtain ⟨F3, A3, r3, p3⟩ := hy x H3 hyl
    have S3 : Sta Γ B' F3 H3 (wipe σ own) (hideAll g own) ((x, items[i]) :: (.ref p, .lst true acc) :: T) := (S2.grown A3).toWipe.addPure r3 p3
    refine ⟨B', F3, (.ref p, .lst true acc) :: T, hideAll g own, items[i], S3, ?_⟩
    unfold lcTurn at h4
    rw [hide_hide] at h4
    cases es : setT [] tg items[i] (hideAll g own) with
    | none => rw [es] at h4; exact h4.elim
    | some fr1 =>
      rw [es] at h4
      simp only at h4
      intro σ2 c2 _ S4
      have hw := chg_wipe c2 hsl
      refine ⟨hw, ?_⟩
      have hs4 : hideAll fr1 own = hideAll g own := by rw [setT_hide es hsl, hide_hide]
      have h5 := rG_bind h4
      refine ⟨B', F3, _, fr1, S4, rG_mono h5 (fun b f2 qb eb h6 H4 F4 l4 k4 S5 => ?_) fun _ _ _ z => z.elim⟩
      cases b with
      | false =>
        rw [if_neg Bool.false_ne_true]
        rw [if_neg Bool.false_ne_true] at h6
        have h6 : rG _ _ (lcLoop (lcTurn own tg fc fe) (items.drop (i + 1)) (hideAll f2 own)) := h6
        have S6 : Sta Γ B' F4 H4 σ (hideAll f2 own) ((.ref p, .lst true acc) :: T) := by
          have := (S5.forgetAll own).toWipe
          rw [hw] at this
          exact this.ofWipe
        refine ⟨by omega, by omega, F4, f2, acc, q0 && qb, S6, fun hq => ?_, rG_mono h6 (fun ds fr q _ z => ?_) fun _ _ _ z => z⟩
        · simp only [Bool.and_eq_true] at hq
          obtain ⟨a1, a2⟩ := hq0 hq.1
          obtain ⟨b1, b2⟩ := k4 hq.2
          exact ⟨by rw [b1, hs4, a1], a2.trans (A3.same.h.trans b2)⟩
        · simpa [Bool.and_assoc] using z
      | true =>
        rw [if_pos rfl]
        rw [if_pos rfl] at h6
        have h7 := rG_bind h6
        refine ⟨B', F4, _, f2, S5, rG_mono h7 (fun r f3 qr er h8 y H5 F5 l5 k5 p5 => ?_) fun _ _ _ z => z.elim⟩
        obtain ⟨d, f4, q4, e4, h9⟩ := rG_step h8 fun _ _ _ => own_noex
        obtain ⟨F6, l6, S6, k6⟩ := own_one p5 e4
        have h9 : rG _ _ (lcLoop (lcTurn own tg fc fe) (items.drop (i + 1)) (hideAll f4 own)) := h9
        have S7 : Sta Γ B' F6 H5 σ2 f4 ((.ref p, .lst true acc) :: ([(y, d)] ++ T)) := S6.perm (.swap ..)
        obtain ⟨fp7, r7⟩ := S7.rp
        obtain ⟨a7, accV, fq7, ea, e7, rr7⟩ := r7.lstS S7.fz
        cases ea
        have S8 : Sta Γ B' F6 (upd H5 p (.lst (accV ++ [y]))) σ2 f4 ((.ref p, .lst true (acc ++ [d])) :: ([] ++ T)) := S7.writeT ⟨fun vs z => (by cases z), fun g1 gL r1 rL nd => by
          cases r1 with
          | @lstO _ ws _ g2 e8 r8 =>
            rw [e7] at e8; cases e8
            refine ⟨by simp, p :: (g2 ++ gL), [], [], by simp, .lstO upd_same ?_, .nil⟩
            have nd' := List.nodup_cons.mp nd
            refine (r8.append rL).mono (FLe.refl F6).k fun b m => upd_ne fun e => ?_
            subst e
            exact nd'.1 m⟩
        have S9 : Sta Γ B' F6 (upd H5 p (.lst (accV ++ [y]))) σ (hideAll f4 own) ((.ref p, .lst true (acc ++ [d])) :: T) := by
          have := (S8.forgetAll own).toWipe
          rw [hw] at this
          exact this.ofWipe
        have hq9 : (q0 && (qb && (qr && q4))) = true → hideAll f4 own = hideAll f1 own ∧ HLe H1 (upd H5 p (.lst (accV ++ [y]))) := fun hq => by
          simp only [Bool.and_eq_true] at hq
          obtain ⟨a1, a2⟩ := hq0 hq.1
          obtain ⟨b1, b2⟩ := k4 hq.2.1
          obtain ⟨c1, c2⟩ := k5 hq.2.2.1
          refine ⟨by rw [k6 hq.2.2.2, c1, b1, hs4, a1], fun b o hb nt => ?_⟩
          rw [upd_ne (ne_of_none hb hp)]
          exact c2 b o (b2 b o (A3.same b o (a2 b o hb nt)) nt) nt
        refine ⟨accV, e7, ?_, by omega, by omega, F6, f4, acc ++ [d], q0 && (qb && (qr && q4)), S9, hq9, rG_mono h9 (fun ds fr q _ z => ?_) fun _ _ _ z => z⟩
        · -- what comes in the end is longer
          rw [rr7.length, ← line_eq]
          cases el : lcLoop (lcTurn own tg fc fe) (items.drop (i + 1)) (hideAll f4 own) with
          | no => rw [el] at h9; exact h9.elim
          | ex c z fr => rw [el] at h9; exact h9.elim
          | ok ds fr q =>
            rw [el] at h9
            have := hlen _ _ _ h9
            simp only [List.length_append, Option.toList_some, List.length_cons, List.length_nil] at this
            omega
        · simpa [Bool.and_assoc] using z
  · refine .inl ⟨hJ2.2 (by omega), ?_⟩
    have e0 : items.drop i = [] := List.drop_eq_nil_of_le (by omega)
    rw [e0] at h2
    have h3 : fin (acc ++ []) (hideAll g own) (q0 && true) := h2
    rw [List.append_nil, Bool.and_true] at h3
    exact hfin acc g q0 p F2 H2 h3 hq0 S2
variable {fi : Fr → Rs Wk} {fc : Fr → Rs Bool} {fe : Fr → Rs Rv} {elt tgx iter : Expr} {ifs : List Expr} {scope : Scope} {own : List (Str × Nat)} {pos : Pos} {tg : VI.T}
theorem lc_read (hnd : (own.map (·.2)).Nodup) (hsl : ∀ i ∈ slotsT tg, i ∈ own.map (·.2)) {σ : L2.St} {H : Hp} {Q : VK} (h : tE Γ fld W (fun fr => (fi fr).bind fun w fr => (noEx (lcLoop (lcTurn (own.map (·.2)) tg fc fe) w.items (hideAll fr (own.map (·.2))))).bind fun ds fr' => if ds.length ≤ line then .ok (.tmp (.lst true ds)) (w.done (backAll fr fr' (own.map (·.2)))) true else .no) σ H Q) :
    tLc (tI Γ fld W fi) (tG Γ [] tg) (tT Γ fld W0 fc) (tE Γ fld W0 fe) (own.map (·.2)) σ H Q := by
  obtain ⟨B, F, T, af, S, h⟩ := h
  have h1 := rG_bind h
  refine ⟨B, F, T, af, S, rG_mono h1 (fun w f1 q1 e1 h2 J H1 F1 l1 k1 hW => ?_) fun _ _ _ z => z⟩
  obtain ⟨L, S1, hJ, hdone⟩ := hW
  obtain ⟨Lh, S2, hunhide⟩ := S1.hideAll (own.map (·.2)) hnd
  -- L and what was hidden are put aside
  have S3 : Sta Γ B F1 H1 σ (VI.hideAll f1 (own.map (·.2))) ((Lh ++ L) ++ T) := by rw [List.append_assoc]; exact S2
  obtain ⟨B', fp, rL, S4, hframe⟩ := S3.frame
  unfold vsOf dsOf at rL
  rw [List.map_append, List.map_append (l₁ := Lh) (f := fun x => x.2)] at rL
  obtain ⟨v1, v2, fpH, fpL, ev, rfl, hH, hL⟩ := rL.split
  have e2 := List.append_inj ev (by have := hH.length; simpa using this.symm)
  rw [← e2.2] at hL
  have h3 := rG_bind h2
  have h4 := rG_noEx (ex' := fun _ _ _ => False) h3
  refine lc_walk (fpL := fpL) (hJ fpL hL) (fun F2 H2 σ2 af2 T2 S5 => ?_) S4 hsl h4 (fun ds g q p F2 H2 hf hq S5 => ?_) (fun ds fr q hf => ?_)
  · obtain ⟨a1, a2, _⟩ := hframe F2 H2 σ2 af2 T2 S5
    exact ⟨a1, fun a m => a2 a (List.mem_append_right _ m)⟩
  · obtain ⟨a1, a2, S6⟩ := hframe _ _ _ _ _ S5
    by_cases hl : ds.length ≤ line
    · rw [if_pos hl] at hf
      have hf : okE Γ B F T af σ H Q (.tmp (.lst true ds)) (w.done (backAll f1 (VI.hideAll g (own.map (·.2))) (own.map (·.2)))) (q1 && (q && true)) := hf
      refine hf (.ref p) H2 F2 (l1.trans a1) (fun hq' => ?_) ?_
      · simp only [Bool.and_eq_true, and_true] at hq'
        obtain ⟨b1, b2⟩ := k1 hq'.1
        obtain ⟨c1, c2⟩ := hq hq'.2
        refine ⟨by rw [c1, backAll_hide, b1], b2.trans c2⟩
      · rw [List.append_assoc] at S6
        have S7 := hunhide _ _ _ _ _ S6
        exact hdone _ _ _ _ _ _ S7 fun _ _ => rfl
    · rw [if_neg hl] at hf; exact hf.elim
  · by_cases hl : ds.length ≤ line
    · exact hl
    · rw [if_neg hl] at hf; exact hf.elim
theorem pe_lcD (hc : X.calm = true) (hN : X.N.Nodup) (hi : PI X tgx iter (tI Γ fld W fi)) (ok : BlkOk X.N X.env.scope scope own)
    (hg : ∀ (s : Shared) (H : Hp) (C : Addr) (cl : List (Str × Addr)) (fp : List Addr), PG (X.blk s H scope (compEnvC scope cl C X.env) fp) tgx (tG Γ [] tg))
    (ht : ∀ (s : Shared) (H : Hp) (C : Addr) (cl : List (Str × Addr)) (fp : List Addr), PTs (X.blk s H scope (compEnvC scope cl C X.env) fp) ifs (tT Γ fld W0 fc))
    (he : ∀ (s : Shared) (H : Hp) (C : Addr) (cl : List (Str × Addr)) (fp : List Addr), PE (X.blk s H scope (compEnvC scope cl C X.env) fp) elt (tE Γ fld W0 fe)) (hs : ∀ x, foldedSetIterable iter X.env x = pure x)
    (hnd : (own.map (·.2)).Nodup) (hsl : ∀ i ∈ slotsT tg, i ∈ own.map (·.2)) :
    PE X (.ListComp elt [⟨tgx, iter, ifs, 0⟩] scope pos) (tE Γ fld W (fun fr => (fi fr).bind fun w fr => (noEx (lcLoop (lcTurn (own.map (·.2)) tg fc fe) w.items (hideAll fr (own.map (·.2))))).bind fun ds fr' => if ds.length ≤ line then .ok (.tmp (.lst true ds)) (w.done (backAll fr fr' (own.map (·.2)))) true else .no)) := (pe_lc hc hN hi ok hg ht he hs).imp fun σ H Q h => lc_read hnd hsl h
end
end VI

end

section
/-! ViI: statements. -/
namespace VI
open PySem L2 PyProof.Rows

def Kp (prot : List Nat) (σ σ' : L2.St) : Prop := ∀ i ∈ prot, σ'[i]? = σ[i]?
theorem Kp.refl {prot : List Nat} (σ : L2.St) : Kp prot σ σ := fun _ _ => rfl
theorem Kp.trans {prot : List Nat} {σ σ' σ2 : L2.St} (h : Kp prot σ σ') (h' : Kp prot σ' σ2) : Kp prot σ σ2 := fun i m => (h' i m).trans (h i m)
section
variable {Γ : Wd} {fld : String → Option String} {W : WX}
/-- what an end of a statement asks -/
def rF (Γ : Wd) (fld : String → Option String) (W : WX) (prot : List Nat) (B : Bd) (F : Hp) (T : List (V × D)) (σ : L2.St) (D' : Ends) : Fl → Prop
  | .nx af' => ∀ σ' H' F', Kp prot σ σ' → Sta Γ B F' H' σ' af' T → D'.nx σ' H'
  | .bk af' => ∀ σ' H' F', Kp prot σ σ' → Sta Γ B F' H' σ' af' T → D'.bk σ' H'
  | .ct af' => ∀ σ' H' F', Kp prot σ σ' → Sta Γ B F' H' σ' af' T → D'.ct σ' H'
  | .rt d af' => ∀ v σ' H' F', Kp prot σ σ' → Sta Γ B F' H' σ' af' ((v, d) :: T) → D'.rt v H'
  | .ex c a af' => ∀ σ', Kp prot σ σ' → exW Γ fld W B σ' T c a af'
  | .no => False
def tSt (Γ : Wd) (fld : String → Option String) (W : WX) (prot : List Nat) (f : Fr → Fl) : TS := fun D' σ H => ∃ B F T af, Sta Γ B F H σ af T ∧ rF Γ fld W prot B F T σ D' (f af)
theorem rF.at {prot : List Nat} {B : Bd} {F F1 : Hp} {T : List (V × D)} {σ σ1 : L2.St} {D' : Ends} {x : Fl} (h : rF Γ fld W prot B F T σ D' x) (k : Kp prot σ σ1) : rF Γ fld W prot B F1 T σ1 D' x := by
  cases x with
  | nx af => exact fun σ' H' F' k' S => h σ' H' F' (k.trans k') S
  | bk af => exact fun σ' H' F' k' S => h σ' H' F' (k.trans k') S
  | ct af => exact fun σ' H' F' k' S => h σ' H' F' (k.trans k') S
  | rt d af => exact fun v σ' H' F' k' S => h v σ' H' F' (k.trans k') S
  | ex c a af => exact fun σ' k' => h σ' (k.trans k')
  | no => exact h
/-- an expression ahead: .fl -/
theorem fl_step {α : Type} {prot : List Nat} {B : Bd} {F : Hp} {T : List (V × D)} {σ : L2.St} {D' : Ends} {x : Rs α} {g : α → Fr → Fl} (h : rF Γ fld W prot B F T σ D' (x.fl g)) : rG (fun a fr _ => rF Γ fld W prot B F T σ D' (g a fr)) (exW Γ fld W B σ T) x := by
  cases x with
  | ok a fr q => exact h
  | ex c a fr => exact h σ (Kp.refl σ)
  | no => exact h
section
variable {X : Cx} {prot : List Nat} {fs ft : Fr → Fl} {fe fa fi : Fr → Rs Rv} {fc : Fr → Rs Bool} {fl : Fr → Rs (List Rv)} {st : Stmt} {rest a b : List Stmt} {e c tgx : Expr} {pos pos' : Pos} {tg : VI.T} {i : Nat} {x : Str}
theorem pss_nilD : PSs X [] (tSt Γ fld W prot (fun fr => .nx fr)) := pss_nil.imp fun D' σ H h => by
  obtain ⟨B, F, T, af, S, h⟩ := h
  exact h σ H F (Kp.refl _) S
theorem pss_consD (h1 : PS X st (tSt Γ fld W prot fs)) (h2 : PSs X rest (tSt Γ fld W prot ft)) : PSs X (st :: rest) (tSt Γ fld W prot (fun fr => (fs fr).then ft)) := (pss_cons h1 h2).imp fun D' σ H h => by
  obtain ⟨B, F, T, af, S, h⟩ := h
  refine ⟨B, F, T, af, S, ?_⟩
  dsimp only at h
  cases ef : fs af with
  | nx af1 =>
    rw [ef] at h
    exact fun σ' H' F' k S' => ⟨B, F', T, af1, S', rF.at (F1 := F') h k⟩
  | bk af1 => rw [ef] at h; exact h
  | ct af1 => rw [ef] at h; exact h
  | rt d af1 => rw [ef] at h; exact h
  | ex c a af1 => rw [ef] at h; exact h
  | no => rw [ef] at h; exact h
theorem ps_neverD : PS X st (tSt Γ fld W prot (fun _ => .no)) := ps_never.imp fun D' σ H h => by
  obtain ⟨B, F, T, af, S, h⟩ := h
  exact h
theorem ps_passD : PS X (.Pass pos) (tSt Γ fld W prot (fun fr => .nx fr)) := ps_pass.imp fun D' σ H h => by
  obtain ⟨B, F, T, af, S, h⟩ := h
  exact h σ H F (Kp.refl _) S
theorem ps_brkD : PS X (.Break pos) (tSt Γ fld W prot (fun fr => .bk fr)) := ps_break.imp fun D' σ H h => by
  obtain ⟨B, F, T, af, S, h⟩ := h
  exact h σ H F (Kp.refl _) S
theorem ps_cntD : PS X (.Continue pos) (tSt Γ fld W prot (fun fr => .ct fr)) := ps_continue.imp fun D' σ H h => by
  obtain ⟨B, F, T, af, S, h⟩ := h
  exact h σ H F (Kp.refl _) S
theorem ps_exD (he : PE X e (tE Γ fld W fe)) (hs : swapsWith e none pos.line X.env = pure false) : PS X (.Expr e pos) (tSt Γ fld W prot (fun fr => (fe fr).fl fun _ fr => .nx fr)) := (ps_expr he hs).imp fun D' σ H h => by
  obtain ⟨B, F, T, af, S, h⟩ := h
  refine ⟨B, F, T, af, S, rG_mono (fl_step h) (fun r f1 q1 e1 h1 v H1 F1 l1 k1 p1 => ?_) fun _ _ _ z => z⟩
  exact h1 σ H1 F1 (Kp.refl _) p1.sta.dropL
theorem ps_retD (he : PE X e (tE Γ fld W fe)) : PS X (.Return (some e) pos) (tSt Γ fld W prot (fun fr => (fe fr).fl fun r fr => (r.own fr).fl fun d fr => .rt d fr)) := (ps_ret he).imp fun D' σ H h => by
  obtain ⟨B, F, T, af, S, h⟩ := h
  refine ⟨B, F, T, af, S, rG_mono (fl_step h) (fun r f1 q1 e1 h1 v H1 F1 l1 k1 p1 => ?_) fun _ _ _ z => z⟩
  have h2 := fl_step h1
  cases e2 : r.own f1 with
  | no => rw [e2] at h2; exact h2.elim
  | ex _ _ _ => exact (own_noex e2).elim
  | ok d f2 q2 =>
    rw [e2] at h2
    obtain ⟨F2, l2, S2, _⟩ := own_one p1 e2
    exact h2 v σ H1 F2 (Kp.refl _) S2
theorem ps_retnD : PS X (.Return none pos) (tSt Γ fld W prot (fun fr => .rt .non fr)) := ps_retN.imp fun D' σ H h => by
  obtain ⟨B, F, T, af, S, h⟩ := h
  exact h .non σ H F (Kp.refl _) (S.addPure .non rfl)
theorem ps_iffD (hc : PT X c (tT Γ fld W fc)) (ha : PSs X a (tSt Γ fld W prot fs)) (hb : PSs X b (tSt Γ fld W prot ft)) : PS X (.If c a b pos) (tSt Γ fld W prot (fun fr => (fc fr).fl fun k fr => if k then fs fr else ft fr)) := (ps_if hc ha hb).imp fun D' σ H h => by
  obtain ⟨B, F, T, af, S, h⟩ := h
  refine ⟨B, F, T, af, S, rG_mono (fl_step h) (fun k f1 q1 e1 h1 H1 F1 l1 k1 S1 => ?_) fun _ _ _ z => z⟩
  cases k with
  | true => rw [if_pos rfl]; exact ⟨B, F1, T, f1, S1, rF.at h1 (Kp.refl _)⟩
  | false => rw [if_neg Bool.false_ne_true]; exact ⟨B, F1, T, f1, S1, rF.at h1 (Kp.refl _)⟩
/-- a value goes to a target: the reading behind the expression -/
theorem asg_read {f : Fr → Rs Rv} {D' : Ends} {σ : L2.St} {H : Hp} (h : tSt Γ fld W prot (fun fr => (f fr).fl fun r fr => (r.own fr).fl fun d fr => match setT prot tg d fr with
    | some fr' => .nx fr'
    | none => .no) D' σ H) : tE Γ fld W f σ H fun x H1 => tG Γ prot tg x σ H1 D'.nx := by
  obtain ⟨B, F, T, af, S, h⟩ := h
  refine ⟨B, F, T, af, S, rG_mono (fl_step h) (fun r f1 q1 e1 h1 v H1 F1 l1 k1 p1 => ?_) fun _ _ _ z => z⟩
  have h2 := fl_step h1
  cases e2 : r.own f1 with
  | no => rw [e2] at h2; exact h2.elim
  | ex _ _ _ => exact (own_noex e2).elim
  | ok d f2 q2 =>
    rw [e2] at h2
    obtain ⟨F2, l2, S2, _⟩ := own_one p1 e2
    refine ⟨B, F2, T, f2, d, S2, ?_⟩
    cases es : setT prot tg d f2 with
    | none => simp only [rG, es] at h2; exact h2
    | some af' =>
      simp only [rG, es] at h2
      exact fun σ' c k S' => h2 σ' H1 F2 k S'
theorem gN_of {v : V} {σ : L2.St} {H : Hp} {Q : L2.St → Hp → Prop} (h : tG Γ prot (.n i) v σ H Q) : gName i v σ H Q := by
  obtain ⟨B, F, T, af, d, S, h⟩ := h
  simp only [setT] at h
  by_cases hc : (decide (i < af.length) && !prot.contains i) = true
  · rw [if_pos hc] at h
    simp only [Bool.and_eq_true, decide_eq_true_eq, Bool.not_eq_true', List.contains_eq_mem, decide_eq_false_iff_not] at hc
    refine h _ ⟨by simp, fun j hj => ?_⟩ (fun j hj => ?_) (S.store hc.1)
    · simp only [slotsT, List.mem_singleton] at hj
      rw [List.getElem?_set_ne (Ne.symm hj)]
    · rw [List.getElem?_set_ne (fun e => by subst e; exact hc.2 hj)]
  · rw [if_neg hc] at h; exact h.elim
theorem tE_mono {f : Fr → Rs Rv} {σ : L2.St} {H : Hp} {Q Q' : VK} (h : tE Γ fld W f σ H Q) (k : ∀ v H, Q v H → Q' v H) : tE Γ fld W f σ H Q' := by
  obtain ⟨B, F, T, af, S, h⟩ := h
  exact ⟨B, F, T, af, S, rG_mono h (fun r f1 q1 e1 h1 v H1 F1 l1 k1 p1 => k v H1 (h1 v H1 F1 l1 k1 p1)) fun _ _ _ z => z⟩
theorem ps_asgD (he : PE X e (tE Γ fld W fe)) (hg : PG X tgx (tG Γ prot tg)) (hs : swapsWithSole [tgx] e pos.line X.env = pure false) (hw : swappedStores [tgx] e X.env = pure none) (h1 : (assignEach [tgx] X.env).map (·.2) = [assign tgx X.env]) :
    PS X (.Assign [tgx] e pos) (tSt Γ fld W prot (fun fr => (fe fr).fl fun r fr => (r.own fr).fl fun d fr => match setT prot tg d fr with
    | some fr' => .nx fr'
    | none => .no)) := (ps_asg he hg hs hw h1).imp fun D' σ H h => asg_read h
theorem ps_setD (hN : X.N.Nodup) (hi : X.N[i]? = some x) (hx : Loc X.env.scope x) (he : PE X e (tE Γ fld W fe)) (hs : swapsWith e (some (.Name x pos')) pos.line X.env = pure false) (hf : X.fn x = true ∨ X.env.scope.names.lookup x = some .local) :
    PS X (.Assign [.Name x pos'] e pos) (tSt Γ fld W prot (fun fr => (fe fr).fl fun r fr => (r.own fr).fl fun d fr => match setT prot (.n i) d fr with
    | some fr' => .nx fr'
    | none => .no)) := (ps_set hN hi hx he hs hf).imp fun D' σ H h => tE_mono (asg_read h) fun v H h => gN_of h
/-- while -/
theorem ps_whD {n : Nat} (hp : PassesOwn (model X.prog X.w) X.A X.env X.xe) (hc : PT X c (tT Γ fld W fc)) (hb : PSs X a (tSt Γ fld W prot fs)) : PS X (.While c a [] pos) (tSt Γ fld W prot (fun fr => whLoop fc fs n fr)) := (ps_while hp hc hb).imp fun D' σ H h => by
  obtain ⟨B, F, T, af, S, h⟩ := h
  refine ⟨fun m σ' H' => ∃ F' af', Sta Γ B F' H' σ' af' T ∧ Kp prot σ σ' ∧ rF Γ fld W prot B F T σ D' (whLoop fc fs m af'), ⟨n, F, af, S, Kp.refl _, h⟩, ?_⟩
  rintro m σ1 H1 ⟨F1, af1, S1, k1, h1⟩
  cases m with
  | zero => exact h1.elim
  | succ m =>
    have h2 : rG (fun b fr _ => rF Γ fld W prot B F T σ D' (if b = true then (match fs fr with
      | .nx fr2 => whLoop fc fs m fr2
      | .ct fr2 => whLoop fc fs m fr2
      | .bk fr2 => .nx fr2
      | .rt d fr2 => .rt d fr2
      | .ex c e fr2 => .ex c e fr2
      | .no => .no) else .nx fr)) (exW Γ fld W B σ1 T) (fc af1) := by
      simp only [whLoop] at h1
      cases ec : fc af1 with
      | no => rw [ec] at h1; exact h1
      | ex c a fr => rw [ec] at h1; exact h1 σ1 k1
      | ok b fr q =>
        rw [ec] at h1
        cases b <;> exact h1
    refine ⟨B, F1, T, af1, S1, rG_mono h2 (fun b f2 q2 e2 h3 H2 F2 l2 _ S2 => ?_) fun _ _ _ z => z⟩
    cases b with
    | false =>
      rw [if_neg Bool.false_ne_true] at h3 ⊢
      exact h3 σ1 H2 F2 k1 S2
    | true =>
      rw [if_pos rfl] at h3 ⊢
      refine ⟨_, fun σ' H' hN => ⟨m, Nat.lt_succ_self m, hN⟩, B, F2, T, f2, S2, ?_⟩
      have kk : ∀ {σ' : L2.St}, Kp prot σ1 σ' → Kp prot σ σ' := fun k => k1.trans k
      cases ef : fs f2 with
      | nx f3 => rw [ef] at h3; exact fun σ' H' F' k S' => ⟨F', f3, S', kk k, h3⟩
      | ct f3 => rw [ef] at h3; exact fun σ' H' F' k S' => ⟨F', f3, S', kk k, h3⟩
      | bk f3 => rw [ef] at h3; exact fun σ' H' F' k S' => h3 σ' H' F' (kk k) S'
      | rt d f3 => rw [ef] at h3; exact fun v σ' H' F' k S' => h3 v σ' H' F' (kk k) S'
      | ex c a f3 => rw [ef] at h3; exact fun σ' k => h3 σ' (kk k)
      | no => rw [ef] at h3; exact h3
end
end
end VI

end

section
/-! ViI2: for; stores side by side; op=. -/
namespace VI
open PySem L2 PyProof.Rows

section
variable {Γ : Wd} {fld : String → Option String} {W : WX}
theorem PSs_any {X : Cx} {st : List Stmt} {ι : Type} {t : ι → TS} (h : ∀ p, PSs X st (t p)) : PSs X st (fun D σ H => ∃ p, t p D σ H) := ⟨fun pins s σ H D I ⟨p, q⟩ => (h p).run pins s σ H D I q⟩
theorem PG_any {X : Cx} {e : Expr} {ι : Type} {t : ι → TG} (h : ∀ p, PG X e (t p)) : PG X e (fun v σ H Q => ∃ p, t p v σ H Q) := ⟨fun pins s σ H v u Q I r ⟨p, q⟩ => (h p).run pins s σ H v u Q I r q⟩
/-- a turn of a for -/
def forTurn (prot : List Nat) (tg : VI.T) (fb : List Nat → Fr → Fl) : D → Fr → Fl := fun x fr => match setT prot tg x fr with
  | some fr' => fb prot fr'
  | none => .no
variable {X : Cx} {prot : List Nat} {fb : List Nat → Fr → Fl} {fi : Fr → Rs Wk} {iter tgx : Expr} {tg : VI.T} {body : List Stmt} {pos : Pos}
theorem ps_forD (hp : PassesOwn (model X.prog X.w) X.A X.env X.xe) (hc : X.calm = true) (hi : PI X tgx iter (tI Γ fld W fi)) (hg : ∀ p, PG X tgx (tG Γ p tg)) (hb : ∀ p, PSs X body (tSt Γ fld W p (fb p))) (hs : ∀ x, foldedSetIterable iter X.env x = pure x) :
    PS X (.For tgx iter body [] pos) (tSt Γ fld W prot (fun fr => (fi fr).fl fun w fr => (forLoop (forTurn (w.prot ++ prot) tg fb) w.items fr).done w)) := (ps_for hp hc hi (PG_any hg) (PSs_any hb) hs).imp fun D' σ H h => by
  obtain ⟨B, F, T, af, S, h⟩ := h
  refine ⟨B, F, T, af, S, rG_mono (fl_step h) (fun w f1 q1 e1 h1 J H1 F1 l1 k1 hW => ?_) fun _ _ _ z => z⟩
  obtain ⟨L, S1, hJ, hdone⟩ := hW
  obtain ⟨B', fp, rL, S4, hframe⟩ := S1.frame
  have hJ := hJ fp rL
  -- what comes back to the outside
  have out : ∀ {σ' : L2.St} {H' F' : Hp} {af' : Fr} {T' : List (V × D)}, Sta Γ B' F' H' σ' af' T' → Kp (w.prot ++ prot) σ σ' → Sta Γ B F' H' σ' (w.done af') T' ∧ FLe F F' ∧ Kp prot σ σ' := fun {σ' H' F' af' T'} S' k => by
    obtain ⟨a1, _, a3⟩ := hframe _ _ _ _ _ S'
    exact ⟨hdone _ _ _ _ _ _ a3 fun x m => k x (List.mem_append_left _ m), l1.trans a1, fun x m => k x (List.mem_append_right _ m)⟩
  refine ⟨fun i m σ' H' => i ≤ w.items.length ∧ m = w.items.length - i ∧ ∃ F' af', Sta Γ B' F' H' σ' af' T ∧ Kp (w.prot ++ prot) σ σ' ∧ rF Γ fld W prot B F T σ D' ((forLoop (forTurn (w.prot ++ prot) tg fb) (w.items.drop i) af').done w),
    ⟨w.items.length, Nat.zero_le _, rfl, F1, f1, S4, Kp.refl _, h1⟩, ?_⟩
  rintro i m σ2 H2 ⟨hi, rfl, F2, f2, S2, k2, h2⟩
  obtain ⟨a1, a2, _⟩ := hframe _ _ _ _ _ S2
  have hJ2 := hJ F2 H2 a1 S2.fz a2 i
  by_cases hlt : i < w.items.length
  · refine .inr ?_
    have ed : w.items.drop i = w.items[i] :: w.items.drop (i + 1) := List.drop_eq_getElem_cons hlt
    obtain ⟨hgo, hy⟩ := hJ2.1 w.items[i] (List.getElem?_eq_getElem hlt)
    rw [ed] at h2
    simp only [forLoop] at h2
    refine ⟨hgo, _, fun σ' H' hN => ⟨w.items.length - (i + 1), by omega, hN⟩, fun x H3 hyl => ?_⟩
    obtain ⟨F3, A3, r3, p3⟩ := hy x H3 hyl
    have S3 : Sta Γ B' F3 H3 σ2 f2 ((x, w.items[i]) :: T) := (S2.grown A3).addPure r3 p3
    refine ⟨w.prot ++ prot, B', F3, T, f2, w.items[i], S3, ?_⟩
    unfold forTurn at h2
    cases es : setT (w.prot ++ prot) tg w.items[i] f2 with
    | none => rw [es] at h2; exact h2.elim
    | some fr1 =>
      rw [es] at h2
      intro σ3 _ kp3 S5
      refine ⟨w.prot ++ prot, B', F3, T, fr1, S5, ?_⟩
      have kk : ∀ {σ' : L2.St}, Kp (w.prot ++ prot) σ3 σ' → Kp (w.prot ++ prot) σ σ' := fun k => (k2.trans kp3).trans k
      simp only at h2
      cases ef : fb (w.prot ++ prot) fr1 with
      | nx f3 => rw [ef] at h2; exact fun σ' H' F' k S' => ⟨by omega, by omega, F', f3, S', kk k, h2⟩
      | ct f3 => rw [ef] at h2; exact fun σ' H' F' k S' => ⟨by omega, by omega, F', f3, S', kk k, h2⟩
      | bk f3 =>
        rw [ef] at h2
        exact fun σ' H' F' k S' => by
          obtain ⟨b1, b2, b3⟩ := out S' (kk k)
          exact h2 σ' H' F' b3 b1
      | rt d f3 =>
        rw [ef] at h2
        exact fun v σ' H' F' k S' => by
          obtain ⟨b1, b2, b3⟩ := out S' (kk k)
          exact h2 v σ' H' F' b3 b1
      | ex c a f3 =>
        rw [ef] at h2
        refine fun σ' k cls d F' H' hx => ?_
        obtain ⟨C, dd, va, fl, x1, x2, x3, x4, x5, S'⟩ := hx
        obtain ⟨b1, b2, b3⟩ := out S' (kk k)
        exact h2 σ' b3 cls d F' H' ⟨C, dd, va, fl, x1, x2, x3, x4, x5, b1⟩
      | no => rw [ef] at h2; exact h2
  · refine .inl ⟨hJ2.2 (by omega), ?_⟩
    have e0 : w.items.drop i = [] := List.drop_eq_nil_of_le (by omega)
    rw [e0] at h2
    obtain ⟨b1, b2, b3⟩ := out S2 k2
    exact h2 σ2 H2 F2 b3 b1
end
section
variable {X : Cx} {Γ : Wd} {fld : String → Option String} {W : WX} {prot : List Nat} {fl : Fr → Rs (List Rv)} {fe : Fr → Rs Rv} {a b c e : Expr} {i j l : Nat} {x y z : Str} {px py pz pt pos pos' : Pos} {kt k2 : Nat} {pt2 : Pos}
/-- stores from the left -/
theorem setAll_ok {B : Bd} {F H : Hp} : ∀ {is : List Nat} {ds : List D} {vs : List V} {af af' : Fr} {σ : L2.St} {T : List (V × D)}, Sta Γ B F H σ af (vs.zip ds ++ T) → ds.length = vs.length → setAll prot is ds af = some af' →
    is.length = vs.length ∧ Sta Γ B F H ((is.zip vs).foldl (fun σ p => σ.set p.1 (some p.2)) σ) af' T ∧ Kp prot σ ((is.zip vs).foldl (fun σ p => σ.set p.1 (some p.2)) σ)
  | [], [], [], af, af', σ, T, S, _, h => by
    simp only [setAll, Option.some.injEq] at h; subst h
    exact ⟨rfl, S, Kp.refl _⟩
  | [], [], _ :: _, _, _, _, _, _, l, _ => by simp at l
  | [], _ :: _, _, _, _, _, _, _, _, h => by simp [setAll] at h
  | _ :: _, [], _, _, _, _, _, _, _, h => by simp [setAll] at h
  | i :: is, d :: ds, [], _, _, _, _, _, l, _ => by simp at l
  | i :: is, d :: ds, v :: vs, af, af', σ, T, S, l, h => by
    simp only [setAll] at h
    by_cases hc : (decide (i < af.length) && !prot.contains i) = true
    · rw [if_pos hc] at h
      simp only [Bool.and_eq_true, decide_eq_true_eq, Bool.not_eq_true', List.contains_eq_mem, decide_eq_false_iff_not] at hc
      have S1 : Sta Γ B F H (σ.set i (some v)) (af.set i (some d)) (vs.zip ds ++ T) := Sta.store (S : Sta Γ B F H σ af ((v, d) :: (vs.zip ds ++ T))) hc.1
      obtain ⟨l2, S2, k2⟩ := setAll_ok S1 (by simpa using l) h
      refine ⟨by simp [l2], S2, fun j hj => (k2 j hj).trans ?_⟩
      rw [List.getElem?_set_ne (fun e => by subst e; exact hc.2 hj)]
    · rw [if_neg hc] at h; cases h
theorem par_read {is : List Nat} {D' : Ends} {σ : L2.St} {H : Hp} (h : tSt Γ fld W prot (fun fr => (fl fr).fl fun rs fr => (owns rs fr).fl fun ds fr => match setAll prot is ds fr with
    | some fr' => .nx fr'
    | none => .no) D' σ H) : tA Γ fld W fl σ H fun vs H1 => is.length = vs.length ∧ D'.nx ((is.zip vs).foldl (fun σ p => σ.set p.1 (some p.2)) σ) H1 := by
  obtain ⟨B, F, T, af, S, h⟩ := h
  refine ⟨B, F, T, af, S, rG_mono (fl_step h) (fun rs f1 q1 e1 h1 vs H1 F1 l1 k1 p1 => ?_) fun _ _ _ z => z⟩
  have h2 := fl_step h1
  cases e2 : owns rs f1 with
  | no => rw [e2] at h2; exact h2.elim
  | ex _ _ _ => exact (owns_noex' e2).elim
  | ok ds f2 q2 =>
    rw [e2] at h2
    obtain ⟨F2, l2, S2, n2, _⟩ := own_all p1 e2
    cases es : setAll prot is ds f2 with
    | none => simp only [rG, es] at h2; exact h2.elim
    | some af' =>
      simp only [rG, es] at h2
      obtain ⟨a1, a2, a3⟩ := setAll_ok S2 n2 es
      exact ⟨a1, h2 _ H1 F2 a3 a2⟩
theorem ps_par2D (hc : X.calm = true) (hN : X.N.Nodup) (hi : X.N[i]? = some x) (hj : X.N[j]? = some y) (hij : i ≠ j)
    (hx : X.env.scope.names.lookup x = some .local) (hy : X.env.scope.names.lookup y = some .local) (ha : PA X [a, b] (tA Γ fld W fl))
    (hw : swappedStores [.Tuple [.Name x px, .Name y py] kt pt] (.Tuple [a, b] k2 pt2) X.env = pure (some [x, y]))
    (hs : swapsWithSole [.Tuple [.Name x px, .Name y py] kt pt] (.Tuple [a, b] k2 pt2) pos.line X.env = pure false) :
    PS X (.Assign [.Tuple [.Name x px, .Name y py] kt pt] (.Tuple [a, b] k2 pt2) pos) (tSt Γ fld W prot (fun fr => (fl fr).fl fun rs fr => (owns rs fr).fl fun ds fr => match setAll prot [i, j] ds fr with
    | some fr' => .nx fr'
    | none => .no)) := (ps_par hc hN hi hj hij hx hy ha hw hs).imp fun D' σ H h => by
  obtain ⟨B, F, T, af, S, h⟩ := par_read h
  refine ⟨B, F, T, af, S, rG_mono h (fun rs f1 q1 e1 h1 vs H1 F1 l1 k1 p1 => ?_) fun _ _ _ z => z⟩
  obtain ⟨h2, h3⟩ := h1 vs H1 F1 l1 k1 p1
  match vs, h2, h3 with
  | [v, w], _, h3 => exact ⟨v, w, rfl, h3⟩
theorem ps_par3D (hc : X.calm = true) (hN : X.N.Nodup) (hi : X.N[i]? = some x) (hj : X.N[j]? = some y) (hl : X.N[l]? = some z) (hij : i ≠ j) (hil : i ≠ l) (hjl : j ≠ l)
    (hx : X.env.scope.names.lookup x = some .local) (hy : X.env.scope.names.lookup y = some .local) (hz : X.env.scope.names.lookup z = some .local) (ha : PA X [a, b, c] (tA Γ fld W fl))
    (hw : swappedStores [.Tuple [.Name x px, .Name y py, .Name z pz] kt pt] (.Tuple [a, b, c] k2 pt2) X.env = pure (some [x, y, z]))
    (hs : swapsWithSole [.Tuple [.Name x px, .Name y py, .Name z pz] kt pt] (.Tuple [a, b, c] k2 pt2) pos.line X.env = pure false) :
    PS X (.Assign [.Tuple [.Name x px, .Name y py, .Name z pz] kt pt] (.Tuple [a, b, c] k2 pt2) pos) (tSt Γ fld W prot (fun fr => (fl fr).fl fun rs fr => (owns rs fr).fl fun ds fr => match setAll prot [i, j, l] ds fr with
    | some fr' => .nx fr'
    | none => .no)) := (ps_par3 hc hN hi hj hl hij hil hjl hx hy hz ha hw hs).imp fun D' σ H h => by
  obtain ⟨B, F, T, af, S, h⟩ := par_read h
  refine ⟨B, F, T, af, S, rG_mono h (fun rs f1 q1 e1 h1 vs H1 F1 l1 k1 p1 => ?_) fun _ _ _ z => z⟩
  obtain ⟨h2, h3⟩ := h1 vs H1 F1 l1 k1 p1
  match vs, h2, h3 with
  | [u, v, w], _, h3 => exact ⟨u, v, w, rfl, h3⟩
end
end VI

end

section
/-! ViI3: a[i] = e, a[i] op= e, a op= e. -/
namespace VI
open PySem L2 PyProof.Rows

def rSet : TSet := fun o i v H Q => rSetL o i v H Q ∨ rSetD o i v H Q
theorem set_any {X : Cx} (hr : Room 0 X.A) : PSet X rSet := by
  have hu : X.A.units + 1 < cLine := by have := hr.un; omega
  intro pins s σ H o i v ov iv u Q I ro ri rv h
  rcases h with h | h
  · exact set_list pins s σ H o i v ov iv u Q I ro ri rv h
  · exact set_dict hu pins s σ H o i v ov iv u Q I ro ri rv h
section
variable {Γ : Wd} {fld : String → Option String} {W : WX} {B : Bd} {F F' H H' : Hp} {σ : L2.St} {af af' : Fr} {T T' : List (V × D)}
theorem KRel.len {κ : Type} {f : D → Option κ} {ks : List D} {kvs : List (κ × V)} (h : KRel f ks kvs) : ks.length = kvs.length := by
  have := congrArg List.length h.1
  simpa using this
theorem RpL.set : ∀ {vs : List V} {ds : List D} {fp fe : List Addr} {n : Nat} {v : V} {e : D}, RpL Γ F H vs ds fp → n < ds.length → Rp Γ F H v e fe → ∃ fq R, (fe ++ fp).Perm (fq ++ R) ∧ RpL Γ F H (vs.set n v) (ds.set n e) fq
  | _, [], _, _, _, _, _, _, h, _ => by simp at h
  | _, d :: ds, _, fe, 0, v, e, .cons (fp := fa) (fq := fb) a r, _, he => ⟨fe ++ fb, fa, by rw [List.append_assoc]; exact List.perm_append_comm.append_left fe, .cons he r⟩
  | _, d :: ds, _, fe, n + 1, v, e, .cons (fp := fa) (fq := fb) a r, h, he => by
    obtain ⟨fq, R, p, q⟩ := RpL.set r (n := n) (by simpa using h) he
    refine ⟨fa ++ fq, R, ?_, .cons a q⟩
    rw [← List.append_assoc, List.append_assoc fa]
    refine (List.perm_append_comm.append_right fb).trans ?_
    rw [List.append_assoc]
    exact p.append_left fa
/-- the store's part: what setItem says -/
theorem set_core {x : Nat} {p : List Sp1} {w y v : V} {k e : D} {fk : List Addr} {Q : Hp → Prop} (S : Sta Γ B F H σ af ((v, e) :: T)) (hp : Plc Γ σ F H x p w) (hk : Rp Γ F H y k fk) (h : setItem x p k e af = .nx af')
    (hQ : ∀ H', Sta Γ B F H' σ af' T → Q H') : rSet w y v H Q := by
  unfold setItem at h
  cases hs : slot af x with
  | none => rw [hs] at h; cases h
  | some d =>
    rw [hs] at h
    simp only at h
    obtain ⟨v0, ev0, pth⟩ := hp
    obtain ⟨v1, fp0, ev1, r0⟩ := S.get hs
    rw [ev0] at ev1; cases ev1
    have z := S.fz
    split at h
    · -- a list
      rename_i xs hg
      split at h
      · rename_i i
        cases hi : ixOf xs.length i with
        | none => rw [hi] at h; cases h
        | some n =>
          rw [hi] at h
          cases h
          obtain ⟨w', g1, g2, b1, b2, _, _⟩ := r0.focus hg (by simp [D.pure])
          have := b1.fn S.sub pth
          subst this
          cases b2 with
          | @lstO a vs _ g e0 r =>
            cases hk
            have hl := r.length
            refine .inl ⟨a, vs, i, n, rfl, rfl, e0, by rw [ixN_ixOf, hl]; exact hi, hQ _ ?_⟩
            refine Sta.writeP (L := [(v, e)]) (L' := []) S hs hg (by simp [D.pure]) ⟨v0, ev0, pth⟩ ⟨fun vs z => (by cases z), fun f1 fL r1 rL nd => ?_⟩
            cases r1 with
            | @lstO _ ws _ g3 e3 r3 =>
              rw [e0] at e3; cases e3
              cases rL with
              | @cons _ _ f4 _ _ f5 rv rt =>
                cases rt
                have nd' := List.nodup_cons.mp nd
                have hn : n < xs.length := by
                  have := (ixN_seq (show ixN xs.length i = some n from hi)).2.1
                  exact this
                have ne1 : ∀ b ∈ g3 ++ (f4 ++ []), b ≠ a := fun b m q => by subst q; exact nd'.1 m
                have rv' : Rp Γ F (upd H a (.lst (vs.set n v))) v e f4 := Rp.mono (H' := upd H a (.lst (vs.set n v))) (FLe.refl F).k rv fun b m => upd_ne (ne1 b (List.mem_append_right _ (List.mem_append_left _ m)))
                have r3' := r3.mono (H' := upd H a (.lst (vs.set n v))) (FLe.refl F).k fun b m => upd_ne (ne1 b (List.mem_append_left _ m))
                obtain ⟨fq, R, q1, q2⟩ := r3'.set hn rv'
                refine ⟨by simp, a :: fq, [], R, ?_, .lstO upd_same q2, .nil⟩
                rw [List.append_nil]
                exact List.Perm.cons _ (List.perm_append_comm.trans q1)
      · cases h
    · -- a dict
      rename_i t ks vs hg
      split at h
      · rename_i hc
        simp only [Bool.and_eq_true, decide_eq_true_eq] at hc
        cases h
        obtain ⟨w', g1, g2, b1, b2, _, _⟩ := r0.focus hg (by simp [D.pure])
        have := b1.fn S.sub pth
        subst this
        cases b2 with
        | @dicO a kvs _ _ g e0 g0 r =>
          obtain ⟨key, k1, k2⟩ := hk.keyK hc.1
          refine .inr ⟨a, _, rfl, .inl ⟨kvs, key, e0, k2, by rw [← g0.len, ← line_eq]; exact hc.2, rfl⟩, hQ _ ?_⟩
          refine Sta.writeP (L := [(v, e)]) (L' := []) S hs hg (by simp [D.pure]) ⟨v0, ev0, pth⟩ ⟨fun vs z => (by cases z), fun f1 fL r1 rL nd => ?_⟩
          cases r1 with
          | @dicO _ kvs2 _ _ g3 e3 g4 r3 =>
            rw [e0] at e3; cases e3
            cases rL with
            | @cons _ _ f4 _ _ f5 rv rt =>
              cases rt
              have nd' := List.nodup_cons.mp nd
              have ne1 : ∀ b ∈ g3 ++ (f4 ++ []), b ≠ a := fun b m q => by subst q; exact nd'.1 m
              have rv' : Rp Γ F (upd H a (.dK (putK kvs key v))) v e f4 := Rp.mono (H' := upd H a (.dK (putK kvs key v))) (FLe.refl F).k rv fun b m => upd_ne (ne1 b (List.mem_append_right _ (List.mem_append_left _ m)))
              have r3' := r3.mono (H' := upd H a (.dK (putK kvs key v))) (FLe.refl F).k fun b m => upd_ne (ne1 b (List.mem_append_left _ m))
              obtain ⟨q0, fq, R, q1, q2⟩ := put_rel kD kD_eq g4 k1 r3' rv'
              refine ⟨by simp, a :: fq, [], R, ?_, .dicO upd_same q0 q2, .nil⟩
              rw [List.append_nil]
              exact List.Perm.cons _ (List.perm_append_comm.trans q1)
        | @dicOT a kvs _ _ g e0 g0 r =>
          obtain ⟨key, b, k1, k2, k3⟩ := hk.keyT z hc.1
          refine .inr ⟨a, _, rfl, .inr ⟨kvs, key, b, e0, k2, k3, by rw [← g0.len, ← line_eq]; exact hc.2, rfl⟩, hQ _ ?_⟩
          refine Sta.writeP (L := [(v, e)]) (L' := []) S hs hg (by simp [D.pure]) ⟨v0, ev0, pth⟩ ⟨fun vs z => (by cases z), fun f1 fL r1 rL nd => ?_⟩
          cases r1 with
          | @dicOT _ kvs2 _ _ g3 e3 g4 r3 =>
            rw [e0] at e3; cases e3
            cases rL with
            | @cons _ _ f4 _ _ f5 rv rt =>
              cases rt
              have nd' := List.nodup_cons.mp nd
              have ne1 : ∀ b ∈ g3 ++ (f4 ++ []), b ≠ a := fun b m q => by subst q; exact nd'.1 m
              have rv' : Rp Γ F (upd H a (.dT (putK kvs key v))) v e f4 := Rp.mono (H' := upd H a (.dT (putK kvs key v))) (FLe.refl F).k rv fun b m => upd_ne (ne1 b (List.mem_append_right _ (List.mem_append_left _ m)))
              have r3' := r3.mono (H' := upd H a (.dT (putK kvs key v))) (FLe.refl F).k fun b m => upd_ne (ne1 b (List.mem_append_left _ m))
              obtain ⟨q0, fq, R, q1, q2⟩ := put_rel tD tD_eq g4 k1 r3' rv'
              refine ⟨by simp, a :: fq, [], R, ?_, .dicOT upd_same q0 q2, .nil⟩
              rw [List.append_nil]
              exact List.Perm.cons _ (List.perm_append_comm.trans q1)
      · cases h
    · cases h
end
section
variable {X : Cx} {Γ : Wd} {fld : String → Option String} {W : WX} {prot : List Nat} {fe fa fi : Fr → Rs Rv} {a i e : Expr} {x : Str} {pos pos' tpos : Pos} {n : Nat}
theorem ps_setiD (hr : Room 0 X.A) (he : PE X e (tE Γ fld W fe)) (ha : PE X a (tE Γ fld W fa)) (hi : PE X i (tE Γ fld W fi))
    (hs : swapsWithSole [.Subscript a i pos'] e pos.line X.env = pure false) (hw : swappedStores [.Subscript a i pos'] e X.env = pure none) (h1 : (assignEach [.Subscript a i pos'] X.env).map (·.2) = [assign (.Subscript a i pos') X.env])
    (has : ∀ v, assign (.Subscript a i pos') X.env v = (do
      let ov ← holding [v] (eval a X.env)
      let iv ← holding [v, ov] (eval i X.env)
      standAt pos'
      holding [v, ov, iv] (PySem.setItem ov iv v)
      release [v, ov, iv] [])) :
    PS X (.Assign [.Subscript a i pos'] e pos) (tSt Γ fld W prot (fun fr => ((fe fr).bind fun re fr => (re.own fr).bind fun d fr => (fa fr).bind fun r fr => (fi fr).bindD r fun rk fr => (rk.own fr).bind fun k fr => .ok (d, r, k) fr true).fl fun o fr => match o.2.1 with
    | .plc x p => setItem x p o.2.2 o.1 fr
    | .tmp _ => .no)) := (ps_asg he (pg_sub ha hi (set_any hr) has) hs hw h1).imp fun D' σ H h => by
  obtain ⟨B, F, T, af, S, h⟩ := h
  have h1 := rG_bind (fl_step h)
  refine ⟨B, F, T, af, S, rG_mono h1 (fun re f1 q1 e1 h2 v H1 F1 l1 k1 p1 => ?_) fun _ _ _ z => z⟩
  obtain ⟨d, f2, q2, e2, h3⟩ := rG_step h2 fun _ _ _ => own_noex
  obtain ⟨F2, l2, S2, _⟩ := own_one p1 e2
  have h4 := rG_bind h3
  refine ⟨B, F2, (v, d) :: T, f2, S2, rG_mono h4 (fun r f3 q3 e3 h5 w H3 F3 l3 k3 p3 => ?_) fun _ _ _ z => exW.drop (L := [_]) z⟩
  have h6 := rG_bindD h5
  refine ⟨B, F3, tmps [r] [w] ++ ((v, d) :: T), f3, p3.sta, rG_mono h6 (fun rk f4 q4 e4 h7 y H4 F4 l4 k4 p4 => ?_) fun _ _ _ z => exW.drop (exW.drop (L := [_]) z)⟩
  obtain ⟨hd, h7⟩ := h7
  obtain ⟨k, f5, q5, e5, h8⟩ := rG_step h7 fun _ _ _ => own_noex
  obtain ⟨F5, l5, S5, _⟩ := own_one p4 e5
  cases r with
  | tmp _ => exact h8.elim
  | plc x p =>
    have pr := p3.kept (F' := F5) (H' := H4) (q := q4) S5.drop (l4.trans l5) hd fun hq => (k4 hq).2
    obtain ⟨fk, rk'⟩ := S5.rp
    have h8 : rF Γ fld W prot B F T σ D' (setItem x p k d f5) := h8
    cases es : setItem x p k d f5 with
    | nx af' =>
      rw [es] at h8
      exact set_core pr.1 pr.2 rk' es fun H' S' => h8 σ H' F5 (Kp.refl _) S'
    | no => rw [es] at h8; exact h8.elim
    | _ => unfold setItem at es; (repeat' split at es) <;> cases es
/-- a[i], by values: of lists and dicts -/
def rGet (K : PySem.W.Frag) : V → V → Hp → VK → Prop := fun o i H Q => (∃ p xs k w, o = .ref p ∧ i = .int k ∧ SqL K H p xs ∧ atI xs k = some w ∧ Q w H) ∨ (∃ p xs k w, o = .ref p ∧ i = .int k ∧ SqT K H p xs ∧ atI xs k = some w ∧ Q w H) ∨ ∃ p w, o = .ref p ∧ DGet H p i (some w) ∧ Q w H
theorem get_any (hr : Room 0 X.A) : PGet X (rGet X.K) := by
  have hu : X.A.units + 1 < cLine := by have := hr.un; omega
  intro pins s σ H o i ov iv Q I ro ri h
  rcases h with ⟨p, xs, k, w, rfl, rfl, hq, he, q⟩ | ⟨p, xs, k, w, rfl, rfl, hq, he, q⟩ | ⟨p, w, rfl, g, q⟩
  · cases ro
    obtain ⟨t, rfl⟩ := ri
    obtain ⟨its, r, pl, hz⟩ := I.list hq
    obtain ⟨j, h1, h2, h3, h4, h5⟩ := atI_get he
    obtain ⟨u, eu, ru⟩ := r.get h2
    have hl := r.length
    have hn := line63
    have fin : EP X pins σ Q u s := ⟨w, H, I, ru, q⟩
    by_cases h0 : 0 ≤ k
    · have hj : k.toNat = j := by
        rw [seqIndex_of h0 h5] at h1
        exact Option.some.inj h1
      exact wpAny_getItem_list pl.isList h0 (by omega) (by rw [hj]; simpa using eu) fin
    · have hj : (k + (its.toArray.size : Int)).toNat = j := by
        rw [seqIndex_neg (by omega) h4] at h1
        rw [List.size_toArray, ← hl]
        exact Option.some.inj h1
      exact wpAny_getItem_list_neg pl.isList (by omega) (by rw [List.size_toArray] <;> omega) (by omega) (by rw [hj]; simpa using eu) fin
  · cases ro
    obtain ⟨t, rfl⟩ := ri
    obtain ⟨its, r, pl, hz⟩ := I.tuple hq
    obtain ⟨j, h1, h2, h3, h4, h5⟩ := atI_get he
    obtain ⟨u, eu, ru⟩ := r.get h2
    have hl := r.length
    have hn := line63
    exact getItem_tuple (j := j) pl (by omega) (by omega) (by rw [List.size_toArray, ← hl]; exact h1) (by simpa using eu) ⟨w, H, I, ru, q⟩
  · obtain rfl : ov = Value.ref p := ro
    exact d_getItem hu I g ri fun w' s3 I3 rw' => ⟨w, H, I3, rw', q⟩
def opA : O2 → Operator
  | .add => .Add
  | .sub => .Sub
  | o => opn o
def rAug (o : O2) : TIp := fun x y H Q => match o with
  | .add => rI0 (fun i j => .int (i + j)) x y H Q
  | .sub => rI0 (fun i j => .int (i - j)) x y H Q
  | _ => False
theorem ip_any (o : O2) : PIp X (opn o) (rAug o) := by
  cases o
  case add => exact iop_add
  case sub => exact iop_sub
  all_goals exact fun pins s σ H x y v u Q I r1 r2 h => h.elim
theorem aug_of {F H : Hp} {o : O2} {dx dy z : D} {xv yv : V} {fx fy : List Addr} {Q : VK} (hx : Rp Γ F H xv dx fx) (hy : Rp Γ F H yv dy fy) (e : dAug o dx dy = some z) (q : ∀ i, z = .int i → Q (.int i) H) : rAug o xv yv H Q := by
  unfold dAug at e
  split at e
  · cases e; cases hx; cases hy; exact ⟨_, _, rfl, rfl, q _ rfl⟩
  · cases e; cases hx; cases hy; exact ⟨_, _, rfl, rfl, q _ rfl⟩
  · cases e
/-- name op= e -/
theorem ps_augD {o : O2} (hN : X.N.Nodup) (hi : X.N[n]? = some x) (hx : Loc X.env.scope x) (he : PE X e (tE Γ fld W fe)) (hf : X.fn x = true ∨ X.env.scope.names.lookup x = some .local) :
    PS X (.AugAssign (.Name x pos') (opn o) e pos) (tSt Γ fld W prot (fun fr => if (slot fr n).isSome then ((fe fr).fl fun r fr => (r.view fr).fl fun y fr => match slot fr n with
    | some x => if decide (n < fr.length) && !prot.contains n then (match dAug o x y with
      | some z => .nx (fr.set n (some z))
      | none => .no) else .no
    | none => .no) else .no)) := (ps_aug hN hi hx he (ip_any o) hf).imp fun D' σ H h => by
  obtain ⟨B, F, T, af, S, h⟩ := h
  dsimp only at h
  cases e0 : slot af n with
  | none => rw [e0] at h; exact h.elim
  | some d0 =>
  rw [e0] at h
  rw [if_pos (by rfl)] at h
  obtain ⟨xv0, _, ev0, _⟩ := S.get e0
  have core : rG (fun r f1 q1 => ∀ v H1 F1, FLe F F1 → PR Γ B σ F1 H1 f1 T r v → ∃ xv, σ[n]? = some (some xv) ∧ rAug o xv v H1 fun z H2 => D'.nx (σ.set n (some z)) H2) (exW Γ fld W B σ T) (fe af) := by
    refine rG_mono (fl_step h) (fun r f1 q1 e1 h1 v H1 F1 l1 p1 => ?_) fun _ _ _ z => z
    have h2 := fl_step h1
    cases e2 : r.view f1 with
    | no => rw [e2] at h2; exact h2.elim
    | ex _ _ _ => exact (view_noex' e2).elim
    | ok y f2 q2 =>
      rw [e2] at h2
      obtain ⟨F2, L, l2, S2, ⟨fy, ry⟩, _, _⟩ := view_one p1 e2
      cases es : slot f2 n with
      | none => simp only [rG, es] at h2; exact h2.elim
      | some xd =>
        simp only [rG, es] at h2
        by_cases hc : (decide (n < f2.length) && !prot.contains n) = true
        · rw [if_pos hc] at h2
          simp only [Bool.and_eq_true, decide_eq_true_eq, Bool.not_eq_true', List.contains_eq_mem, decide_eq_false_iff_not] at hc
          cases ez : dAug o xd y with
          | none => simp only [ez] at h2; exact h2.elim
          | some z =>
            simp only [ez] at h2
            obtain ⟨xv, fx, ev, rx⟩ := S2.get es
            refine ⟨xv, ev, aug_of rx ry ez fun i hz => ?_⟩
            subst hz
            refine h2 _ H1 F2 (fun j hj => ?_) ((S2.dropL.addPure (.int i) rfl).store hc.1)
            rw [List.getElem?_set_ne (fun e => by subst e; exact hc.2 hj)]
        · rw [if_neg hc] at h2; exact h2.elim
  refine ⟨xv0, ev0, B, F, T, af, S, rG_mono core (fun r f1 q1 e1 h1 v H1 F1 l1 k1 p1 => ?_) fun _ _ _ z => z⟩
  obtain ⟨xv, ev, g⟩ := h1 v H1 F1 l1 p1
  rw [ev0] at ev; cases ev
  exact g
/-- a[i] op= e -/
theorem ps_augiD {o : O2} (hK : Γ.K = X.K) (hr : Room 0 X.A) (ha : PE X a (tE Γ fld W fa)) (hi : PE X i (tE Γ fld W fi)) (he : PE X e (tE Γ fld W fe))
    (has : ∀ ov iv new, augStore i ov iv new = (do holding [new, ov, iv] (PySem.setItem ov iv new); release [new, ov, iv] []; pure .next)) :
    PS X (.AugAssign (.Subscript a i tpos) (opn o) e pos) (tSt Γ fld W prot (fun fr => ((op2 fa fi fr).bind fun r fr => (r.1.look fr).bind fun d fr => (r.2.look fr).bind fun k fr => match subV d k with
      | some s => (match d.step s with
        | some (.int u) => (fe fr).bindD r.1 fun re fr => (re.view fr).bind fun y fr => (match dAug o (.int u) y with
          | some z => .ok (r.1, k, z) fr true
          | none => .no)
        | _ => .no)
      | none => .no).fl fun o fr => match o.1 with
    | .plc x p => setItem x p o.2.1 o.2.2 fr
    | .tmp _ => .no)) := (ps_augS ha hi (get_any hr) he (ip_any o) (set_any hr) has).imp fun D' σ H h => by
  obtain ⟨B, F, T, af, S, h⟩ := h
  have h0 := fl_step h
  refine op2_step S h0 fun r r' f1 q1 h1 v w H1 F1 l1 k1 p => ?_
  obtain ⟨p1, p2⟩ := p.head
  obtain ⟨d, f2, q2, e2, h2⟩ := rG_step h1 fun _ _ _ => look_noex
  obtain ⟨k, f3, q3, e3, h3⟩ := rG_step h2 fun _ _ _ => look_noex
  obtain ⟨hf2, ⟨L, S2⟩, fd, rd⟩ := look_one p1 e2
  have pr' : PR Γ B σ F1 H1 f2 (L ++ T) r' w := by
    rw [hf2]
    cases r' with
    | tmp d => exact S2.perm (List.perm_middle)
    | plc x p => exact ⟨S2, p2.1⟩
  obtain ⟨hf3, ⟨L2, S3⟩, fk, rk⟩ := look_one pr' e3
  subst hf3; subst hf2
  have z := S3.fz
  have pT : PR Γ B σ F1 H1 f3 T r v := by
    cases r with
    | tmp d' =>
      have p1' : Sta Γ B F1 H1 σ f3 ((v, d') :: (tmps [r'] [w] ++ T)) := p1
      exact (Sta.dropL (L := tmps [r'] [w]) (p1'.perm List.perm_middle.symm))
    | plc x p => exact ⟨p1.1.dropL, p1.2⟩
  cases es : subV d k with
  | none => rw [es] at h3; exact h3.elim
  | some s =>
    simp only [es] at h3
    cases et : d.step s with
    | none => simp only [et] at h3; exact h3.elim
    | some du =>
      simp only [et] at h3
      cases du with
      | int u =>
        simp only at h3
        obtain ⟨wv, fw, at', rw'⟩ := rd.sub z rk es et
        cases rw'
        -- the key is known whatever comes
        have kp : k.pure = true := by
          cases d <;> cases k <;> simp only [subV, reduceCtorEq] at es <;> first
            | rfl
            | (exfalso; unfold kOk at es; simp [D.key, D.isTup] at es; done)
            | (rename_i m t ks vs xs
               split at es
               · rename_i hc
                 have hx : xs.all D.scal = true := by unfold kOk at hc; simp [D.key, D.isTup] at hc; simpa using hc.1
                 show pureL xs = true
                 clear es et hc rk e3 h3
                 induction xs with
                 | nil => rfl
                 | cons y ys ih =>
                   simp only [List.all_cons, Bool.and_eq_true] at hx
                   simp only [pureL, Bool.and_eq_true]
                   refine ⟨?_, ih hx.2⟩
                   cases y <;> first | rfl | (simp [D.scal] at hx)
               · cases es)
        have behind : tE Γ fld W fe σ H1 fun y H4 => rAug o (.int u) y H4 fun z H5 => rSet v w z H5 fun H6 => D'.nx σ H6 := by
          have h4 := rG_bindD h3
          refine ⟨B, F1, tmps [r] [v] ++ T, f3, pT.sta, rG_mono h4 (fun re f4 q4 e4 h5 y H4 F4 l4 k4 p4 => ?_) fun _ _ _ z => exW.drop z⟩
          obtain ⟨hd, h5⟩ := h5
          obtain ⟨yd, f5, q5, e5, h6⟩ := rG_step h5 fun _ _ _ => view_noex'
          obtain ⟨F5, L5, l5, S5, ⟨fy, ry⟩, _, _⟩ := view_one p4 e5
          cases ez : dAug o (.int u) yd with
          | none => simp only [ez] at h6; exact h6.elim
          | some zd =>
            simp only [ez] at h6
            refine aug_of (F := F5) (.int u) ry ez fun i' hz => ?_
            subst hz
            cases r with
            | tmp _ => exact h6.elim
            | plc x px =>
              have h6 : rF Γ fld W prot B F T σ D' (setItem x px k (.int i') f5) := h6
              have S6 : Sta Γ B F5 H4 σ f5 T := S5.dropL
              have pr := pT.kept (F' := F5) (H' := H4) (q := q4) S6 (l4.trans l5) hd fun hq => (k4 hq).2
              cases e7 : setItem x px k (.int i') f5 with
              | nx af' =>
                rw [e7] at h6
                exact set_core (S6.addPure (.int i') rfl) pr.2 (rk.any (l4.trans l5).k kp) e7 fun H' S' => h6 σ H' F5 (Kp.refl _) S'
              | no => rw [e7] at h6; exact h6.elim
              | _ => unfold setItem at e7; (repeat' split at e7) <;> cases e7
        rcases at' with ⟨a1, vs, i1, g1, g2, g3, g4⟩ | ⟨a1, vs, i1, g1, g2, g3, g4⟩ | ⟨a1, g1, g2⟩
        · exact .inl ⟨a1, vs, i1, _, g1, g2, hK ▸ g3, g4, behind⟩
        · exact .inr (.inl ⟨a1, vs, i1, _, g1, g2, hK ▸ g3, g4, behind⟩)
        · exact .inr (.inr ⟨a1, _, g1, g2, behind⟩)
      | _ => exact h3.elim
end
section
variable {X : Cx} {Γ : Wd} {fld : String → Option String} {W : WX} {prot : List Nat} {fi : Fr → Rs Wk} {fc : Fr → Rs Bool} {fe : Fr → Rs Rv} {elt tgx iter : Expr} {ifs : List Expr} {scope : Scope} {own : List (Str × Nat)} {pos spos py : Pos} {tg : VI.T} {i : Nat} {y : Str}
/-- name = [..] on one line -/
theorem ps_setLcD (hc : X.calm = true) (hN : X.N.Nodup) (hy : X.N[i]? = some y) (hyl : X.env.scope.names.lookup y = some .local)
    (hsw : swapsWith (.ListComp elt [⟨tgx, iter, ifs, 0⟩] scope pos) (some (.Name y py)) spos.line X.env = pure true) (hi : PI X tgx iter (tI Γ fld W fi)) (ok : BlkOk X.N X.env.scope scope own)
    (hg : ∀ (s : Shared) (H : Hp) (C : Addr) (cl : List (Str × Addr)) (fp : List Addr), PG (X.blk s H scope (compEnvC scope cl C X.env) fp) tgx (tG Γ [] tg))
    (ht : ∀ (s : Shared) (H : Hp) (C : Addr) (cl : List (Str × Addr)) (fp : List Addr), PTs (X.blk s H scope (compEnvC scope cl C X.env) fp) ifs (tT Γ fld W0 fc))
    (he : ∀ (s : Shared) (H : Hp) (C : Addr) (cl : List (Str × Addr)) (fp : List Addr), PE (X.blk s H scope (compEnvC scope cl C X.env) fp) elt (tE Γ fld W0 fe)) (hs : ∀ x, foldedSetIterable iter X.env x = pure x)
    (hnd : (own.map (·.2)).Nodup) (hsl : ∀ i ∈ slotsT tg, i ∈ own.map (·.2)) :
    PS X (.Assign [.Name y py] (.ListComp elt [⟨tgx, iter, ifs, 0⟩] scope pos) spos) (tSt Γ fld W prot (fun fr => ((fi fr).bind fun w fr => (noEx (lcLoop (lcTurn (own.map (·.2)) tg fc fe) w.items (hideAll fr (own.map (·.2))))).bind fun ds fr' => if ds.length ≤ line then Rs.ok (Rv.tmp (.lst true ds)) (w.done (backAll fr fr' (own.map (·.2)))) true else .no).fl fun (r : Rv) fr => (r.own fr).fl fun d fr => match setT prot (.n i) d fr with
    | some fr' => .nx fr'
    | none => .no)) := (ps_setLc hc hN hy hyl hsw hi ok hg ht he hs).imp fun D' σ H h => lc_read hnd hsl (tE_mono (asg_read (tg := .n i) (f := fun fr => (fi fr).bind fun w fr => (noEx (lcLoop (lcTurn (own.map (·.2)) tg fc fe) w.items (hideAll fr (own.map (·.2))))).bind fun ds fr' => if ds.length ≤ line then Rs.ok (Rv.tmp (.lst true ds)) (w.done (backAll fr fr' (own.map (·.2)))) true else .no) h) fun v H h => gN_of h)
end
end VI

end

section
/-! ViJ: a def keeps its promise. -/
namespace VI
open PySem L2 PyProof.Rows

section
variable {Γ : Wd} {fld : String → Option String} {W : WX} {B : Bd} {F F' H H' : Hp} {σ : L2.St} {af af' : Fr} {T T' : List (V × D)}
theorem coll_none : ∀ {σ : L2.St} {n : Nat}, coll σ (List.replicate n none) = []
  | [], 0 => rfl
  | [], n + 1 => rfl
  | s :: _, 0 => by cases s <;> rfl
  | s :: σ, n + 1 => by cases s <;> exact coll_none (σ := σ) (n := n)
theorem coll_start : ∀ {vs : List V} {ds : List D} {r : L2.St} {n : Nat}, ds.length = vs.length → coll (vs.map some ++ r) (ds.map some ++ List.replicate n none) = vs.zip ds
  | [], [], r, n, _ => coll_none
  | [], _ :: _, _, _, h => by simp at h
  | _ :: _, [], _, _, h => by simp at h
  | v :: vs, d :: ds, r, n, h => congrArg (List.cons (v, d)) (coll_start (by simpa using h))
theorem outs_perm : ∀ {vs : List V} {os : List (Option D)} {σ : L2.St} {af : Fr}, os.length = vs.length → (∀ (i : Nat) v d, vs[i]? = some v → os[i]? = some (some d) → σ[i]? = some (some v) ∧ af[i]? = some (some d)) → ∃ R, (coll σ af).Perm (outsL vs os ++ R)
  | [], [], σ, af, _, _ => ⟨coll σ af, .refl _⟩
  | [], _ :: _, _, _, h, _ => by simp at h
  | _ :: _, [], _, _, h, _ => by simp at h
  | v :: vs, o :: os, [], af, l, k => by
    refine ⟨[], ?_⟩
    have : outsL (v :: vs) (o :: os) = [] := by
      have all : ∀ (ws : List V) (ps : List (Option D)), (∀ (i : Nat) v d, ws[i]? = some v → ps[i]? = some (some d) → False) → outsL ws ps = [] := by
        intro ws
        induction ws with
        | nil => intro ps _; cases ps <;> rfl
        | cons w ws ih =>
          intro ps hk
          cases ps with
          | nil => rfl
          | cons p ps =>
            cases p with
            | some d => exact (hk 0 w d rfl rfl).elim
            | none => exact ih ps fun i v d h1 h2 => hk (i + 1) v d (by simpa using h1) (by simpa using h2)
      exact all _ _ fun i v d h1 h2 => by have := (k i v d h1 h2).1; simp at this
    rw [this]; exact .refl _
  | v :: vs, o :: os, s :: σ, [], l, k => by
    refine ⟨[], ?_⟩
    have : outsL (v :: vs) (o :: os) = [] := by
      have all : ∀ (ws : List V) (ps : List (Option D)), (∀ (i : Nat) v d, ws[i]? = some v → ps[i]? = some (some d) → False) → outsL ws ps = [] := by
        intro ws
        induction ws with
        | nil => intro ps _; cases ps <;> rfl
        | cons w ws ih =>
          intro ps hk
          cases ps with
          | nil => rfl
          | cons p ps =>
            cases p with
            | some d => exact (hk 0 w d rfl rfl).elim
            | none => exact ih ps fun i v d h1 h2 => hk (i + 1) v d (by simpa using h1) (by simpa using h2)
      exact all _ _ fun i v d h1 h2 => by have := (k i v d h1 h2).2; simp at this
    rw [this]; cases s <;> exact .refl _
  | v :: vs, o :: os, s :: σ, a :: af, l, k => by
    obtain ⟨R, p⟩ := outs_perm (vs := vs) (os := os) (σ := σ) (af := af) (by simpa using l) fun i v d h1 h2 => by
      have := k (i + 1) v d (by simpa using h1) (by simpa using h2)
      simpa using this
    cases o with
    | some d =>
      obtain ⟨e1, e2⟩ := k 0 v d rfl rfl
      simp at e1 e2; subst e1; subst e2
      exact ⟨R, p.cons _⟩
    | none =>
      cases a with
      | none => exact ⟨R, by cases s <;> exact p⟩
      | some d =>
        cases s with
        | none => exact ⟨R, p⟩
        | some w => exact ⟨(w, d) :: R, (p.cons _).trans List.perm_middle.symm⟩
theorem outs_len (f : Fn) (fr : Fr) : (outs f fr).length = f.ps := by simp [outs]
theorem ret_of {f : Fn} {vs : List V} {fp : List Addr} {L : List (V × D)} {N : List Str} (hB : B = ⟨H, F, fun a => a ∈ fp ∨ isTb Γ a⟩) (hl : vs.length = f.ps) (S : Sta Γ B F' H' σ af' L) (k : Kp f.prot (L2.start N vs) σ) :
    RetOk Γ F H fp (L ++ outsL vs (outs f af')) F' H' := by
  subst hB
  obtain ⟨R, p⟩ := outs_perm (vs := vs) (os := outs f af') (σ := σ) (af := af') (by rw [outs_len, hl]) fun i v d h1 h2 => by
    have hi : i < f.ps := by rw [← hl]; exact (List.getElem?_eq_some_iff.mp h1).1
    simp only [outs, List.getElem?_map, List.getElem?_range hi, Option.map_some, Option.some.injEq] at h2
    split at h2
    · rename_i hp
      refine ⟨?_, slot_iff.mp h2⟩
      rw [k i (by simpa using hp)]
      unfold L2.start
      rw [List.getElem?_append_left (by simpa [hl] using hi), List.getElem?_map, h1]; rfl
    · cases h2
  have own := S.own.perm (show (coll σ af' ++ L).Perm ((L ++ outsL vs (outs f af')) ++ R) from by
    refine (p.append_right L).trans ?_
    rw [List.append_assoc, List.append_assoc]
    refine (List.perm_append_comm.append_left (outsL vs (outs f af'))).trans ?_
    rw [← List.append_assoc, ← List.append_assoc]
    exact List.perm_append_comm.append_right R)
  obtain ⟨fq, r, n, q⟩ := own
  rw [List.map_append, List.map_append (l₁ := L ++ outsL vs (outs f af')) (f := fun x => x.2)] at r
  obtain ⟨v1, v2, f1, f2, e1, rfl, h1, h2⟩ := r.split
  have e2 := List.append_inj e1 (by rw [h1.length]; simp)
  rw [← e2.1] at h1
  refine ⟨S.mono, S.fz, ⟨f1, h1, (List.nodup_append.mp n).1, fun a m => ⟨(q a (List.mem_append_left _ m)).1, ?_⟩⟩, fun a o e h1 h2 => S.mod a o e (fun z => z.elim h1 h2), fun a h => ?_, S.tabs⟩
  · rcases (q a (List.mem_append_left _ m)).2 with (z | z) | z
    · exact .inl z
    · exact ((h1.kind a m).elim fun o' x => tab_notOwn S.tabs z x.1 x.2).elim
    · exact .inr z
  · rcases S.frF a h with z | (z | z) | z
    · exact .inl z
    · exact .inr (.inl z)
    · exact absurd (S.nt a z) h
    · exact .inr (.inr z)
end
section
variable {P : Program} {w : World} {K : PySem.W.Frag} {mg : Str → Option Value} {base : Heap} {Γ : Wd} {fld : String → Option String}
theorem def_ok {x qual : Str} {st : Stmt} {f : Addr} {fd : FuncData} {N ps : List Str} {k : Nat} {c : Cv} {fn : Fn} (Fd : L2.Fun K x qual st f fd) (S : FnScope N ps (defScope st)) (hps : fn.ps = ps.length) (hn : fn.n = N.length)
    (hbody : ∀ (cdv : Value) (A : Around) (outer : List Env) (s : Shared) (H : Hp) (E : XK), Room k (A.deeper (envOfC qual (defScope st) s.heap.objs.size f cdv)) → A.guards = some [] →
      PSs (cxOf (L2.CX P w) P w K mg base N qual (defScope st) f cdv A outer s H E) (defBody st) (tSt Γ fld (fun cls d _ H => E cls d H) fn.prot (exs { c with prot := fn.prot } fn.body))) :
    FnG P w K mg base (L2.CX P w) (k + 1) f fd ps (spOf Γ fld ps.length (runF c fn)) := by
  obtain ⟨oc, od, kV, doc, pm, an, cdv, ct, osl, rfl, lk, hcd⟩ := Fd.ex
  refine fn_ofG lk hcd S (fun vs H Q E h => h.1) fun A outer s H vs Q E hr hgd hsp => ⟨_, hbody cdv A outer s H E hr hgd, ?_⟩
  obtain ⟨hl, F, ds, fp, z, r, nd, hF, hT, hN0, hR⟩ := hsp
  have ld : ds.length = vs.length := r.length.symm
  have hN : ps.length ≤ N.length := by have := congrArg List.length S.pre; rw [List.length_take] at this; omega
  refine ⟨⟨H, F, fun a => a ∈ fp ∨ isTb Γ a⟩, F, [], VI.start fn ds, ⟨z.sub, z.tup, ?_, fun i d hi => ?_, ?_, fun a o e _ => e, FLe.refl F, fun a h => .inl h, hT, fun a i => .inr i, hN0⟩, ?_⟩
  · simp only [VI.start, L2.start, List.length_append, List.length_map, List.length_replicate]; omega
  · unfold VI.start at hi
    have hi2 : i < ds.length := by
      by_cases h : i < ds.length
      · exact h
      · rw [List.getElem?_append_right (by simpa using h), List.getElem?_replicate] at hi
        split at hi <;> cases hi
    refine ⟨vs[i]'(by omega), ?_⟩
    unfold L2.start
    rw [List.getElem?_append_left (by simp; omega), List.getElem?_map, List.getElem?_eq_getElem (by omega)]; rfl
  · have : coll (L2.start N vs) (VI.start fn ds) = vs.zip ds := coll_start ld
    rw [this, List.append_nil]
    refine ⟨fp, ?_, nd, fun a m => ⟨hF a m, .inl (.inl m)⟩⟩
    rw [zip_fst ld, zip_snd ld]; exact r
  · unfold runF at hR
    rw [if_pos (by rw [ld, hl, hps])] at hR
    have hlp : vs.length = fn.ps := by rw [hl, hps]
    cases e : exs { c with prot := fn.prot } fn.body (VI.start fn ds) with
    | nx af' =>
      rw [e] at hR
      obtain ⟨_, hR⟩ := hR
      intro σ' H' F' k' S'
      have S2 := S'.addPure (v := .non) (d := .non) (fp := []) .non rfl
      exact hR .non F' H' (ret_of rfl hlp S2 k')
    | rt d af' =>
      rw [e] at hR
      obtain ⟨_, hR⟩ := hR
      exact fun v σ' H' F' k' S' => hR v F' H' (ret_of rfl hlp S' k')
    | ex cc a af' =>
      rw [e] at hR
      obtain ⟨_, hR⟩ := hR
      intro σ' k' cls d F' H' hx
      obtain ⟨C, dd, va, fl, x1, x2, x3, x4, x5, S'⟩ := hx
      exact hR cls d va F' H' ⟨C, dd, fl, x1, x2, x3, x4, x5⟩ (ret_of rfl hlp S' k')
    | bk _ => rw [e] at hR; exact hR.elim
    | ct _ => rw [e] at hR; exact hR.elim
    | no => rw [e] at hR; exact hR.elim
end
end VI

end

section
set_option maxRecDepth 100000
set_option maxHeartbeats 4000000
/-! ViQ3: errors with one field, over any of the families: their making, their raising. -/
namespace VI
open PySem L2 PyProof.Rows

/-- what the written part says of an error's class at C, of its __init__ at fI, of its field -/
structure ExcG (K : PySem.W.Frag) (C fI : Addr) (fl : Str) : Prop where
  base : ∃ (B newId initId : String) (bmB : List Value), ExcBaseFacts B newId initId bmB ∧ PySem.StoreFacts B bmB "object.__setattr__" "object" ∧ PySem.W.excInitIn K C bmB newId = true ∧ PySem.W.excOver K C bmB = true
  sa : PySem.W.findIn K (.ref C) "__setattr__" = some (some (.builtin "object.__setattr__"))
  ga : PySem.W.findIn K (.ref C) "__getattribute__" = some (some (.builtin "BaseException.__getattribute__"))
  gg : PySem.W.findIn K (.ref C) "__getattr__" = some none
  no : PySem.W.findIn K (.ref C) fl = some none
  iC : PySem.W.findIn K (.ref C) "__init__" = some (some (.ref fI))
  tC : PySem.W.typeIn K (.ref fI) = some (.type "function")
  kC : PySem.W.keepIn K (.ref C) = true
  exC : PySem.W.subIn K (.ref C) (.type "BaseException") = some true
  tyC : PySem.W.typeIn K (.ref C) = some (.type "type")
  hdC : PySem.W.hasDictIn K C = true
section
open PySem.W PySem.Calls PyProof.Rows PySem.HandSPX Builtin Builtin.ObjectAttr
variable {prog : Program} {w : World} {A : Around} {E : Value → Shared → Prop} {R : Result → Shared → Prop} {hp : Heap} {g : Array GenState} {d : Drawn} {t : Nat} {os : OsState} {K : Frag} {C fI : Addr} {fl : Str}
/-- the first field of a fresh error -/
theorem osaG (T : ExcG K C fI fl) {tk : Tok} {v : Value} {x t1 : Addr} (X : K.In hp) (hx : hp.get? x = some (excO C t1))
    (hq : ∀ h' tk' dx, (∀ b o, b ≠ x → hp.get? b = some o → h'.get? b = some o) → hp.objs.size ≤ dx → dx ≠ x → h'.get? x = some { cls := .ref C, dict := some dx, data := .fields #[.ref t1, .none, .none, .none, .bool false, .none] } →
      h'.Ns1 dx (fun y => if y = fl then some v else none) → R (.ok (.ret .none)) ⟨h', g, d, tk', os⟩) :
    codeAny (model prog w) A (.call (.builtin "object.__setattr__") ⟨[.ref x, .str fl tk, v], []⟩) R ⟨hp, g, d, t, os⟩ := by
  obtain ⟨B, newId, initId, bmB, FB, SF, h1, h2⟩ := T.base
  have I : W.InstAt hp x (excO C t1) C none := ⟨hx, rfl, rfl, trivial⟩
  have hxs : x ≠ hp.objs.size := Nat.ne_of_lt (Heap.lt_size hx)
  have ht : W.takerIn K C fl = some none := by unfold W.takerIn; rw [T.no]; rfl
  refine W.osa_openX (s := ⟨hp, g, d, t, os⟩) SF X I h2 ht fun b => ?_
  obtain ⟨cd, hcd, hh⟩ := any_some T.hdC
  have hcls : W.Looks (model prog w) hp (classData C) cd := W.looks_clsIn X hcd
  obtain ⟨nm, bs, mro, ns, qn, hd, sn, sb, ab, col, del⟩ := cd
  dsimp only at hh
  subst hh
  show wpAny _ _ (storeInOwnDict (.ref x) (.ref C) (.str fl tk) fl v b) _ _ _
  unfold storeInOwnDict ownDictForStores
  repeat (first | with_reducible refine store_in_new ?_ ?_ | with_reducible refine wpAny_loadPart_at hx ?_ | with_reducible refine hcls.at ?_ | wp_step)
  · exact ⟨_, #[], _, (Heap.get?_update_ne _ _ _ _ hxs.symm).trans (Heap.get?_push_at rfl rfl), rfl, fun e he => absurd he (by simp), fun _ => rfl⟩
  · intro h' tk' hn' hs
    have hx₁ : (hp.push { cls := .type "dict", data := .dict #[] }).get? x = some (excO C t1) := Heap.get?_push_of_some _ hx
    refine hq h' tk' hp.objs.size (fun b o hb ho => ?_) (Nat.le_refl _) hxs.symm ?_ hn'
    · exact (hs.2 b (Nat.ne_of_lt (Heap.lt_size ho))).trans ((Heap.get?_update_ne _ _ _ _ hb).trans (Heap.get?_push_of_some _ ho))
    · exact (hs.2 x hxs).trans (Heap.get?_update_self _ hx₁ rfl)
end
section
variable {X : Cx} {pins : List (Addr × Obj)} {σ : L2.St} {H : Hp} {s : Shared} {a C fI : Addr} {fl : Str} {y : V} {u : Value} {Q : Unit → Shared → Prop} {E : Value → Shared → Prop} {A : Around}
/-- self.f = y -/
theorem ostG (T : ExcG X.K C fI fl) (I : Inv X pins σ H s) (e : H a = some (exo a C none)) (ry : RelV y u)
    (h : ∀ dx s', H dx = none → dx ≠ a → Inv X pins σ (upd (upd H dx (exd dx [(fl, y)])) a (exo a C (some dx))) s' → Q () s') : wpAny (model X.prog X.w) A (setAttr (.ref a) fl u) Q E s := by
  obtain ⟨t1, ho⟩ := exo_at I.hok e
  obtain ⟨hp, g, d, t, os⟩ := s
  refine PySem.W.set_plain I.kIn (ox := PySem.HandSPX.excO C t1) (od := none) ⟨ho, rfl, rfl, trivial⟩ T.sa ?_
  refine osaG T I.kIn ho (fun h' tk' dx k dn dne hx hn => ?_)
  have hnd : H dx = none := I.hok.fresh dn
  have nd : ∀ {b : Addr} {o : Obj}, hp.get? b = some o → b ≠ dx := fun {b o} q => Nat.ne_of_lt (Nat.lt_of_lt_of_le (Heap.lt_size q) dn)
  have na : ∀ {b : Addr}, H b = none → b ≠ a := fun {b} n z => by
    rw [z, e] at n
    cases n
  have Un1 : Un X.fs [] H (upd (upd H dx (exd dx [(fl, y)])) a (exo a C (some dx))) hp h' := {
    keep := fun b o q n _ _ => k b o (na n) q
    slot := fun b o q n _ _ => ⟨o.slots, k b o (na n) q⟩
    free := fun b o q n _ => by rw [upd_ne (na n), upd_ne (nd q)]; exact n
    there := fun b o q _ => by
      by_cases hb : b = a
      · exact ⟨_, by rw [hb]; exact hx⟩
      · exact ⟨o, k b o hb q⟩
    tups := fun b xs q => by rw [upd_ne (at_ne e q exo_tup), upd_ne (ne_of_none q hnd)]; exact q
    frzs := fun b o v q => by rw [upd_ne (at_ne e q exo_frz), upd_ne (ne_of_none q hnd)]; exact q
    tbls := fun b ps q => ⟨#[], by rw [upd_ne (at_ne e q exo_tbl), upd_ne (ne_of_none q hnd), q]; simp⟩ }
  refine h dx _ hnd dne (I.un (t' := tk') Un1 fun b o q => ?_)
  by_cases hb : b = a
  · subst hb
    rw [upd_same] at q
    cases q
    exact exo_ok hx
  · rw [upd_ne hb] at q
    by_cases hd : b = dx
    · subst hd
      rw [upd_same] at q
      cases q
      exact exd_ok hn (relO_put (fs := []) ry fun g => True.intro)
    · rw [upd_ne hd] at q
      exact (I.hok b o q).stay (fun c v hc z => k c v (by
          rcases hc with hc | hc
          · rw [hc]
            exact hb
          · exact at_ne e hc exo_own) z)
        (fun c hc => by rw [upd_ne (at_ne e hc exo_own), upd_ne (ne_of_none hc hnd)]; exact hc) (fun c xs hc => by rw [upd_ne (at_ne e hc exo_tup), upd_ne (ne_of_none hc hnd)]; exact hc)
end
/-- self.f = e, self a fresh error -/
def tOsG (K : PySem.W.Frag) (f : Str) (to te : TE) : TS := fun D σ H => te σ H fun y H1 => to σ H1 fun x H2 => ∃ a C fI : Addr, x = .ref a ∧ ExcG K C fI f ∧ H2 a = some (exo a C none) ∧ ∀ dx, H2 dx = none → dx ≠ a → D.nx σ (upd (upd H2 dx (exd dx [(f, y)])) a (exo a C (some dx)))
theorem ps_osG {X : Cx} {o e : Expr} {to te : TE} {f : Str} {p' pos : Pos} (ho : PE X o to) (he : PE X e te) (hs : swapsWith e (some (.Attribute o f p')) pos.line X.env = pure false) : PS X (.Assign [.Attribute o f p'] e pos) (tOsG X.K f to te) := by
  refine ⟨fun pins s σ H D I h => ?_⟩
  refine plainObj_wpAny_Assign_Attribute (thn (he.run pins s σ H _ I h) fun v s1 ⟨y, H1, I1, r1, q1⟩ => thn (ho.run pins s1 σ H1 _ I1 q1) fun u s2 ⟨x, H2, I2, r2, a, C, fI, ex, T, ea, q⟩ => ?_) hs
  subst ex
  obtain rfl : u = Value.ref a := r2
  exact ostG T I2 ea r1 fun dx s' n ne J => ⟨σ, _, J, q dx n ne⟩
/-- the promise of such an __init__ -/
def spInit (K : PySem.W.Frag) (f : Str) : Sp := fun vs H Q _ => ∃ (a C fI : Addr) (y : V), vs = [.ref a, y] ∧ ExcG K C fI f ∧ H a = some (exo a C none) ∧ ∀ dx, H dx = none → dx ≠ a → Q .non (upd (upd H dx (exd dx [(f, y)])) a (exo a C (some dx)))
/-- the text of such an __init__: its parameters x, f; its field f -/
def initText (x f : Str) : Stmt → Bool
  | .Assign [.Attribute (.Name y _) g _] (.Name z _) _ => decide (y = x) && decide (g = f) && decide (z = f)
  | _ => false
theorem init_ok {P : Program} {w : World} {K : PySem.W.Frag} {mg : Str → Option Value} {base : Heap} {CX : CXT} {qual nm x f : Str} {st b : Stmt} {fI : Addr} {fd : FuncData} (F : L2.Fun K nm qual st fI fd) (S : FnScope [x, f] [x, f] (defScope st)) (hb : defBody st = [b]) (ht : initText x f b = true)
    (hd1 : (x == ("__debug__" : Str)) = false) (hc1 : (x == ("__classdict__" : Str)) = false) (hd2 : (f == ("__debug__" : Str)) = false) (hc2 : (f == ("__classdict__" : Str)) = false) :
    FnOk P w K mg base CX 1 fI fd [x, f] (spInit K f) := by
  have hl : ∀ (vs : List V) (H : Hp) (Q : VK) (E : XK), spInit K f vs H Q E → vs.length = 2 := fun vs H Q E ⟨a, C, fI, y, e, _⟩ => by rw [e]; rfl
  obtain ⟨oc, od, kV, doc, pm, an, cdv, ct, osl, rfl, lk, hcd⟩ := F.ex
  refine fn_of lk hcd S hl fun A outer s H vs Q E hr h => ?_
  obtain ⟨a, C, fI, y, rfl, T, ea, q⟩ := h
  have vis : ∀ {i : Nat} {z : Str}, [x, f][i]? = some z → Vis (defScope st) z := fun {i z} hi => by
    have hm : z ∈ [x, f] := List.mem_of_getElem? hi
    rcases S.par z hm with c | c
    · exact .inl c
    · exact .inr (.inl c)
  unfold initText at ht
  split at ht
  · rename_i y' p1 g p2 z p3 p4
    simp only [Bool.and_eq_true, decide_eq_true_eq] at ht
    obtain ⟨⟨rfl, rfl⟩, rfl⟩ := ht
    rw [hb]
    refine ⟨_, pss_one (ps_osG (pe_var (i := 0) rfl (vis (i := 0) rfl) hd1 hc1) (pe_var (i := 1) rfl (vis (i := 1) rfl) hd2 hc2) (by rfl)), ?_⟩
    exact ⟨y, rfl, .ref a, rfl, a, C, fI, rfl, T, ea, q⟩
  · cases ht
/-- C(e), C such a class -/
def tMkG (C : Addr) (f : Str) (ta : TA) : L2.St → Hp → XK → Prop := fun σ H Q => ta σ H fun vs H1 => ∃ v, vs = [v] ∧ ∀ d, H1 d = none → Q (.ref C) (some d) (upd H1 d (.xd [(f, v)]))
section
variable {X : Cx} {e : Expr} {ta : TA} {p pos : Pos}
theorem pmkG {CX : CXT} {x f pn : Str} {C fI : Addr} {k : Nat} {fd : FuncData} (T : ExcG X.K C fI f) (F1 : FnOk X.prog X.w X.K X.mg X.base CX k fI fd [pn, f] (spInit X.K f)) (hr : Room (k + 1) X.A) (hb : Binds X.K fd [pn, f] []) (hx : Passes CX X (fun _ _ _ => False)) (hg : Gl X x) (hm : X.mg x = some (.ref C)) (ha : PA X [e] ta)
    (hdb : (x == ("__debug__" : Str)) = false) (he : starEach [e] X.env = (false, eval e X.env) :: starEach [] X.env) :
    PMk X (.Call (.Name x p) [e] [] pos) (tMkG C f ta) := by
  intro pins s σ H Q I h
  obtain ⟨B, newId, initId, bmB, FB, SF, h1, h2⟩ := T.base
  refine wpAny_Call_Name_kw (ld_glob I hg hm ?_ hdb)
  refine PySem.W.callWith_K (h₀ := X.base) I.ok.mod.kin T.kC (thn (ha.run pos pins s σ H _ I h) fun us s1 ⟨vs, H1, I1, r1, hz, ez, q1⟩ => ⟨I1.kIn, ?_⟩) he (by rfl)
  subst ez
  show wpAny _ _ (call (.ref C) us) _ _ _
  obtain ⟨nm, N, qn, bs, bm, hdct, sn, sub, ab, col, dd, k0, k1, k2, k3, k5, hC, hT⟩ := PySem.W.excInit_of I1.kIn h1
  obtain ⟨hp, g, dr, tk, os⟩ := s1
  have hsz : hp.objs.size ≤ hp.objs.size + 1 := Nat.le_succ _
  have hn : H1 (hp.objs.size + 1) = none := I1.hok.fresh hsz
  have kk : ∀ b o, hp.get? b = some o → ((hp.push (PySem.W.kdv_tup us)).push (PySem.HandSPX.excO C hp.objs.size)).get? b = some o := fun b o e => Heap.get?_push_of_some _ (Heap.get?_push_of_some _ e)
  have hget : ((hp.push (PySem.W.kdv_tup us)).push (PySem.HandSPX.excO C hp.objs.size)).get? (hp.objs.size + 1) = some (PySem.HandSPX.excO C hp.objs.size) := by heap_get
  have I2 : Inv X pins σ (upd H1 (hp.objs.size + 1) (exo (hp.objs.size + 1) C none)) ⟨(hp.push (PySem.W.kdv_tup us)).push (PySem.HandSPX.excO C hp.objs.size), g, dr, tk, os⟩ :=
    I1.laid (t' := tk) (a := hp.objs.size + 1) (o := exo (hp.objs.size + 1) C none) (h' := (hp.push (PySem.W.kdv_tup us)).push (PySem.HandSPX.excO C hp.objs.size)) kk hsz (exo_ok hget)
  have r2 : Vals [V.ref (hp.objs.size + 1), hz] (Value.ref (hp.objs.size + 1) :: us) := .cons rfl r1
  have hl : (Value.ref (hp.objs.size + 1) :: us).length = [pn, f].length := by
    rw [← r2.length]; rfl
  have hus : us.length ≤ sizeLine := by
    rw [← Paired.length r1, sizeLine_eq]
    show 1 ≤ 16777216
    decide
  have prom : spInit X.K f [V.ref (hp.objs.size + 1), hz] (upd H1 (hp.objs.size + 1) (exo (hp.objs.size + 1) C none)) (fun v H2 => v = .non ∧ ∃ (d : Addr) (fs : List (Str × V)), H2 (hp.objs.size + 1) = some (exo (hp.objs.size + 1) C (some d)) ∧ H2 d = some (exd d fs) ∧ H1 d = none ∧ Q (.ref C) (some d) (upd (del H2 (hp.objs.size + 1)) d (.xd fs))) (fun _ _ _ => False) := by
    refine ⟨_, C, fI, hz, rfl, T, upd_same, fun dx n ne => ⟨rfl, dx, [(f, hz)], upd_same, by rw [upd_ne ne, upd_same], ?_, ?_⟩⟩
    · rw [upd_ne ne] at n; exact n
    · have n' : H1 dx = none := by rw [upd_ne ne] at n; exact n
      have := q1 dx n'
      have e : upd (del (upd (upd (upd H1 (hp.objs.size + 1) (exo (hp.objs.size + 1) C none)) dx (exd dx [(f, hz)])) (hp.objs.size + 1) (exo (hp.objs.size + 1) C (some dx))) (hp.objs.size + 1)) dx (.xd [(f, hz)]) = upd H1 dx (.xd [(f, hz)]) := by
        funext b
        by_cases hb : b = dx
        · rw [hb, upd_same, upd_same]
        · rw [upd_ne hb, upd_ne hb]
          by_cases hb2 : b = hp.objs.size + 1
          · rw [hb2, del_same, hn]
          · rw [del_ne hb2, upd_ne hb2, upd_ne hb, upd_ne hb2]
      rw [e]; exact this
  have bnd := hb _ (Value.ref (hp.objs.size + 1) :: us) I2.kIn (by rw [List.append_nil]; exact hl)
  rw [List.append_nil] at bnd
  refine wpAny_call (PySem.HandSPX.call_own FB hT hC (PySem.W.looks_findIn I1.kIn T.iC) (fun self => PySem.W.bind_fn I1.kIn self T.tC) hus
    (codeAny_mono (F1.run _ X.stack _ _ ⟨Value.ref (hp.objs.size + 1) :: us, []⟩ (Value.ref (hp.objs.size + 1) :: us) _ _ (fun _ _ _ => False) (hr.make C us []) (I2.env0.make C us []) bnd r2 prom) fun r s' hq' => ?_))
  cases r with
  | error er => exact hx pins σ _ _ er s' I2 hq'
  | ok fl =>
    cases fl with
    | ret u =>
      obtain ⟨v, H2, os2, bare2, un2, hok2, rv, ev, d, fs, ea, ed, hd1, q2⟩ := hq'
      subst ev
      obtain ⟨h2', g2, d2, t2, os'⟩ := s'
      exact ⟨rv, mk_end (raises_own T.exC T.tyC) I1 hsz kk un2 hok2 os2 bare2 ea ed hd1 q2⟩
    | next => exact False.elim hq'
    | brk => exact False.elim hq'
    | cont => exact False.elim hq'
end
end VI

end

section
/-! ViQ4: errors and ranges, by the evaluator. -/
namespace VI
open PySem L2 PyProof.Rows

/-- what the written part says of the classes of errors -/
structure ErrF (ex : List Ecl) (Γ : Wd) (fld : String → Option String) (P : Program) (w : World) (K : PySem.W.Frag) (mg : Str → Option Value) (base : Heap) : Prop where
  cls : ∀ t e, eclOf ex t = some e → ∃ C, Γ.cls t = some C ∧ mg (Str.ofString t) = some (.ref C)
  inv : ∀ k fl, fld k = some fl → fldE ex k = some fl
  mkr : ∀ k fl, fldE ex k = some fl → fld k = some fl ∧ ∃ C fI pn fd, Γ.cls k = some C ∧ ExcG K C fI (Str.ofString fl) ∧ (∀ CX, FnOk P w K mg base CX 1 fI fd [pn, Str.ofString fl] (spInit K (Str.ofString fl))) ∧ Binds K fd [pn, Str.ofString fl] [] ∧ ExcC K C
  sub : ∀ k t b C D fl, fldE ex k = some fl → subE ex k t = some b → Γ.cls k = some C → Γ.cls t = some D → PySem.W.exmOne K (.ref C) (.ref D) = some b ∧ PySem.W.kitOne K (.ref C) (.ref D) = some b
section
variable {ex : List Ecl} {Γ : Wd} {fld : String → Option String} {P : Program} {w : World} {K : PySem.W.Frag} {mg : Str → Option Value} {base : Heap}
theorem subE_ecl {k t : String} {b : Bool} (h : subE ex k t = some b) : ∃ e, eclOf ex t = some e := by
  unfold subE at h
  split at h
  · rename_i e e' h1 h2; exact ⟨e', h2⟩
  · cases h
/-- the classes ts, in a row -/
inductive ClsL (Γ : Wd) (mg : Str → Option Value) : List String → List Addr → Prop
  | nil : ClsL Γ mg [] []
  | cons {t : String} {D : Addr} {ts : List String} {Ds : List Addr} : Γ.cls t = some D → mg (Str.ofString t) = some (.ref D) → ClsL Γ mg ts Ds → ClsL Γ mg (t :: ts) (D :: Ds)
theorem clsL_of (F : ErrF ex Γ fld P w K mg base) {k : String} : ∀ {ts : List String} {b : Bool}, anyE ex k ts = some b → ∃ Ds, ClsL Γ mg ts Ds
  | [], _, _ => ⟨[], .nil⟩
  | t :: ts, b, h => by
    unfold anyE at h
    split at h
    · rename_i a c h1 h2
      obtain ⟨e, he⟩ := subE_ecl h1
      obtain ⟨D, d1, d2⟩ := F.cls t e he
      obtain ⟨Ds, r⟩ := clsL_of F h2
      exact ⟨D :: Ds, .cons d1 d2 r⟩
    · cases h
theorem exmAny_of (F : ErrF ex Γ fld P w K mg base) {k fl : String} {C : Addr} (hf : fldE ex k = some fl) (hC : Γ.cls k = some C) : ∀ {ts : List String} {Ds : List Addr} {b : Bool}, ClsL Γ mg ts Ds → anyE ex k ts = some b → PySem.W.exmAny K (.ref C) (Ds.map Value.ref) = some b
  | [], [], b, _, h => by cases h; rfl
  | t :: ts, D :: Ds, b, .cons d1 d2 r, h => by
    unfold anyE at h
    split at h
    · rename_i a c h1 h2
      cases h
      have e1 := (F.sub k t a C D fl hf h1 hC d1).1
      have e2 := exmAny_of F hf hC r h2
      show (match PySem.W.exmOne K (.ref C) (.ref D), PySem.W.exmAny K (.ref C) (Ds.map Value.ref) with
        | some b, some d => some (b || d)
        | _, _ => none) = _
      rw [e1, e2]
    · cases h
end
section
variable {Γ : Wd} {fld : String → Option String} {W : WX} {B : Bd} {F F' H H' : Hp} {σ : L2.St} {af af' : Fr} {T T' : List (V × D)}
theorem alloc_any {o : HO} (ho : ∀ vs, o ≠ .tup vs) (z : Fz F H) {p : Addr} (hp : H p = none) : Alloc F H F (upd H p o) where
  same := fun a q e => by rw [upd_ne (ne_of_none e hp)]; exact e
  le := .refl _
  sub := fun a q e => by rw [upd_ne (ne_of_none (z.sub a q e) hp)]; exact z.sub a q e
  tup := fun a ws e => by
    by_cases h : a = p
    · subst h; rw [upd_same] at e; cases e; exact (ho _ rfl).elim
    · rw [upd_ne h] at e; exact z.tup a ws e
  fr := fun a h => .inl h
/-- something new, known for good -/
theorem alloc_fz {o : HO} (ho : ∀ vs, o ≠ .tup vs) (z : Fz F H) {p : Addr} (hp : H p = none) : Alloc F H (upd F p o) (upd H p o) where
  same := fun a q e => by rw [upd_ne (ne_of_none e hp)]; exact e
  le := fun a q e => by rw [upd_ne (ne_of_none (z.sub a q e) hp)]; exact e
  sub := fun a q e => by
    by_cases h : a = p
    · subst h; rw [upd_same] at e ⊢; exact e
    · rw [upd_ne h] at e ⊢; exact z.sub a q e
  tup := fun a ws e => by
    by_cases h : a = p
    · subst h; rw [upd_same] at e; cases e; exact (ho _ rfl).elim
    · rw [upd_ne h] at e ⊢; exact z.tup a ws e
  fr := fun a h => by
    by_cases h' : a = p
    · subst h'; exact .inr hp
    · rw [upd_ne h'] at h; exact .inl h
section
variable {X : Cx} {e : Expr} {fe : Fr → Rs Rv} {prot : List Nat} {p pos pos2 : Pos}
/-- raise k(e) -/
theorem ps_raisD {c : Cv} {k : String} {x : Str} {n : Nat} (hx : x = Str.ofString k) (EF : ErrF c.exc Γ fld X.prog X.w X.K X.mg X.base) (hc : X.calm = true) (hr : Room 2 X.A) (tk : Takes X W) (hg : Gl X x) (hdb : (x == ("__debug__" : Str)) = false) (he : starEach [e] X.env = (false, eval e X.env) :: starEach [] X.env)
    (ha : PE X e (tE Γ fld W fe)) (hk : (fldE c.exc k).isSome = true) :
    PS X (.Raise (some (.Call (.Name x p) [e] [] pos)) none pos2) (tSt Γ fld W prot (fun fr => (fe fr).fl fun r fr => (r.own fr).fl fun d fr => if (fldE c.exc k).isSome then .ex k d fr else .no)) := by
  subst hx
  obtain ⟨fl, hfl⟩ := Option.isSome_iff_exists.mp hk
  obtain ⟨hfk, C, fI, pn, fd, hC, T, FI, hb, EC⟩ := EF.mkr k fl hfl
  obtain ⟨ecl, hecl⟩ : ∃ e, eclOf c.exc k = some e := by
    unfold fldE at hfl
    split at hfl
    · rename_i e he; exact ⟨e, he⟩
    · cases hfl
  obtain ⟨C', hC', hm⟩ := EF.cls k ecl hecl
  rw [hC] at hC'; cases hC'
  refine (ps_raise hc tk (pmkG T (FI C8.CX0) hr hb (pass0) hg hm (pa_cons ha pa_nil he) hdb he)).imp fun D' σ H h => ?_
  obtain ⟨B, F, T', af, S, h⟩ := h
  refine ⟨B, F, T', af, S, rG_mono (fl_step h) (fun r f1 q1 e1 h1 v H1 F1 l1 k1 p1 => ?_) fun _ _ _ z => z⟩
  have h2 := fl_step h1
  cases e2 : r.own f1 with
  | no => rw [e2] at h2; exact h2.elim
  | ex _ _ _ => exact (own_noex e2).elim
  | ok d f2 q2 =>
    rw [e2] at h2
    obtain ⟨F2, l2, S2, _⟩ := own_one p1 e2
    simp only [rG] at h2
    rw [if_pos hk] at h2
    refine ⟨v, rfl, fun dd hd => ?_⟩
    refine h2 σ (Kp.refl σ) (.ref C) (some dd) F2 _ ⟨C, dd, v, fl, hC, rfl, rfl, hfk, upd_same, ?_⟩
    exact S2.grown (alloc_any (fun vs z => by cases z) S2.fz hd)
/-- a dict of an error is known for good -/
theorem Sta.fzX {dd : Addr} {fs : List (Str × V)} (S : Sta Γ B F H σ af T) (h : H dd = some (.xd fs)) : ∃ F', FLe F F' ∧ F' dd = some (.xd fs) ∧ Sta Γ B F' H σ af T := by
  obtain ⟨fp, r, n, q⟩ := S.own
  have nd : ∀ a ∈ fp, a ≠ dd := fun a m e => by
    obtain ⟨o, e1, k⟩ := r.kind a m
    rw [e, h] at e1; cases e1; exact k
  have le : FLe F (upd F dd (.xd fs)) := fun b o e => by
    by_cases hb : b = dd
    · subst hb
      have := S.sub _ _ e
      rw [h] at this; cases this
      exact upd_same
    · rw [upd_ne hb]; exact e
  refine ⟨upd F dd (.xd fs), le, upd_same, fun b o e => ?_, fun b vs e => ?_, S.len, S.bnd, ⟨fp, r.mono le.k fun _ _ => rfl, n, fun a m => ⟨by rw [upd_ne (nd a m)]; exact (q a m).1, (q a m).2⟩⟩, S.mod, S.mono.trans le, fun a e => ?_, S.tabs, S.mt, fun a i => ?_⟩
  · by_cases hb : b = dd
    · subst hb; rw [upd_same] at e; cases e; exact h
    · rw [upd_ne hb] at e; exact S.sub _ _ e
  · by_cases hb : b = dd
    · subst hb; rw [h] at e; cases e
    · rw [upd_ne hb]; exact S.tup _ _ e
  · by_cases hb : a = dd
    · subst hb
      exact .inr (S.loose fun o e2 k => by rw [h] at e2; cases e2; exact k)
    · rw [upd_ne hb] at e; exact S.frF a e
  · by_cases hb : a = dd
    · subst hb
      obtain ⟨q, hq⟩ := i
      obtain ⟨ps, z, _⟩ := S.tabs _ hq
      have z : H a = some (.tbl ps) := z
      rw [h] at z; cases z
    · rw [upd_ne hb]; exact S.nt a i
theorem Sta.gone {i : Nat} (S : Sta Γ B F H σ af T) : Sta Γ B F H (σ.set i none) (af.set i none) T := by
  have S' := S.forget i
  refine { S' with len := by simp [S.len], bnd := fun j d h => ?_, own := by rw [coll_off]; exact S'.own }
  by_cases hj : i = j
  · subst hj
    by_cases hl : i < af.length
    · rw [List.getElem?_set_self hl] at h; cases h
    · rw [List.getElem?_eq_none (by simpa using hl)] at h; cases h
  · rw [List.getElem?_set_ne hj] at h ⊢
    exact S.bnd j d h
section
variable {X : Cx} {body suite : List Stmt} {b₀ : Stmt} {te : Expr} {fb fsu : Fr → Fl} {prot : List Nat} {pos pos' : Pos} {W1 : WX}
/-- try: body, except cs as n: suite -/
theorem ps_tryD {c : Cv} {cs : List String} {Ds : List Addr} {i : Nat} {n : Str} (EF : ErrF c.exc Γ fld X.prog X.w X.K X.mg X.base) (hs : X.stack = X.env :: X.outer) (hf : X.env.frame = some X.env.locals) (hN : X.N.Nodup) (hi : X.N[i]? = some n) (hln : X.env.kindOf n = some .local)
    (hDs : ClsL Γ X.mg cs Ds) (hte : ClsE X te (Ds.map Value.ref)) (tk : Takes X W)
    (hb : ∀ (W' : WX) (pn : List (Addr × Obj)) (xe : Value → Shared → Prop), Takes (X.tr pn xe) W' → PassesOwn (model X.prog X.w) X.A X.env xe → PSs (X.tr pn xe) body (tSt Γ fld W' prot fb))
    (hsu : ∀ (a : Addr) (pn : List (Addr × Obj)), PSs (X.suite a pn) (b₀ :: suite) (tSt Γ fld W1 prot fsu)) :
    PS X (.Try body [.ExceptHandler (some te) (some n) (b₀ :: suite) pos'] [] [] pos) (tSt Γ fld W prot (fun fr => tryF c.exc prot cs i (fb fr) fsu)) := by
  refine (ps_try_keep hs hf hN hi hln hte tk (tb := fun W' => tSt Γ fld W' prot fb) hb (ts := fun _ => tSt Γ fld W1 prot fsu) hsu).imp fun D' σ H h => ?_
  obtain ⟨B, F, T, af, S, h⟩ := h
  refine ⟨B, F, T, af, S, ?_⟩
  dsimp only at h
  cases ef : fb af with
  | nx af1 => rw [ef] at h; exact h
  | bk af1 => rw [ef] at h; exact h
  | ct af1 => rw [ef] at h; exact h
  | rt d af1 => rw [ef] at h; exact h
  | no => rw [ef] at h; exact h
  | ex k a af1 =>
    rw [ef] at h
    intro σ' kp cls d F' H' hx
    have hx0 := hx
    obtain ⟨C, dd, va, fl, hC, rfl, rfl, hfl, hxd, S'⟩ := hx
    have hf2 := EF.inv k fl hfl
    simp only [tryF, hf2] at h
    cases e1 : anyE c.exc k cs with
    | none => rw [e1] at h; exact h.elim
    | some b =>
      rw [e1] at h
      have ea := exmAny_of EF hf2 hC hDs e1
      refine ⟨b, ea, fun hbt => ⟨C, dd, rfl, rfl, fun a0 ha0 => ?_⟩, fun hbf => ?_⟩
      · subst hbt
        simp only at h
        split at h
        · rename_i hc
          simp only [Bool.and_eq_true, decide_eq_true_eq, Bool.not_eq_true', List.contains_eq_mem, decide_eq_false_iff_not] at hc
          obtain ⟨⟨hp, hlt⟩, hpr⟩ := hc
          cases es : fsu (af1.set i (some (.exn k fl a))) with
          | nx af2 =>
            rw [es] at h
            obtain ⟨F2, l2, x2, S2⟩ := S'.fzX hxd
            have A := alloc_fz (o := exnO a0 C dd) (fun vs z => exnO_tup z) S2.fz ha0
            have S3 := S2.grown A
            obtain ⟨fp, rva⟩ := S3.rp
            have rva0 := rva.any (F' := upd F2 a0 (exnO a0 C dd)) (H' := upd H' a0 (exnO a0 C dd)) (FLe.refl _).k hp
            have ne : dd ≠ a0 := fun z => by rw [z, ha0] at hxd; cases hxd
            have rex : Rp Γ (upd F2 a0 (exnO a0 C dd)) (upd H' a0 (exnO a0 C dd)) (.ref a0) (.exn k fl a) [] := .exn (.inl upd_same) (.inl (by rw [upd_ne ne]; exact x2)) hC rva0 hp
            have S4 := (S3.drop.addPure rex (by simpa [D.pure] using hp)).store (x := i) hlt
            refine ⟨B, _, T, _, S4, ?_⟩
            rw [es]
            intro σ2 H2 F4 k2 S5
            refine h _ _ F4 (fun j hj => ?_) S5.gone
            · have nij : i ≠ j := fun z => hpr (by rw [z]; exact hj)
              rw [List.getElem?_set_ne nij, k2 j hj, List.getElem?_set_ne nij]
              exact kp j hj
          | bk _ => rw [es] at h; exact h.elim
          | ct _ => rw [es] at h; exact h.elim
          | rt _ _ => rw [es] at h; exact h.elim
          | ex _ _ _ => rw [es] at h; exact h.elim
          | no => rw [es] at h; exact h.elim
        · exact h.elim
      · subst hbf
        exact h σ' kp _ _ F' H' hx0
end
end
end
end VI

end

section
set_option maxRecDepth 100000
set_option maxHeartbeats 4000000
/-! ViQ2: isinstance and the field of a caught error that has its dict; ranges. -/
namespace VI
open PySem L2 PyProof.Rows PySem.W PySem.Calls
section
variable {prog : Program} {w : World} {A : Around} {E : Value → Shared → Prop} {s : Shared} {K : Frag} {x D : Addr} {ox od : Obj}
theorem findObj_dataD {C : Addr} {name : Str} {a g : Value} (hc : (clsIn K C).isSome = true) (ha : findIn K (.ref C) name = some (some a)) (hg : specialIn K a "__get__" = some (some g)) (ht : takesIn K a = some true) : findObj K C (some od) name = some (.bind g a) := by
  obtain ⟨cd, hc⟩ := Option.isSome_iff_exists.mp hc
  unfold findObj
  rw [hc, Option.bind_some, ha, Option.bind_some]
  simp [hg, ht]
theorem classAttrD (T : ExcC K D) (X : K.In s.heap) (I : InstAt s.heap x ox D (some od)) {Q : Option Value → Shared → Prop} (h : Q (some (.ref D)) { s with toks := s.toks + 1 }) : wpAny (model prog w) A (getAttr? (.ref x) "__class__") Q E s := by
  have hf : findObj K D (some od) "__class__" = some (.bind (.builtin "getset_descriptor.__get__") (.builtin "object.__class__")) := findObj_dataD (by obtain ⟨cd, hc, _⟩ := any_some T.hd; rw [hc]; rfl) T.ha T.hn T.ht
  obtain ⟨hp, g, d, t, os⟩ := s
  have L0 := I.type (M := model prog w)
  have L1 := looks_findIn (M := model prog w) X T.hg
  have L2 := looks_findIn (M := model prog w) X T.hk
  have L3 := looks_find (M := model prog w) X I hf
  have sub : Looks (model prog w) hp (isInstance (.ref x) (.type "BaseException")) true := L0.andThen (looks_subIn X T.hs)
  have hx0 : (false && onTheHeap (Value.builtin "BaseException.__getattribute__")) = false := rfl
  have hx2 : (Value.builtin "BaseException.__getattribute__" == Value.builtin "object.__getattribute__") = false := by decide +kernel
  have hx1 : (onTheHeap (Value.ref D) && Value.builtin "BaseException.__getattribute__" == Value.builtin "object.__getattribute__") = false := by rw [hx2]; rfl
  unfold getAttr? getAttrBy? getAttrBy
  refine wpAny_bind (wpAny_mkText (wpAny_bind (wpAny_attempt (wpAny_holding (wpAny_bind (L0.at (wpAny_bind (L1.at ?_))))))))
  show wpAny _ _ (if (onTheHeap (Value.ref D) && Value.builtin "BaseException.__getattribute__" == Value.builtin "object.__getattribute__") = true then _ else _) _ _ _
  rw [hx1, if_neg Bool.false_ne_true]
  unfold getAttrByItsOwn hookBefore
  refine wpAny_bind ?_
  rw [if_pos (show onTheHeap (Value.ref D) = true from rfl)]
  refine L2.at ?_
  refine wpAny_bind (wpAny_attempt (wpAny_holding ?_))
  unfold callGetattribute
  rw [hx0, if_neg Bool.false_ne_true]
  unfold boundAndCalled
  rw [PySem.F.excAttr_ValueError.ga.bind (.ref x)]
  refine wpAny_bind (wpAny_pure ?_)
  show wpAny _ _ (call (.builtin "BaseException.__getattribute__") [.ref x, .str "__class__" t]) _ _ _
  refine wpAny_call (codeAny_call_builtin PySem.F.excAttr_ValueError.ga.plain PySem.F.entry_bexc_ga ?_)
  refine @check_slot (model prog w) _ _ ⟨hp, g, d, t + 1, os⟩ "BaseException.__getattribute__" "BaseException" "__getattribute__" (.ref x) [.str "__class__" t] [] _ (by decide +kernel) (by decide +kernel) sub (PySem.F.args_bexc_ga (.ref x) (.str "__class__" t)) ?_
  unfold Builtin.«object.__getattribute__»
  refine wpAny_bind (wpAny_of_eq (a := ((Value.ref x : Value), [Value.str "__class__" t])) (by first | rfl | (simp only [slotArgs]; rfl)) ?_)
  refine wpAny_bind (wpAny_pure (wpAny_bind (L0.at (wpAny_bind (L3.at ?_)))))
  show wpAny _ _ (holding [Value.builtin "object.__class__"] (call (.builtin "getset_descriptor.__get__") [.builtin "object.__class__", .ref x, .ref D]) >>= ret) _ _ _
  refine wpAny_bind (wpAny_holding (wpAny_call (class_get (s := ⟨hp, g, d, t + 1, os⟩) (ox := ox) (od := some od) X I T.hm ?_)))
  refine wpAny_pure ?_
  show wpAny _ _ (handedOut (.ref D)) _ _ _
  rw [handedOut_of (v := .ref D) rfl]
  first
    | exact wpAny_pure (wpAny_pure h)
    | exact wpAny_pure h
    | exact wpAny_pure (wpAny_bind (wpAny_pure (wpAny_pure h)))
theorem kitExcD (T : ExcC K D) : KitX K (.ref x) (.ref D) (fun h => InstAt h x ox D (some od)) where
  ty := fun _ _ _ I => I.type
  it := fun _ _ X _ => by
    obtain ⟨cdD, hcD, _⟩ := any_some T.hd
    unfold clsIn at hcD
    split at hcD
    · rename_i c' d' cd' sl' ho
      intro A' Q' E' s' k q
      unfold isType loadHead
      exact wpAny_bind (wpAny_loadPart (k _ _ (X _ _ ho)) (wpAny_pure q))
    · cases hcD
  ne := fun h tp dd its n sl X htp => by
    obtain ⟨cdD, hcD, _⟩ := any_some T.hd
    refine Bool.eq_false_iff.mpr fun q => ?_
    have e : D = tp := Value.ref.inj (beq_iff_eq.mp q)
    subst e
    unfold clsIn at hcD
    split at hcD
    · rename_i c' d' cd' sl' ho
      have z := (X _ _ ho).symm.trans htp
      cases z
    · cases hcD
  ca := fun X I k => classAttrD T X I k
end
section
variable {X : Cx} {pins : List (Addr × Obj)} {σ : L2.St} {H : Hp} {s : Shared}
/-- the object of a caught error -/
theorem exn_inst {a C d : Addr} {fs : List (Str × V)} (I : Inv X pins σ H s) (h1 : Rd H a (exnO a C d)) (h2 : Rd H d (.xd fs)) : ∃ (oe od : Obj) (mA : Str → Option Value), InstAt s.heap a oe C (some od) ∧ (∀ name, lookIn name od = some (mA name)) ∧ ∀ f, RelO (fs.lookup f) (mA f) := by
  have o1 : ∃ H', ObjOk X.prog X.w H' s.heap a (exnO a C d) := by
    rcases h1 with e | ⟨u, e⟩
    · exact ⟨H, I.hok a _ e⟩
    · exact ⟨H, (I.hok a _ e).2⟩
  have o2 : ObjOk X.prog X.w H s.heap d (.xd fs) := by
    rcases h2 with e | ⟨u, e⟩
    · exact I.hok d _ e
    · exact (I.hok d _ e).2
  obtain ⟨H', o1⟩ := o1
  obtain ⟨oe, vs, e1, e2, e3, e4⟩ := exnO_at (H := H) o1
  obtain ⟨mA, hns, hr⟩ := o2
  obtain ⟨od, ho, hl⟩ := lookIn_ns hns
  exact ⟨oe, od, mA, ⟨e1, e2, by unfold notCls; rw [e4] <;> rfl, by rw [e3]; exact ho⟩, hl, hr⟩
/-- its field -/
theorem exn_field {a C d fI : Addr} {f : Str} {v : V} {b : Bool} {Q : Value → Shared → Prop} {E : Value → Shared → Prop} {A : Around} (T : ExcG X.K C fI f) (I : Inv X pins σ H s) (h1 : Rd H a (exnO a C d)) (h2 : Rd H d (.xd [(f, v)]))
    (h : ∀ u s', Inv X pins σ H s' → RelV v u → Q u s') : wpAny (model X.prog X.w) A (getAttr (.ref a) f b) Q E s := by
  obtain ⟨oe, od, mA, J, hl, hr⟩ := exn_inst I h1 h2
  have l : List.lookup f [(f, v)] = some v := by simp [List.lookup]
  obtain ⟨u, hu, ru⟩ := RelO.some_of (v := v) (o := mA f) (by rw [← l]; exact hr f)
  exact HandSPX.exc_get I.kIn J T.ga T.gg T.exC (findObj_own T.hdC T.no rfl (by rw [hl, hu])) (handed_of ru) (h u _ (I.tok _) ru)
/-- isinstance(e, c) -/
theorem call_isX : CallR X (.builtin "isinstance") (fun xs H Q => ∃ (a C d : Addr) (fs : List (Str × V)) (c : V) (u : Value) (b : Bool), xs = [.ref a, c] ∧ ExcC X.K C ∧ Rd H a (exnO a C d) ∧ Rd H d (.xd fs) ∧ ClsV c u ∧ kitOne X.K (.ref C) u = some b ∧ Q (.bl b) H) := by
  intro pins s σ H xs us Q I r h
  obtain ⟨a, C, d, fs, c, u, b, rfl, T, h1, h2, k, e, q⟩ := h
  obtain ⟨u1, u2, rfl, r1, r2⟩ := vals2 r
  have e2 := k.eq r2
  subst e2
  obtain rfl : u1 = Value.ref a := r1
  obtain ⟨oe, od, mA, J, _, _⟩ := exn_inst I h1 h2
  exact kia_one (kitExcD T) I.kIn J e (fun z => nomatch z) fun tk => ⟨.bl b, H, I.tok tk, rfl, q⟩
/-- isinstance(e, (c1, ..)) -/
theorem call_isXT : CallR X (.builtin "isinstance") (fun xs H Q => ∃ (a C d tp : Addr) (fs : List (Str × V)) (cs : List V) (us : List Value) (b : Bool), xs = [.ref a, .ref tp] ∧ ExcC X.K C ∧ Rd H a (exnO a C d) ∧ Rd H d (.xd fs) ∧ H tp = some (.tup cs) ∧ Paired ClsV cs us ∧ kitAny X.K (.ref C) us = some b ∧ Q (.bl b) H) := by
  intro pins s σ H xs us Q I r h
  obtain ⟨a, C, d, tp, fs, cs, ws, b, rfl, T, h1, h2, hT, k, e, q⟩ := h
  obtain ⟨u1, u2, rfl, r1, r2⟩ := vals2 r
  obtain rfl : u2 = Value.ref tp := r2
  obtain rfl : u1 = Value.ref a := r1
  obtain ⟨oe, od, mA, J, _, _⟩ := exn_inst I h1 h2
  obtain ⟨_, its, rv, o, g1, g2, n, g3⟩ := (show ObjOk X.prog X.w H s.heap tp (.tup cs) from I.hok tp _ hT)
  have e3 := ClsV.all k rv
  subst e3
  obtain ⟨oc, od', dt, sl⟩ := o
  simp only at g2 g3
  subst g2 g3
  exact kia_tup (kitExcD T) I.kIn J g1 e (fun z => nomatch z) fun tk => ⟨.bl b, H, I.tok tk, rfl, q⟩
theorem cr_range1 : CallR X (.type "range") (fun vs H Q => ∃ j, vs = [V.int j] ∧ ∀ p, H p = none → Q (.ref p) (upd H p (.rng 0 j))) := by
  intro pins s σ H vs us Q I r h
  obtain ⟨j, rfl, q⟩ := h
  obtain ⟨u1, rfl, rj⟩ := vals1 r
  obtain ⟨u, rfl⟩ := rj
  refine call_range_1 ⟨.ref s.heap.objs.size, upd H s.heap.objs.size (.rng 0 j), I.laid (t' := s.toks + 1 + 1) (fun b o e => Heap.get?_push_of_some _ e) (Nat.le_refl _) ?_, rfl, q _ (I.hok.fresh (Nat.le_refl _))⟩
  exact ⟨s.toks, u, s.toks + 1, Heap.get?_push_size _ rfl⟩
end
/-- e.f: an instance's, an error's -/
def tFldA (K : Frag) (te : TE) (f : Str) : TE := fun σ H Q => te σ H fun x H1 => (∃ a C dx fs v, x = .ref a ∧ H1 a = some (.ins C dx fs) ∧ Cls K C ∧ NoAttr K C f ∧ fs.lookup f = some v ∧ Q v H1) ∨
  ∃ a C d fI v, x = .ref a ∧ ExcG K C fI f ∧ Rd H1 a (exnO a C d) ∧ Rd H1 d (.xd [(f, v)]) ∧ Q v H1
theorem pe_fldA {X : Cx} {e : Expr} {te : TE} {f : Str} {pos : Pos} (he : PE X e te) (hb : attributeBase e f X.env (eval e X.env) = eval e X.env) : PE X (.Attribute e f pos) (tFldA X.K te f) := by
  refine ⟨fun pins s σ H Q I h => ?_⟩
  refine attr_of hb (thn (he.run pins s σ H _ I h) fun u s1 ⟨x, H1, I1, rx, q⟩ => ?_)
  rcases q with ⟨a, C, dx, fs, v, ex, ea, c, n, l, q⟩ | ⟨a, C, d, fI, v, ex, T, h1, h2, q⟩
  · subst ex
    obtain rfl : u = Value.ref a := rx
    exact getattr_ok I1 ea c n l fun u' s2 I2 ru => ⟨v, H1, I2, ru, q⟩
  · subst ex
    obtain rfl : u = Value.ref a := rx
    exact exn_field T I1 h1 h2 fun u' s2 I2 ru => ⟨v, H1, I2, ru, q⟩
end VI

end

section
/-! ViS2: a frozen dict is locked for a while. -/
namespace VI
open PySem L2
section
variable {Γ : Wd} {B : Bd} {F H : Hp} {σ : L2.St} {af : Fr} {T : List (V × D)}
theorem updS {H : Hp} {a : Addr} {o : HO} : upd H a o a = some o := upd_same
theorem Sta.locked {d : Addr} {u : HO} {od : Obj} (S : Sta Γ B F H σ af T) (hF : F d = some u) (h1 : ∀ a b, u ≠ .frz a b) (h2 : ∀ x, u ≠ .lst x) (h3 : ∀ x, u ≠ .tup x) (h4 : ∀ ps, u ≠ .tbl ps) (h5 : ∀ c q, u ≠ LamX.CodeO c q) :
    ∃ B', B'.F d = some (.frz od u) ∧ Sta Γ B' (upd F d (.frz od u)) (upd H d (.frz od u)) σ af T ∧ ∀ F2 H2 σ2 af2 T2, Sta Γ B' F2 H2 σ2 af2 T2 → H2 d = some (.frz od u) ∧ FLe F (upd F2 d u) ∧ (HLe (upd H d (.frz od u)) H2 → HLe H (upd H2 d u)) ∧ Sta Γ B (upd F2 d u) (upd H2 d u) σ2 af2 T2 := by
  obtain ⟨fp, r, n, q⟩ := S.own
  have hd := r.dom
  have nd : ∀ a ∈ fp, a ≠ d := fun a m e => by subst e; rw [(q _ m).1] at hF; cases hF
  have hH : H d = some u := S.sub _ _ hF
  have ndT : ∀ a, isTb Γ a → a ≠ d := fun a i e => by
    obtain ⟨q, hq⟩ := i
    obtain ⟨ps, z, _⟩ := S.tabs _ hq
    have z : H a = some (.tbl ps) := z
    rw [e, hH] at z; cases z; exact h4 _ rfl
  have k1 : KLe F (upd F d (.frz od u)) := ⟨fun a o hn e => by
    by_cases ha : a = d
    · subst ha
      rcases e with e | ⟨w, e⟩
      · rw [hF] at e; cases e; exact .inr ⟨od, updS⟩
      · rw [hF] at e; cases e; exact absurd rfl (h1 _ _)
    · rcases e with e | ⟨w, e⟩
      · exact .inl (by rw [upd_ne ha]; exact e)
      · exact .inr ⟨w, by rw [upd_ne ha]; exact e⟩, fun {a xs} e => by
    by_cases ha : a = d
    · subst ha; rw [hF] at e; cases e; exact absurd rfl (h2 _)
    · rw [upd_ne ha]; exact e, fun {a xs} e => by
    by_cases ha : a = d
    · subst ha; rw [hF] at e; cases e; exact absurd rfl (h3 _)
    · rw [upd_ne ha]; exact e⟩
  refine ⟨⟨upd H d (.frz od u), upd F d (.frz od u), fun a => a ∈ fp ∨ isTb Γ a⟩, updS, ⟨fun b o e => ?_, fun b vs e => ?_, S.len, S.bnd, ⟨fp, r.mono k1 (fun a m => upd_ne (nd a m)), n, fun a m => ⟨?_, .inl (.inl m)⟩⟩, fun a o e _ => e, FLe.refl _, fun a h => .inl h, tabs_upd S.tabs hH h4 h5, fun a i => .inr i, fun a i => by rw [upd_ne (ndT a i)]; exact S.nt a i⟩, fun F2 H2 σ2 af2 T2 S2 => ?_⟩
  · by_cases hb : b = d
    · subst hb; rw [updS] at e ⊢; exact e
    · rw [upd_ne hb] at e ⊢; exact S.sub _ _ e
  · by_cases hb : b = d
    · subst hb; rw [updS] at e; cases e
    · rw [upd_ne hb] at e ⊢; exact S.tup _ _ e
  · rw [upd_ne (nd a m)]; exact (q a m).1
  have e2 : F2 d = some (.frz od u) := S2.mono d _ updS
  have e3 : H2 d = some (.frz od u) := S2.sub _ _ e2
  obtain ⟨f2, r2, n2, q2⟩ := S2.own
  have nd2 : ∀ a ∈ f2, a ≠ d := fun a m e => by subst e; rw [(q2 _ m).1] at e2; cases e2
  have k2 : KLe F2 (upd F2 d u) := ⟨fun a o hn e => by
    by_cases ha : a = d
    · subst ha
      rcases e with e | ⟨w, e⟩
      · rw [e2] at e; cases e; exact absurd rfl (hn _ _)
      · rw [e2] at e; cases e; exact .inl updS
    · rcases e with e | ⟨w, e⟩
      · exact .inl (by rw [upd_ne ha]; exact e)
      · exact .inr ⟨w, by rw [upd_ne ha]; exact e⟩, fun {a xs} e => by
    by_cases ha : a = d
    · subst ha; rw [e2] at e; cases e
    · rw [upd_ne ha]; exact e, fun {a xs} e => by
    by_cases ha : a = d
    · subst ha; rw [e2] at e; cases e
    · rw [upd_ne ha]; exact e⟩
  have lF : FLe F (upd F2 d u) := fun b o e => by
    by_cases hb : b = d
    · subst hb; rw [hF] at e; cases e; exact updS
    · rw [upd_ne hb]; exact S2.mono b o (by show upd F d _ b = _; rw [upd_ne hb]; exact e)
  refine ⟨e3, lF, fun l b o e nt => ?_, ⟨fun b o e => ?_, fun b vs e => ?_, S2.len, S2.bnd, ⟨f2, r2.mono k2 (fun a m => upd_ne (nd2 a m)), n2, fun a m => ⟨?_, ?_⟩⟩, fun a o e hm => ?_, S.mono.trans lF, fun a h => ?_, tabs_upd S2.tabs e3 (fun _ z => nomatch z) frz_code, S.mt, fun a i => by rw [upd_ne (ndT a i)]; exact S2.nt a i⟩⟩
  · by_cases hb : b = d
    · subst hb; rw [hH] at e; cases e; exact updS
    · rw [upd_ne hb]; exact l b o (by rw [upd_ne hb]; exact e) nt
  · by_cases hb : b = d
    · subst hb; rw [updS] at e ⊢; exact e
    · rw [upd_ne hb] at e ⊢; exact S2.sub _ _ e
  · by_cases hb : b = d
    · subst hb; rw [updS] at e; cases e; exact absurd rfl (h3 _)
    · rw [upd_ne hb] at e ⊢; exact S2.tup _ _ e
  · rw [upd_ne (nd2 a m)]; exact (q2 a m).1
  · rcases (q2 a m).2 with (z | z) | z
    · exact (q a z).2
    · exact .inl (S.mt a z)
    · have z : upd H d (.frz od u) a = none := z
      rw [upd_ne (nd2 a m)] at z
      cases e : B.H a with
      | none => exact .inr rfl
      | some o =>
        by_cases mm : B.M a
        · exact .inl mm
        · rw [S.mod a o e mm] at z; cases z
  · by_cases ha : a = d
    · subst ha
      have := S.mod _ _ e hm
      rw [hH] at this; cases this; exact updS
    · rw [upd_ne ha]
      refine S2.mod a o ?_ fun m => ?_
      · show upd H d _ a = _
        rw [upd_ne ha]; exact S.mod a o e hm
      · rcases m with m | m
        · rcases (q a m).2 with z | z
          · exact hm z
          · rw [z] at e; cases e
        · exact hm (S.mt a m)
  · by_cases ha : a = d
    · subst ha; exact S.frF _ (by rw [hF]; simp)
    · rw [upd_ne ha] at h
      rcases S2.frF a h with z | (z | z) | z
      · have z : upd F d (.frz od u) a ≠ none := z
        rw [upd_ne ha] at z
        exact S.frF a z
      · exact .inr ((q a z).2.imp id loose_none)
      · exact .inr (.inl (S.mt a z))
      · exact .inr (S.loose fun o e k => z o (by show upd H d _ a = _; rw [upd_ne ha]; exact e) k)
end
end VI

end

section
set_option maxRecDepth 100000
set_option maxHeartbeats 1000000
/-! ViZ: zip of a tuple and a list, either way. -/
namespace VI
open PySem PySem.Spec PyProof.Rows L2

/-- at place i of the tuple (t) or list at l -/
def ItK : Bool → Heap → Addr → Addr → Nat → Prop
  | true, h, it, l, i => h.IsTupleIter it l i
  | false, h, it, l, i => h.IsListIter it l i
def SqK : Bool → Heap → Addr → Array Value → Prop
  | true, h, l, xs => h.IsTuple l xs
  | false, h, l, xs => h.IsList l xs
def itNm : Bool → String
  | true => "tuple_iterator"
  | false => "list_iterator"
theorem ItK.ext {t : Bool} {h h' : Heap} {a b l : Addr} {i : Nat} (x : ItK t h a l i) (hs : Heap.ExtBut b h h') (hab : a ≠ b) : ItK t h' a l i := by
  cases t
  · exact Heap.IsListIter.extBut x hs hab
  · exact Heap.IsTupleIter.extBut x hs hab
theorem SqK.ext {t : Bool} {h h' : Heap} {a b : Addr} {xs : Array Value} (x : SqK t h a xs) (hs : Heap.ExtBut b h h') (hab : a ≠ b) : SqK t h' a xs := by
  cases t
  · exact Heap.IsList.extBut x hs hab
  · exact Heap.IsTuple.extBut x hs hab
theorem ItK.mv {t : Bool} {h h' : Heap} {a l : Addr} {i : Nat} (x : ItK t h a l i) (k : ∀ o, h.get? a = some o → h'.get? a = some o) : ItK t h' a l i := by
  cases t
  · exact Heap.IsListIter.at x k
  · exact Heap.IsTupleIter.at x k
theorem ItK.ob {t : Bool} {h : Heap} {a l : Addr} {i : Nat} (x : ItK t h a l i) : ∃ o, h.get? a = some o ∧ o.data = .fields #[.ref l, .int i 0] := by
  cases t
  · obtain ⟨o, e, _, d⟩ := x; exact ⟨o, e, d⟩
  · obtain ⟨o, e, _, d⟩ := x; exact ⟨o, e, d⟩
section
variable {prog : Program} {w : World} {A : Around} {E : Value → Shared → Prop} {s : Shared}
theorem nx_item {t : Bool} {it l : Addr} {i : Nat} {items : Array Value} {x : Value} {Q : Value → Shared → Prop} (hit : ItK t s.heap it l i) (hl : SqK t s.heap l items) (hx : items[i]? = some x)
    (hQ : ∀ h', ItK t h' it l (i + 1) → Heap.SameBut it s.heap h' → Q x { s with heap := h' }) : wpAny (model prog w) A (Builtin.SmallTypes.nextOf (.ref it)) Q E s := by
  cases t
  · exact wpAny_nextOf_list_item hit hl hx hQ
  · exact RZ.nextOf_tuple_item hit hl hx hQ
theorem nx_end {t : Bool} {it l : Addr} {i : Nat} {items : Array Value} {Q : Value → Shared → Prop} (hh : A.handled = none) (hit : ItK t s.heap it l i) (hl : SqK t s.heap l items) (hx : items[i]? = none)
    (hE : ∀ h' e, Heap.ExtBut it s.heap h' → (∃ o, h'.get? e = some o ∧ o.cls = .type "StopIteration") → E (.ref e) { s with heap := h' }) : wpAny (model prog w) A (Builtin.SmallTypes.nextOf (.ref it)) Q E s := by
  cases t
  · exact wpAny_nextOf_list_end hh hit hl hx hE
  · exact RZ.nextOf_tuple_end hh hit hl hx hE
/-- a zip's next pair -/
theorem zipK_item {t u : Bool} {z TI TO i1 i2 l1 l2 : Addr} {k1 k2 : Nat} {xs ys : Array Value} {x y a b : Value} {Q : Value → Shared → Prop} (D : ZipApart z TI TO i1 i2 l1 l2)
    (hz : IsZip s.heap z TI TO .none) (hTI : IsPair s.heap TI (.ref i1) (.ref i2)) (hTO : IsPair s.heap TO a b) (h1 : ItK t s.heap i1 l1 k1) (h2 : ItK u s.heap i2 l2 k2) (hl1 : SqK t s.heap l1 xs) (hl2 : SqK u s.heap l2 ys) (hx : xs[k1]? = some x) (hy : ys[k2]? = some y)
    (hQ : ∀ h', IsZip h' z TI TO (rawInt s.heap.objs.size) → IsPair h' TO x y → ItK t h' i1 l1 (k1 + 1) → ItK u h' i2 l2 (k2 + 1) → IsPair h' s.heap.objs.size x y → h'.objs.size = s.heap.objs.size + 1 →
      (∀ c o, c ≠ z → c ≠ TO → c ≠ i1 → c ≠ i2 → s.heap.get? c = some o → h'.get? c = some o) → Q (.ref s.heap.objs.size) { s with heap := h' }) :
    wpAny (model prog w) A (Builtin.«zip.__next__» ⟨[.ref z], []⟩) (fun fin s' => ∃ v, fin = .done (.ret v) ∧ Q v s') E s := by
  show wpAny _ _ (field (.ref z) 2 >>= _) _ _ _
  refine wpAny_bind (wpAny_field hz rfl (x := .bool false) rfl ?_)
  show wpAny _ _ (field (.ref z) 3 >>= _) _ _ _
  refine wpAny_bind (wpAny_field hz rfl (x := .ref TI) rfl (wpAny_bind (wpAny_seqItems hTI rfl ?_)))
  show wpAny _ _ (Builtin.SmallTypes.ownedTupleIsFree (.ref z) >>= _) _ _ _
  refine wpAny_bind ?_
  unfold Builtin.SmallTypes.ownedTupleIsFree
  refine wpAny_bind (wpAny_field hz rfl (x := .none) rfl (wpAny_pure ?_))
  simp only [if_true]
  refine wpAny_bind (wpAny_rule (wpAny_bind (wpAny_field hz rfl (x := .ref TO) rfl (wpAny_bind (wpAny_setField_rec hz (by simp) fun h₁ hz₁ hs₁ => ?_)))))
  have hz₁ : IsZip h₁ z TI TO .ellipsis := hz₁
  refine wpAny_bind ?_
  simp only [List.zipIdx_cons, List.zipIdx_nil, List.forIn_cons, List.forIn_nil]
  refine wpAny_bind (wpAny_bind (wpAny_onRaise ?_))
  show wpAny _ _ (Builtin.SmallTypes.nextOf (.ref i1) >>= _) _ _ _
  refine wpAny_bind (nx_item (h1.ext hs₁.extBut D.i1z) (hl1.ext hs₁.extBut D.l1z) hx fun h₂ h1₂ hs₂ => wpAny_pure ?_)
  have hTO₂ : IsPair h₂ TO a b := hs₂.extBut _ _ D.TOi1 (hs₁.extBut _ _ D.TOz hTO)
  refine wpAny_bind (wpAny_seqItems hTO₂ rfl (wpAny_bind (wpAny_updateSeq_pair hTO₂ fun h₃ hTO₃ hs₃ => ?_)))
  have hTO₃ : IsPair h₃ TO x b := hTO₃
  refine wpAny_bind (wpAny_letGo (wpAny_pure ?_))
  refine wpAny_bind (wpAny_bind (wpAny_onRaise ?_))
  show wpAny _ _ (Builtin.SmallTypes.nextOf (.ref i2) >>= _) _ _ _
  refine wpAny_bind (nx_item (((h2.ext hs₁.extBut D.i2z).ext hs₂.extBut D.i12.symm).ext hs₃.extBut D.TOi2.symm) (((hl2.ext hs₁.extBut D.l2z).ext hs₂.extBut D.l2i1).ext hs₃.extBut D.l2TO) hy fun h₄ h2₄ hs₄ => wpAny_pure ?_)
  have hTO₄ : IsPair h₄ TO x b := hs₄.extBut _ _ D.TOi2 hTO₃
  refine wpAny_bind (wpAny_seqItems hTO₄ rfl (wpAny_bind (wpAny_updateSeq_pair hTO₄ fun h₅ hTO₅ hs₅ => ?_)))
  have hTO₅ : IsPair h₅ TO x y := hTO₅
  refine wpAny_bind (wpAny_letGo (wpAny_pure (wpAny_pure ?_)))
  refine wpAny_bind (wpAny_seqItems hTO₅ rfl (wpAny_bind (wpAny_newTuple ?_)))
  have hsz : h₅.objs.size = s.heap.objs.size := by rw [hs₅.1, hs₄.1, hs₃.1, hs₂.1, hs₁.1]
  have old : ∀ c o, c ≠ z → c ≠ TO → c ≠ i1 → c ≠ i2 → s.heap.get? c = some o → h₅.get? c = some o := fun c o c1 c2 c3 c4 e =>
    hs₅.extBut _ _ c2 (hs₄.extBut _ _ c4 (hs₃.extBut _ _ c2 (hs₂.extBut _ _ c3 (hs₁.extBut _ _ c1 e))))
  have hz₅ : IsZip h₅ z TI TO .ellipsis := hs₅.extBut _ _ D.TOz.symm (hs₄.extBut _ _ D.i2z.symm (hs₃.extBut _ _ D.TOz.symm (hs₂.extBut _ _ D.i1z.symm hz₁)))
  have h1₅ : ItK t h₅ i1 l1 (k1 + 1) := ((h1₂.ext hs₃.extBut D.TOi1.symm).ext hs₄.extBut D.i12).ext hs₅.extBut D.TOi1.symm
  have h2₅ : ItK u h₅ i2 l2 (k2 + 1) := h2₄.ext hs₅.extBut D.TOi2.symm
  have zl : z < h₅.objs.size := Heap.lt_size hz₅
  show wpAny _ _ (Builtin.SmallTypes.ownedTupleHandOut (.ref z) (.ref h₅.objs.size) >>= _) _ _ _
  refine wpAny_bind ?_
  unfold Builtin.SmallTypes.ownedTupleHandOut
  have hz₆ : IsZip (h₅.push { cls := .type "tuple", data := .seq #[x, y] }) z TI TO .ellipsis := Heap.get?_push_of_some _ hz₅
  refine wpAny_bind (wpAny_setField_rec hz₆ (by simp) fun h₇ hz₇ hs₇ => ?_)
  have hz₇ : IsZip h₇ z TI TO (rawInt h₅.objs.size) := hz₇
  refine wpAny_setField_rec hz₇ (by simp) fun h₈ hz₈ hs₈ => ?_
  have hz₈ : IsZip h₈ z TI TO (rawInt h₅.objs.size) := hz₈
  have up : ∀ c o, c ≠ z → h₅.get? c = some o → h₈.get? c = some o := fun c o c1 e => hs₈.extBut _ _ c1 (hs₇.extBut _ _ c1 (Heap.get?_push_of_some _ e))
  have hT₈ : IsPair h₈ h₅.objs.size x y := hs₈.extBut _ _ (Nat.ne_of_gt zl) (hs₇.extBut _ _ (Nat.ne_of_gt zl) (Heap.get?_push_size _ rfl))
  have n8 : h₈.objs.size = h₅.objs.size + 1 := by rw [hs₈.1, hs₇.1, Heap.size_push]
  rw [hsz] at hz₈ hT₈ n8
  refine wpAny_pure ⟨_, rfl, ?_⟩
  show Q (.ref h₅.objs.size) _
  rw [hsz]
  exact hQ h₈ hz₈ (up _ _ D.TOz hTO₅) (h1₅.mv fun o e => up _ o D.i1z e) (h2₅.mv fun o e => up _ o D.i2z e) hT₈ n8 fun c o c1 c2 c3 c4 e => up c o c1 (old c o c1 c2 c3 c4 e)
theorem zipK_end {t u : Bool} {z TI TO i1 i2 l1 l2 : Addr} {k1 k2 : Nat} {xs ys : Array Value} {a b : Value} {Q : Fin → Shared → Prop} (hh : A.handled = none) (D : ZipApart z TI TO i1 i2 l1 l2)
    (hz : IsZip s.heap z TI TO .none) (hTI : IsPair s.heap TI (.ref i1) (.ref i2)) (hTO : IsPair s.heap TO a b) (h1 : ItK t s.heap i1 l1 k1) (h2 : ItK u s.heap i2 l2 k2) (hl1 : SqK t s.heap l1 xs) (hl2 : SqK u s.heap l2 ys) (hend : xs[k1]? = none ∨ ys[k2]? = none)
    (hE : ∀ h' e, (∀ c o, c ≠ z → c ≠ TO → c ≠ i1 → c ≠ i2 → s.heap.get? c = some o → h'.get? c = some o) → (∃ o, h'.get? e = some o ∧ o.cls = .type "StopIteration") → E (.ref e) { s with heap := h' }) :
    wpAny (model prog w) A (Builtin.«zip.__next__» ⟨[.ref z], []⟩) Q E s := by
  show wpAny _ _ (field (.ref z) 2 >>= _) _ _ _
  refine wpAny_bind (wpAny_field hz rfl (x := .bool false) rfl ?_)
  show wpAny _ _ (field (.ref z) 3 >>= _) _ _ _
  refine wpAny_bind (wpAny_field hz rfl (x := .ref TI) rfl (wpAny_bind (wpAny_seqItems hTI rfl ?_)))
  show wpAny _ _ (Builtin.SmallTypes.ownedTupleIsFree (.ref z) >>= _) _ _ _
  refine wpAny_bind ?_
  unfold Builtin.SmallTypes.ownedTupleIsFree
  refine wpAny_bind (wpAny_field hz rfl (x := .none) rfl (wpAny_pure ?_))
  simp only [if_true]
  refine wpAny_bind (wpAny_rule (wpAny_bind (wpAny_field hz rfl (x := .ref TO) rfl (wpAny_bind (wpAny_setField_rec hz (by simp) fun h₁ hz₁ hs₁ => ?_)))))
  have hz₁ : IsZip h₁ z TI TO .ellipsis := hz₁
  have stop : ∀ (hA hB : Heap) (e : Addr), IsZip hA z TI TO .ellipsis → (∀ c o, c ≠ z → c ≠ TO → c ≠ i1 → c ≠ i2 → s.heap.get? c = some o → hA.get? c = some o) → (∃ o, hA.get? e = some o ∧ o.cls = .type "StopIteration") → Heap.SameBut z hA hB → E (.ref e) { s with heap := hB } := fun hA hB e zA k ⟨o, ho, hc⟩ sb => by
    have ne : e ≠ z := fun x => by subst x; rw [zA] at ho; cases ho; simp at hc
    exact hE hB e (fun c o' c1 c2 c3 c4 q => sb.extBut _ _ c1 (k c o' c1 c2 c3 c4 q)) ⟨o, sb.extBut _ _ ne ho, hc⟩
  refine wpAny_bind ?_
  simp only [List.zipIdx_cons, List.zipIdx_nil, List.forIn_cons, List.forIn_nil]
  refine wpAny_bind (wpAny_bind (wpAny_onRaise ?_))
  show wpAny _ _ (Builtin.SmallTypes.nextOf (.ref i1) >>= _) _ _ _
  cases hx : xs[k1]? with
  | none =>
    refine wpAny_bind (nx_end hh (h1.ext hs₁.extBut D.i1z) (hl1.ext hs₁.extBut D.l1z) hx fun h₂ e hs₂ he => ?_)
    have hz₂ : IsZip h₂ z TI TO .ellipsis := hs₂ _ _ D.i1z.symm hz₁
    exact wpAny_setField_rec hz₂ (by simp) fun h₃ _ hs₃ => stop h₂ h₃ e hz₂ (fun c o c1 _ c3 _ q => hs₂ _ _ c3 (hs₁.extBut _ _ c1 q)) he hs₃
  | some x =>
    have hy : ys[k2]? = none := by
      rcases hend with h | h
      · rw [hx] at h; cases h
      · exact h
    refine wpAny_bind (nx_item (h1.ext hs₁.extBut D.i1z) (hl1.ext hs₁.extBut D.l1z) hx fun h₂ h1₂ hs₂ => wpAny_pure ?_)
    have hTO₂ : IsPair h₂ TO a b := hs₂.extBut _ _ D.TOi1 (hs₁.extBut _ _ D.TOz hTO)
    refine wpAny_bind (wpAny_seqItems hTO₂ rfl (wpAny_bind (wpAny_updateSeq_pair hTO₂ fun h₃ hTO₃ hs₃ => ?_)))
    refine wpAny_bind (wpAny_letGo (wpAny_pure ?_))
    refine wpAny_bind (wpAny_bind (wpAny_onRaise ?_))
    show wpAny _ _ (Builtin.SmallTypes.nextOf (.ref i2) >>= _) _ _ _
    refine wpAny_bind (nx_end hh (((h2.ext hs₁.extBut D.i2z).ext hs₂.extBut D.i12.symm).ext hs₃.extBut D.TOi2.symm) (((hl2.ext hs₁.extBut D.l2z).ext hs₂.extBut D.l2i1).ext hs₃.extBut D.l2TO) hy fun h₄ e hs₄ he => ?_)
    have hz₄ : IsZip h₄ z TI TO .ellipsis := hs₄ _ _ D.i2z.symm (hs₃.extBut _ _ D.TOz.symm (hs₂.extBut _ _ D.i1z.symm hz₁))
    exact wpAny_setField_rec hz₄ (by simp) fun h₅ _ hs₅ => stop h₄ h₅ e hz₄ (fun c o c1 c2 c3 c4 q => hs₄ _ _ c4 (hs₃.extBut _ _ c2 (hs₂.extBut _ _ c3 (hs₁.extBut _ _ c1 q)))) he hs₅
theorem pyNext_zipK_item {t u : Bool} {z TI TO i1 i2 l1 l2 : Addr} {k1 k2 : Nat} {xs ys : Array Value} {x y a b : Value} {Q : Option Value → Shared → Prop} (D : ZipApart z TI TO i1 i2 l1 l2)
    (hz : IsZip s.heap z TI TO .none) (hTI : IsPair s.heap TI (.ref i1) (.ref i2)) (hTO : IsPair s.heap TO a b) (h1 : ItK t s.heap i1 l1 k1) (h2 : ItK u s.heap i2 l2 k2) (hl1 : SqK t s.heap l1 xs) (hl2 : SqK u s.heap l2 ys) (hx : xs[k1]? = some x) (hy : ys[k2]? = some y)
    (hQ : ∀ h', IsZip h' z TI TO (rawInt s.heap.objs.size) → IsPair h' TO x y → ItK t h' i1 l1 (k1 + 1) → ItK u h' i2 l2 (k2 + 1) → IsPair h' s.heap.objs.size x y → h'.objs.size = s.heap.objs.size + 1 →
      (∀ c o, c ≠ z → c ≠ TO → c ≠ i1 → c ≠ i2 → s.heap.get? c = some o → h'.get? c = some o) → Q (some (.ref s.heap.objs.size)) { s with heap := h' }) : wpAny (model prog w) A (pyNext (.ref z)) Q E s := by
  have hT : s.TypeIs (.ref z) "zip" := ⟨_, hz, rfl⟩
  unfold pyNext
  exact wpAny_bind (wpAny_attempt (wpAny_callSpecial?_slot (name := Str.ofString "__next__") hT F.slot_zip_next (wpAny_call_entry F.slot_zip_next hT F.entry_zip_next
    (zipK_item D hz hTI hTO h1 h2 hl1 hl2 hx hy fun h' a1 a2 a3 a4 a5 a6 a7 => wpAny_pure (hQ h' a1 a2 a3 a4 a5 a6 a7)) (F.args_zip_next_1 _))))
theorem pyNext_zipK_end {t u : Bool} {z TI TO i1 i2 l1 l2 : Addr} {k1 k2 : Nat} {xs ys : Array Value} {a b : Value} {Q : Option Value → Shared → Prop} (hh : A.handled = none) (D : ZipApart z TI TO i1 i2 l1 l2)
    (hz : IsZip s.heap z TI TO .none) (hTI : IsPair s.heap TI (.ref i1) (.ref i2)) (hTO : IsPair s.heap TO a b) (h1 : ItK t s.heap i1 l1 k1) (h2 : ItK u s.heap i2 l2 k2) (hl1 : SqK t s.heap l1 xs) (hl2 : SqK u s.heap l2 ys) (hend : xs[k1]? = none ∨ ys[k2]? = none)
    (hQ : ∀ h', (∀ c o, c ≠ z → c ≠ TO → c ≠ i1 → c ≠ i2 → s.heap.get? c = some o → h'.get? c = some o) → Q none { s with heap := h' }) : wpAny (model prog w) A (pyNext (.ref z)) Q E s := by
  have hT : s.TypeIs (.ref z) "zip" := ⟨_, hz, rfl⟩
  unfold pyNext
  refine wpAny_bind (wpAny_attempt (wpAny_callSpecial?_slot (name := Str.ofString "__next__") hT F.slot_zip_next (wpAny_call_entry F.slot_zip_next hT F.entry_zip_next
    (zipK_end hh D hz hTI hTO h1 h2 hl1 hl2 hend fun h' e hk ⟨o, ho, hc⟩ => ?_) (F.args_zip_next_1 _))))
  exact wpAny_bind (wpAny_isInstance (T := "StopIteration") (b := true) ⟨o, ho, hc⟩ isSubtype_stop (wpAny_pure (hQ _ hk)))
abbrev zK1 (t : Bool) (h : Heap) (l1 : Addr) : Heap := h.push { cls := .type (itNm t), data := .fields #[.ref l1, .int 0 0] }
abbrev zK2 (t u : Bool) (h : Heap) (l1 l2 : Addr) : Heap := (zK1 t h l1).push { cls := .type (itNm u), data := .fields #[.ref l2, .int 0 0] }
abbrev zK3 (t u : Bool) (h : Heap) (l1 l2 : Addr) : Heap := (zK2 t u h l1 l2).push { cls := .type "tuple", data := .seq #[.ref h.objs.size, .ref (zK1 t h l1).objs.size] }
abbrev zK4 (t u : Bool) (h : Heap) (l1 l2 : Addr) : Heap := (zK3 t u h l1 l2).push { cls := .type "tuple", data := .seq #[.none, .none] }
abbrev zK5 (t u : Bool) (h : Heap) (l1 l2 : Addr) : Heap := (zK4 t u h l1 l2).push { cls := .type "zip", data := .fields #[.none, .bool false, .bool false, .ref (zK2 t u h l1 l2).objs.size, .ref (zK3 t u h l1 l2).objs.size] }
theorem meets_zipTL (l1 l2 : Addr) (xs ys : Array Value) : Meets (Builtin.«zip.__new__» ⟨[.type "zip", .ref l1, .ref l2], []⟩) (fun _ R s => s.heap.IsTuple l1 xs ∧ s.heap.IsList l2 ys ∧
    R (.ok (.ret (.ref (zK4 true false s.heap l1 l2).objs.size))) { s with heap := zK5 true false s.heap l1 l2 }) := .of_wp fun prog w A R s h => by
  obtain ⟨hp, g, d, tk, os⟩ := s
  obtain ⟨hl1, hl2, h⟩ := h
  have hsub := sub_zip
  have hL1 : Heap.IsTuple (Shared.heap ⟨hp, g, d, tk, os⟩) l1 xs := hl1
  have hL2 : Heap.IsList (Shared.heap ⟨hp.push { cls := .type "tuple_iterator", data := .fields #[.ref l1, .int 0 0] }, g, d, tk, os⟩) l2 ys := Heap.IsList.push hl2 _
  wp_walk using wpAny_pyIter_tuple hL1, wpAny_pyIter_list hL2
  exact ⟨_, rfl, h⟩
theorem meets_zipLT (l1 l2 : Addr) (xs ys : Array Value) : Meets (Builtin.«zip.__new__» ⟨[.type "zip", .ref l1, .ref l2], []⟩) (fun _ R s => s.heap.IsList l1 xs ∧ s.heap.IsTuple l2 ys ∧
    R (.ok (.ret (.ref (zK4 false true s.heap l1 l2).objs.size))) { s with heap := zK5 false true s.heap l1 l2 }) := .of_wp fun prog w A R s h => by
  obtain ⟨hp, g, d, tk, os⟩ := s
  obtain ⟨hl1, hl2, h⟩ := h
  have hsub := sub_zip
  have hL1 : Heap.IsList (Shared.heap ⟨hp, g, d, tk, os⟩) l1 xs := hl1
  have hL2 : Heap.IsTuple (Shared.heap ⟨hp.push { cls := .type "list_iterator", data := .fields #[.ref l1, .int 0 0] }, g, d, tk, os⟩) l2 ys := Heap.IsTuple.push hl2 _
  wp_walk using wpAny_pyIter_list hL1, wpAny_pyIter_tuple hL2
  exact ⟨_, rfl, h⟩
/-- what stands behind the making of a zip -/
def ZNew (t u : Bool) (l1 l2 : Addr) (s : Shared) (Q : Value → Shared → Prop) : Prop := ∀ h', IsZip h' (s.heap.objs.size + 4) (s.heap.objs.size + 2) (s.heap.objs.size + 3) .none → IsPair h' (s.heap.objs.size + 2) (.ref s.heap.objs.size) (.ref (s.heap.objs.size + 1)) →
  IsPair h' (s.heap.objs.size + 3) .none .none → ItK t h' s.heap.objs.size l1 0 → ItK u h' (s.heap.objs.size + 1) l2 0 → (∀ c o, s.heap.get? c = some o → h'.get? c = some o) → Q (.ref (s.heap.objs.size + 4)) { s with heap := h' }
theorem znew_at {t u : Bool} {l1 l2 : Addr} {Q : Value → Shared → Prop} (h : ZNew t u l1 l2 s Q) : Q (.ref (zK4 t u s.heap l1 l2).objs.size) { s with heap := zK5 t u s.heap l1 l2 } := by
  have z1 : (zK1 t s.heap l1).objs.size = s.heap.objs.size + 1 := Heap.size_push ..
  have z2 : (zK2 t u s.heap l1 l2).objs.size = s.heap.objs.size + 2 := by rw [Heap.size_push, z1]
  have z3 : (zK3 t u s.heap l1 l2).objs.size = s.heap.objs.size + 3 := by rw [Heap.size_push, z2]
  have z4 : (zK4 t u s.heap l1 l2).objs.size = s.heap.objs.size + 4 := by rw [Heap.size_push, z3]
  have up1 : ∀ {c o}, (zK4 t u s.heap l1 l2).get? c = some o → (zK5 t u s.heap l1 l2).get? c = some o := fun e => Heap.get?_push_of_some _ e
  have up2 : ∀ {c o}, (zK3 t u s.heap l1 l2).get? c = some o → (zK5 t u s.heap l1 l2).get? c = some o := fun e => up1 (Heap.get?_push_of_some _ e)
  have up3 : ∀ {c o}, (zK2 t u s.heap l1 l2).get? c = some o → (zK5 t u s.heap l1 l2).get? c = some o := fun e => up2 (Heap.get?_push_of_some _ e)
  have up4 : ∀ {c o}, (zK1 t s.heap l1).get? c = some o → (zK5 t u s.heap l1 l2).get? c = some o := fun e => up3 (Heap.get?_push_of_some _ e)
  have g5 : (zK5 t u s.heap l1 l2).get? (zK4 t u s.heap l1 l2).objs.size = some _ := Heap.get?_push_size _ rfl
  have g4 : (zK5 t u s.heap l1 l2).get? (zK3 t u s.heap l1 l2).objs.size = some _ := up1 (Heap.get?_push_size _ rfl)
  have g3 : (zK5 t u s.heap l1 l2).get? (zK2 t u s.heap l1 l2).objs.size = some _ := up2 (Heap.get?_push_size _ rfl)
  have g2 : (zK5 t u s.heap l1 l2).get? (zK1 t s.heap l1).objs.size = some _ := up3 (Heap.get?_push_size _ rfl)
  have g1 : (zK5 t u s.heap l1 l2).get? s.heap.objs.size = some _ := up4 (Heap.get?_push_size _ rfl)
  rw [z2, z3, z4] at g5
  rw [z1, z2] at g3
  rw [z3] at g4
  rw [z1] at g2
  rw [z4]
  refine h _ g5 g3 g4 ?_ ?_ fun c o x => up4 (Heap.get?_push_of_some _ x)
  · cases t
    · exact ⟨_, g1, rfl, rfl⟩
    · exact ⟨_, g1, rfl, rfl⟩
  · cases u
    · exact ⟨_, g2, rfl, rfl⟩
    · exact ⟨_, g2, rfl, rfl⟩
theorem call_zipTL {l1 l2 : Addr} {xs ys : Array Value} {Q : Value → Shared → Prop} (hl1 : s.heap.IsTuple l1 xs) (hl2 : s.heap.IsList l2 ys) (h : ZNew true false l1 l2 s Q) : wpAny (model prog w) A (call (.type "zip") [.ref l1, .ref l2]) Q E s :=
  callType_new F.called_zip (by decide) (F.typeCall_zip_2 _ _) (F.newCall_zip_2 _ _) (fun obj => F.args_object_init_3 obj _ _) F.entry_zip_new (meets_zipTL l1 l2 xs ys) ⟨hl1, hl2, ⟨_, Heap.get?_push_size _ rfl, rfl⟩, znew_at h⟩
theorem call_zipLT {l1 l2 : Addr} {xs ys : Array Value} {Q : Value → Shared → Prop} (hl1 : s.heap.IsList l1 xs) (hl2 : s.heap.IsTuple l2 ys) (h : ZNew false true l1 l2 s Q) : wpAny (model prog w) A (call (.type "zip") [.ref l1, .ref l2]) Q E s :=
  callType_new F.called_zip (by decide) (F.typeCall_zip_2 _ _) (F.newCall_zip_2 _ _) (fun obj => F.args_object_init_3 obj _ _) F.entry_zip_new (meets_zipLT l1 l2 xs ys) ⟨hl1, hl2, ⟨_, Heap.get?_push_size _ rfl, rfl⟩, znew_at h⟩
end
/-- a tuple or a list that may be read -/
def SqJ (t : Bool) (K : PySem.W.Frag) (H : Hp) (a : Addr) (xs : List V) : Prop := match t with
  | true => SqT K H a xs
  | false => SqL K H a xs
def ItzK (K : PySem.W.Frag) (t u : Bool) (a b : Addr) : It :=
  ⟨fun i H => ∃ (xs ys : List V) (x y : V), SqJ t K H a xs ∧ SqJ u K H b ys ∧ xs[i]? = some x ∧ ys[i]? = some y,
    fun i H v H' => ∃ T x y, v = .ref T ∧ H T = none ∧ H' = upd H T (.tup [x, y]) ∧ (∀ xs, SqJ t K H a xs → xs[i]? = some x) ∧ ∀ ys, SqJ u K H b ys → ys[i]? = some y,
    fun i H => ∃ xs ys : List V, SqJ t K H a xs ∧ SqJ u K H b ys ∧ (xs.length ≤ i ∨ ys.length ≤ i)⟩
section
variable {X : Cx} {pins : List (Addr × Obj)} {σ : L2.St} {H : Hp} {s : Shared}
theorem sqj_at {t : Bool} {a : Addr} {xs : List V} (I : Inv X pins σ H s) (h : SqJ t X.K H a xs) : ∃ its : List Value, Vals xs its ∧ SqK t s.heap a its.toArray ∧ a < s.heap.objs.size := by
  cases t
  · obtain ⟨its, rv, p, _⟩ := I.list h
    exact ⟨its, rv, p.isList, p.lt⟩
  · obtain ⟨its, rv, p, _⟩ := I.tuple h
    obtain ⟨o, ho, _⟩ := id p
    exact ⟨its, rv, p, Heap.lt_size ho⟩
theorem sqj_inj {t : Bool} {a : Addr} {xs ys : List V} (I : Inv X pins σ H s) (h : SqJ t X.K H a xs) (h' : SqJ t X.K H a ys) : xs = ys := by
  cases t
  · exact I.list_inj h h'
  · exact I.tuple_inj h h'
end
theorem turn_zipK {P : Program} {w : World} {K : PySem.W.Frag} {elts : List Expr} {kk : Nat} {tpos : Pos} {t u : Bool} {a b z TI TO i1 i2 : Addr} (D : ZipApart z TI TO i1 i2 a b) :
    Turn P w K (.Tuple elts kk tpos) (ItzK K t u a b) [z, TI, TO, i1, i2] z (fun i h => IsZip h z TI TO .none ∧ IsPair h TI (.ref i1) (.ref i2) ∧ (∃ x y, IsPair h TO x y) ∧ ItK t h i1 a i ∧ ItK u h i2 b i) where
  mem := by simp
  obj := fun i h st c hc => by
    obtain ⟨hz, hTI, ⟨x, y, hTO⟩, h1, h2⟩ := st
    have e' : c = z ∨ c = TI ∨ c = TO ∨ c = i1 ∨ c = i2 := by simpa using hc
    rcases e' with rfl | rfl | rfl | rfl | rfl
    · exact ⟨_, hz, fun v q => nomatch q⟩
    · exact ⟨_, hTI, fun v q => nomatch q⟩
    · exact ⟨_, hTO, fun v q => nomatch q⟩
    · obtain ⟨o, e, d⟩ := h1.ob; exact ⟨o, e, fun v q => by rw [d] at q; cases q⟩
    · obtain ⟨o, e, d⟩ := h2.ob; exact ⟨o, e, fun v q => by rw [d] at q; cases q⟩
  keep := fun i h h' st k => by
    obtain ⟨hz, hTI, ⟨x, y, hTO⟩, h1, h2⟩ := st
    exact ⟨k z (by simp) _ hz, k TI (by simp) _ hTI, ⟨x, y, k TO (by simp) _ hTO⟩, h1.mv fun o q => k i1 (by simp) o q, h2.mv fun o q => k i2 (by simp) o q⟩
  item := by
    intro X hP hw hK hc i pins s σ H E I hf st hg
    subst hP hw hK
    obtain ⟨hz, hTI, ⟨x0, y0, hTO⟩, h1, h2⟩ := st
    obtain ⟨xs, ys, x, y, hqx, hqy, hx, hy⟩ := hg
    obtain ⟨its, rv, p, _⟩ := sqj_at I hqx
    obtain ⟨its2, rv2, p2, _⟩ := sqj_at I hqy
    obtain ⟨v, hv, ru⟩ := rv.get hx
    obtain ⟨v2, hv2, ru2⟩ := rv2.get hy
    have hzl : z < s.heap.objs.size := Heap.lt_size hz
    refine pyNext_zipK_item D hz hTI hTO h1 h2 p p2 (x := v) (y := v2) (by simpa using hv) (by simpa using hv2) fun h' z' TO' h1' h2' hT hsz hk => ?_
    refine ⟨_, rfl, wpAny_letOwnedTupleGo_zip (s := { s with heap := h' }) z' fun h'' z'' sb => ?_⟩
    have hT2 : h''.get? s.heap.objs.size = some { cls := .type "tuple", data := .seq #[v, v2] } := (sb.2 _ (Nat.ne_of_gt hzl)).trans hT
    have new : ObjOk X.prog X.w (upd H s.heap.objs.size (.tup [x, y])) h'' s.heap.objs.size (.tup [x, y]) := ⟨by show 2 ≤ sizeLine; decide, [v, v2], .cons ru (.cons ru2 .nil), ⟨_, hT2, rfl, _, rfl⟩⟩
    have I1 : Inv X pins σ (upd H s.heap.objs.size (.tup [x, y])) { s with heap := h'' } :=
      I.turnedNew (t' := s.toks) (ch := [z, TI, TO, i1, i2]) (fun c o hb q => (sb.2 c (fun q' => hb (by simp [q']))).trans (hk c o (fun q' => hb (by simp [q'])) (fun q' => hb (by simp [q'])) (fun q' => hb (by simp [q'])) (fun q' => hb (by simp [q'])) q)) hf (Nat.le_refl _) new
    refine ⟨.ref s.heap.objs.size, _, I1, rfl, ⟨_, x, y, rfl, I.hok.fresh (Nat.le_refl _), rfl, fun l hl => by rw [sqj_inj I hl hqx]; exact hx, fun l hl => by rw [sqj_inj I hl hqy]; exact hy⟩, ⟨z'', ?_, ⟨v, v2, ?_⟩, ?_, ?_⟩, fun c hcm => ?_⟩
    · exact (sb.2 _ D.TIz).trans (hk _ _ D.TIz D.TITO D.TIi1 D.TIi2 hTI)
    · exact (sb.2 _ D.TOz).trans TO'
    · exact h1'.mv fun o q => (sb.2 _ D.i1z).trans q
    · exact h2'.mv fun o q => (sb.2 _ D.i2z).trans q
    · have hlt : c < s.heap.objs.size := by
        have e' : c = z ∨ c = TI ∨ c = TO ∨ c = i1 ∨ c = i2 := by simpa using hcm
        rcases e' with rfl | rfl | rfl | rfl | rfl
        · exact hzl
        · exact Heap.lt_size hTI
        · exact Heap.lt_size hTO
        · obtain ⟨_, e1, _⟩ := h1.ob; exact Heap.lt_size e1
        · obtain ⟨_, e2, _⟩ := h2.ob; exact Heap.lt_size e2
      rw [upd_ne (Nat.ne_of_lt hlt)]
      exact (hf c hcm).1
  done := by
    intro X hP hw hK hc i pins s σ H E I hf st hg
    subst hP hw hK
    obtain ⟨hz, hTI, ⟨x0, y0, hTO⟩, h1, h2⟩ := st
    obtain ⟨xs, ys, hqx, hqy, hend⟩ := hg
    obtain ⟨its, rv, p, _⟩ := sqj_at I hqx
    obtain ⟨its2, rv2, p2, _⟩ := sqj_at I hqy
    have l1 := rv.length
    have l2 := rv2.length
    have he : its.toArray[i]? = none ∨ its2.toArray[i]? = none := by
      rcases hend with q | q
      · exact .inl (by simp; omega)
      · exact .inr (by simp; omega)
    exact pyNext_zipK_end (I.ok.hd hc) D hz hTI hTO h1 h2 p p2 he fun h' hk => ⟨rfl, I.turnedL (t' := s.toks) (ch := [z, TI, TO, i1, i2]) (fun c o hb q =>
      hk c o (fun q' => hb (by simp [q'])) (fun q' => hb (by simp [q'])) (fun q' => hb (by simp [q'])) (fun q' => hb (by simp [q'])) q) hf⟩
  self := fun A i s Q E st h => wpAny_pyIter_zip st.1 h
def iZipK (K : PySem.W.Frag) (ta : TA) : TI := fun σ H R => ta σ H fun vs H1 => ∃ a b t u xs ys, vs = [.ref a, .ref b] ∧ SqJ t K H1 a xs ∧ SqJ u K H1 b ys ∧ R (ItzK K t u a b) H1
theorem pi_zipK {X : Cx} {e e2 : Expr} {ta : TA} {p pos tpos : Pos} {elts : List Expr} {kk : Nat} (hg : Gl X "zip") (hm : X.mg "zip" = none) (ha : PA X [e, e2] ta)
    (hs : starEach [e, e2] X.env = (false, eval e X.env) :: starEach [e2] X.env) (hpl : (backTo pos (starEach [e2] X.env)).any (·.1) = false) :
    PI X (.Tuple elts kk tpos) (.Call (.Name "zip" p) [e, e2] [] pos) (iZipK X.K ta) := by
  refine ⟨fun pins s σ H R I h => ?_⟩
  refine Call_ (ld_blt I hg hm PyProof.Rows.boot_zip (PyProof.Rows.callWith_type1 (thn (ha.run pos pins s σ H _ I h) fun us s1 ⟨vs, H1, I1, r1, q1⟩ => ?_) hs hpl))
  obtain ⟨a, b, t, u, xs, ys, ex, hqx, hqy, q⟩ := q1
  subst ex
  cases r1 with
  | cons r rr =>
    cases rr with
    | cons r' rr =>
      cases rr
      cases r
      cases r'
      have fresh5 : ∀ c, c ∈ [s1.heap.objs.size + 4, s1.heap.objs.size + 2, s1.heap.objs.size + 3, s1.heap.objs.size, s1.heap.objs.size + 1] → FpOk X pins H1 c := fun c hcm => by
        have hle : s1.heap.objs.size ≤ c := by
          simp only [List.mem_cons, List.not_mem_nil, or_false] at hcm
          rcases hcm with rfl | rfl | rfl | rfl | rfl <;> omega
        exact I1.fpOk hle (I1.hok.fresh hle)
      have fin : ∀ {t u : Bool} {h' : Heap}, SqJ t X.K H1 a xs → SqJ u X.K H1 b ys → R (ItzK X.K t u a b) H1 → IsZip h' (s1.heap.objs.size + 4) (s1.heap.objs.size + 2) (s1.heap.objs.size + 3) .none → IsPair h' (s1.heap.objs.size + 2) (.ref s1.heap.objs.size) (.ref (s1.heap.objs.size + 1)) →
          IsPair h' (s1.heap.objs.size + 3) .none .none → ItK t h' s1.heap.objs.size a 0 → ItK u h' (s1.heap.objs.size + 1) b 0 → (∀ c o, s1.heap.get? c = some o → h'.get? c = some o) → wpAny (model X.prog X.w) X.A (pyIter (.ref (s1.heap.objs.size + 4))) (PIE X pins σ (.Tuple elts kk tpos) R) X.xe { s1 with heap := h' } := fun {t u h'} hqx hqy q hz hTI hTO h1 h2 hk => by
        obtain ⟨_, _, _, la⟩ := sqj_at I1 hqx
        obtain ⟨_, _, _, lb⟩ := sqj_at I1 hqy
        refine wpAny_pyIter_zip hz ?_
        have I2 : Inv X pins σ H1 { s1 with heap := h' } := I1.kept (t' := s1.toks) hk
        exact ⟨s1.heap.objs.size + 4, [s1.heap.objs.size + 4, s1.heap.objs.size + 2, s1.heap.objs.size + 3, s1.heap.objs.size, s1.heap.objs.size + 1], _, _, H1, rfl, I2, turn_zipK (PySem.W.ktu_apart s1.heap.objs.size a b la lb), ⟨hz, hTI, ⟨_, _, hTO⟩, h1, h2⟩, fresh5, q⟩
      cases t with
      | false =>
        obtain ⟨its, rv, p1, _⟩ := I1.list hqx
        cases u with
        | false =>
          obtain ⟨its2, rv2, p2, _⟩ := I1.list hqy
          exact call_zip_2 p1.isList p2.isList fun h' hz hTI hTO h1 h2 hsz hk => fin (t := false) (u := false) hqx hqy q hz hTI hTO h1 h2 hk
        | true =>
          obtain ⟨its2, rv2, p2, _⟩ := I1.tuple hqy
          exact call_zipLT p1.isList (show s1.heap.IsTuple b its2.toArray from p2) fun h' hz hTI hTO h1 h2 hk => fin (t := false) (u := true) hqx hqy q hz hTI hTO h1 h2 hk
      | true =>
        obtain ⟨its, rv, p1, _⟩ := I1.tuple hqx
        cases u with
        | false =>
          obtain ⟨its2, rv2, p2, _⟩ := I1.list hqy
          exact call_zipTL (show s1.heap.IsTuple a its.toArray from p1) p2.isList fun h' hz hTI hTO h1 h2 hk => fin (t := true) (u := false) hqx hqy q hz hTI hTO h1 h2 hk
        | true =>
          obtain ⟨its2, rv2, p2, _⟩ := I1.tuple hqy
          exact RZ.call_zipT (show s1.heap.IsTuple a its.toArray from p1) (show s1.heap.IsTuple b its2.toArray from p2) fun h' hz hTI hTO h1 h2 hsz hk => fin (t := true) (u := true) hqx hqy q hz hTI hTO h1 h2 hk
section
variable {X : Cx} {Γ : Wd} {fld : String → Option String} {W : WX} {fa fb : Fr → Rs Rv} {a b e : Expr} {pos p tpos : Pos} {elts : List Expr} {kk : Nat}
theorem wkj_zipK {K : PySem.W.Frag} {t u : Bool} {F H : Hp} {a b : Addr} {x y : D} {xs ys : List D} (hx : ∀ F2 H2 fp, Fz F2 H2 → Rp Γ F2 H2 (.ref a) x fp → ∃ vs fq, SqJ t K H2 a vs ∧ RpL Γ F2 H2 vs xs fq) (hy : ∀ F2 H2 fp, Fz F2 H2 → Rp Γ F2 H2 (.ref b) y fp → ∃ vs fq, SqJ u K H2 b vs ∧ RpL Γ F2 H2 vs ys fq)
    (px : pureL xs = true) (py : pureL ys = true) : WkJ Γ (ItzK K t u a b) (zipL xs ys) F H [(.ref a, x), (.ref b, y)] := fun fp r F2 H2 l2 z2 k i => by
  have r2 := r.mono l2.k k
  cases r2 with
  | cons r3 tt =>
    cases tt with
    | cons r4 tt =>
      obtain ⟨vs, f1, e1, e2⟩ := hx F2 H2 _ z2 r3
      obtain ⟨ws, f2, e3, e4⟩ := hy F2 H2 _ z2 r4
      refine ⟨fun d hd => ?_, fun hi => ⟨vs, ws, e1, e3, ?_⟩⟩
      · obtain ⟨dx, dy, g1, g2, rfl⟩ := zipL_get hd
        obtain ⟨v, u1, u2, u3⟩ := e2.nthP px g1
        obtain ⟨v', v1, v2, v3⟩ := e4.nthP py g2
        refine ⟨⟨vs, ws, v, v', e1, e3, u1, v1⟩, fun z H3 hz => ?_⟩
        obtain ⟨T, x', y', rfl, hT, rfl, c1, c2⟩ := hz
        have c1 := c1 vs e1
        have c2 := c2 ws e3
        rw [u1] at c1; cases c1
        rw [v1] at c2; cases c2
        exact pair_new z2 hT u2 v2 u3 v3
      · rw [zipL_len] at hi
        rw [e2.length, e4.length]
        omega
/-- the rows of a zip -/
theorem zip_rows {x : D} {xs : List D} (hx : (∃ m, x = .lst m xs) ∨ x = .tup xs) : ∃ t, ∀ (K : PySem.W.Frag) (F H : Hp) (v : V) (fp : List Addr), Γ.K = K → Fz F H → Rp Γ F H v x fp → ∃ a vs fq, v = .ref a ∧ SqJ t K H a vs ∧ RpL Γ F H vs xs fq := by
  rcases hx with ⟨m, rfl⟩ | rfl
  · refine ⟨false, fun K F H v fp hK z r => ?_⟩
    obtain ⟨a, vs, fq, e, q, rr⟩ := r.lstS z
    exact ⟨a, vs, fq, e, .of q, rr⟩
  · refine ⟨true, fun K F H v fp hK z r => ?_⟩
    obtain ⟨a, vs, fq, e, q, rr⟩ := r.tupS z
    exact ⟨a, vs, fq, e, hK ▸ q, rr⟩
theorem zipV_rows {x y : D} {zs : List D} (h : zipV x y = some zs) : ∃ xs ys, zs = zipL xs ys ∧ pureL xs = true ∧ pureL ys = true ∧ ((∃ m, x = .lst m xs) ∨ x = .tup xs) ∧ ((∃ m, y = .lst m ys) ∨ y = .tup ys) := by
  unfold zipV at h
  split at h
  all_goals first
    | (split at h
       · rename_i hp
         simp only [Bool.and_eq_true] at hp
         cases h
         refine ⟨_, _, rfl, hp.1, hp.2, ?_, ?_⟩ <;> first | exact .inl ⟨_, rfl⟩ | exact .inr rfl
       · cases h)
    | cases h
theorem pi_zipD (hK : Γ.K = X.K) (hg : Gl X "zip") (hm : X.mg "zip" = none) (ha : PE X a (tE Γ fld W fa)) (hb : PE X b (tE Γ fld W fb)) (hs : starEach [a, b] X.env = (false, eval a X.env) :: starEach [b] X.env) (hs2 : starEach [b] X.env = (false, eval b X.env) :: starEach [] X.env) (hpl : (backTo pos (starEach [b] X.env)).any (·.1) = false) :
    PI X (.Tuple elts kk tpos) (.Call (.Name "zip" p) [a, b] [] pos) (tI Γ fld W (fun fr => (op2 fa fb fr).bind fun r fr => (r.1.own fr).bind fun x fr => (r.2.own fr).bind fun y fr => match zipV x y with
    | some xs => .ok ⟨xs, none⟩ fr true
    | none => .no)) := by
  refine PI.imp (pi_zipK hg hm (pa_cons ha (pa_cons hb pa_nil hs2) hs) hs hpl) fun σ H R h => ?_
  obtain ⟨B, F, T, af, S, h⟩ := h
  refine op2_step S h fun r r' f1 q1 h1 v w H1 F1 l1 k1 p => ?_
  obtain ⟨p1, p2⟩ := p.head
  obtain ⟨x, f2, q2, e2, h2⟩ := rG_step h1 fun _ _ _ => own_noex
  obtain ⟨F2, l2, S2, k2⟩ := own_one p1 e2
  have pr' : PR Γ B σ F2 H1 f2 ((v, x) :: T) r' w := by
    cases r' with
    | tmp d => exact (show Sta Γ B F2 H1 σ f2 ((v, x) :: (w, d) :: T) from S2).perm (.swap ..)
    | plc x p => exact ⟨S2, p2.1.mono l2 (.inr (.refl _))⟩
  obtain ⟨y, f3, q3, e3, h3⟩ := rG_step h2 fun _ _ _ => own_noex
  obtain ⟨F3, l3, S3, k3⟩ := own_one pr' e3
  cases ez : zipV x y with
  | none => rw [ez] at h3; exact h3.elim
  | some xs =>
    rw [ez] at h3
    have h3 : okI Γ B F T af σ H R ⟨xs, none⟩ f3 (q1 && (q2 && (q3 && true))) := h3
    have S4 : Sta Γ B F3 H1 σ f3 ([(v, x), (w, y)] ++ T) := S3.perm (.swap ..)
    have z := S3.fz
    have fin : ∀ J, WkJ Γ J xs F3 H1 [(v, x), (w, y)] → R J H1 := fun J hJ => h3 J H1 F3 (l1.trans (l2.trans l3)) (fun hq => by
      simp only [Bool.and_eq_true, and_true] at hq
      obtain ⟨a1, a2⟩ := k1 hq.1
      exact ⟨(show f3 = af by rw [k3 hq.2.2, k2 hq.2.1, a1]), a2⟩) ⟨_, S4, hJ, fun B2 σ2 af2 F4 H4 T2 S5 _ => S5.dropL⟩
    obtain ⟨fy, ry⟩ := S3.rp
    obtain ⟨fx, rx⟩ := (S3.perm (.swap ..)).rp
    obtain ⟨us, ws, rfl, pu, pw, hx, hy⟩ := zipV_rows ez
    obtain ⟨t, hx⟩ := zip_rows (Γ := Γ) hx
    obtain ⟨u, hy⟩ := zip_rows (Γ := Γ) hy
    obtain ⟨a1, vs, fq, rfl, q, rr⟩ := hx X.K _ _ _ _ hK z rx
    obtain ⟨b1, vs2, fq2, rfl, q2, rr2⟩ := hy X.K _ _ _ _ hK z ry
    exact ⟨a1, b1, t, u, vs, vs2, rfl, q, q2, fin _ (wkj_zipK (fun F2 H2 fp z2 r2 => by
      obtain ⟨a', vs', fq', e, q', r'⟩ := hx X.K _ _ _ _ hK z2 r2
      cases e
      exact ⟨vs', fq', q', r'⟩) (fun F2 H2 fp z2 r2 => by
      obtain ⟨a', vs', fq', e, q', r'⟩ := hy X.K _ _ _ _ hK z2 r2
      cases e
      exact ⟨vs', fq', q', r'⟩) pu pw)⟩
end
end VI

end

section
/-! ViG3: enumerate; the keys of a dict. -/
namespace VI
open PySem L2 PyProof.Rows

section
variable {X : Cx} {Γ : Wd} {fld : String → Option String} {W : WX} {fa fb : Fr → Rs Rv} {fs : Fr → Rs (List Rv)} {tg a b e : Expr} {es : List Expr} {pos p tpos : Pos} {elts : List Expr} {kk : Nat}
theorem enumL_get : ∀ {xs : List D} {n i : Nat} {d : D}, (enumL n xs)[i]? = some d → ∃ x, xs[i]? = some x ∧ d = .tup [.int ((n + i : Nat) : Int), x]
  | [], _, _, _, h => by simp [enumL] at h
  | x :: xs, n, 0, d, h => by simp [enumL] at h; exact ⟨x, rfl, by rw [← h]; rfl⟩
  | x :: xs, n, i + 1, d, h => by
    simp only [enumL, List.getElem?_cons_succ] at h
    obtain ⟨y, e1, e2⟩ := enumL_get h
    exact ⟨y, by simpa using e1, by rw [e2]; congr 3; congr 1; omega⟩
theorem enumL_len : ∀ (n : Nat) (xs : List D), (enumL n xs).length = xs.length
  | _, [] => rfl
  | n, x :: xs => by simp [enumL, enumL_len (n + 1) xs]
/-- a list walked with its places -/
theorem wkj_enum {K : PySem.W.Frag} {F H : Hp} {a : Addr} {v0 : V} {e d : D} {p : List Sp1} {ds : List D} (z : Fz F H) (hp : Pth Γ F H v0 p (.ref a)) (hg : e.get p = some d) (hc : p = [] ∨ d.pure = false) (hs : ∀ F2 H2 fp, Fz F2 H2 → Rp Γ F2 H2 (.ref a) d fp → ∃ vs fq, SqL K H2 a vs ∧ RpL Γ F2 H2 vs ds fq) (pu : pureL ds = true) :
    WkJ Γ (Ite K a) (enumL 0 ds) F H [(v0, e)] := fun fp r F2 H2 l2 z2 k => by
  obtain ⟨fq, rq⟩ := part_at z hp hg hc r l2 k
  obtain ⟨vs, fr, e1, e2⟩ := hs F2 H2 fq z2 rq
  refine fun i => ⟨fun x hx => ?_, fun hi => ⟨vs, e1, by rw [e2.length, hi, enumL_len]; exact Nat.le_refl _⟩⟩
  obtain ⟨y, hy, rfl⟩ := enumL_get hx
  obtain ⟨v, g1, g2, g3⟩ := e2.nthP pu hy
  refine ⟨⟨vs, v, e1, g1⟩, fun y H3 hy => ?_⟩
  obtain ⟨T, x', rfl, hT, rfl, c1⟩ := hy
  have := c1 vs e1
  rw [g1] at this; cases this
  rw [Nat.zero_add]
  exact pair_new z2 hT (.int _) g2 rfl g3
theorem pi_enumD (hK : Γ.K = X.K) (hg : Gl X "enumerate") (hm : X.mg "enumerate" = none) (ha : PE X a (tE Γ fld W fa)) (hs : starEach [a] X.env = [(false, eval a X.env)]) :
    PI X (.Tuple elts kk tpos) (.Call (.Name "enumerate" p) [a] [] pos) (tI Γ fld W (fun fr => (fa fr).bind fun r fr => walked r enumV fr)) := by
  refine PI.imp (pi_enum hg hm (pa_cons ha pa_nil hs) hs) fun σ H R h => ?_
  obtain ⟨B, F, T, af, S, h⟩ := h
  dsimp only at h
  refine ⟨B, F, T, af, S, ?_⟩
  cases ea : fa af with
  | no => rw [ea] at h; exact h.elim
  | ex c z f1 => rw [ea] at h; exact h
  | ok r f1 q1 =>
    rw [ea] at h
    have h1 : rG (fun w fr q' => okI Γ B F T af σ H R w fr (q1 && q')) (exW Γ fld W B σ T) (walked r enumV f1) := rG_bind (x := Rs.ok r f1 q1) h
    unfold walked at h1
    obtain ⟨d, f2, q2, e2, h2⟩ := rG_step h1 fun _ _ _ => view_noex'
    cases ef : enumV d with
    | none => rw [ef] at h2; exact h2.elim
    | some xs =>
      rw [ef] at h2
      simp only at h2
      cases e3 : walk2 r d xs f2 with
      | no => rw [e3] at h2; exact h2.elim
      | ex c z f3 => unfold walk2 at e3; (repeat' split at e3) <;> cases e3
      | ok w f3 q3 =>
        rw [e3] at h2
        have h2 : okI Γ B F T af σ H R w f3 (q1 && (q2 && q3)) := h2
        intro v H1 F1 l1 k1 p1
        obtain ⟨F', v0, t, p, l2, S2, pt, hg, hi, ⟨fp, hrp⟩, hc, hx, hq, hdone⟩ := walk_ok p1 e2 e3
        have fin : ∀ J, WkJ Γ J w.items F' H1 [(v0, t)] → R J H1 := fun J hJ => h2 J H1 F' (l1.trans l2) (fun hq' => by
          simp only [Bool.and_eq_true] at hq'
          obtain ⟨a1, a2⟩ := k1 hq'.1
          exact ⟨(hq (by simp only [Bool.and_eq_true]; exact hq'.2)).trans a1, a2⟩) ⟨[(v0, t)], S2, hJ, hdone⟩
        have z := S2.fz
        subst hx
        unfold enumV at ef
        split at ef
        · injection ef with ef
          obtain ⟨a, vs, fq, rfl, q, r⟩ := hrp.lstS z
          refine ⟨a, vs, rfl, .of q, fin _ ?_⟩
          rw [← ef]
          exact wkj_enum z pt hg hi (fun F2 H2 fp z2 r2 => by
            obtain ⟨a', vs', fq', e, q', r'⟩ := r2.lstS z2
            cases e
            exact ⟨vs', fq', .of q', r'⟩) hc
        · injection ef with ef
          obtain ⟨a, vs, fq, rfl, q, r⟩ := hrp.scrS z
          refine ⟨a, vs, rfl, hK ▸ q, fin _ ?_⟩
          rw [← ef]
          exact wkj_enum z pt hg hi (fun F2 H2 fp z2 r2 => by
            obtain ⟨a', vs', fq', e, q', r'⟩ := r2.scrS z2
            cases e
            exact ⟨vs', fq', hK ▸ q', r'⟩) hc
        · cases ef
end
end VI

end

section
/-! ViH3: a comprehension over the keys of a dict. -/
namespace VI
open PySem L2 PyProof.Rows

section
variable {X : Cx} {Γ : Wd} {fld : String → Option String} {W : WX}
/-- the dict of slot i is locked -/
def tIK (Γ : Wd) (i : Nat) : TI := fun σ H R => ∃ B F T af d od kvs ks, Sta Γ B F H σ af T ∧ σ[i]? = some (some (.ref d)) ∧ H d = some (.frz od (.dK kvs)) ∧ F d = some (.frz od (.dK kvs)) ∧ KRel kD ks kvs ∧ okI Γ B F T af σ H R ⟨ks, none⟩ af true
theorem kD_rp {F H : Hp} {d : D} {k : L2.Key} (h : kD d = some k) : Rp Γ F H (kV k) d [] ∧ d.pure = true := by
  cases d <;> simp only [kD, reduceCtorEq, Option.some.injEq] at h
  · subst h; exact ⟨.int _, rfl⟩
  · subst h; exact ⟨.str _, rfl⟩
theorem wkj_keys {F H : Hp} {d : Addr} {od : Obj} {kvs : List (L2.Key × V)} {ks : List D} (hF : F d = some (.frz od (.dK kvs))) (g : KRel kD ks kvs) : WkJ Γ (Itk d od kvs) ks F H [] := fun fp r F2 H2 l2 z2 k j => by
  have e2 : H2 d = some (.frz od (.dK kvs)) := z2.sub _ _ (l2 _ _ hF)
  have hl : ks.length = kvs.length := by have := congrArg List.length g.1; simpa using this
  refine ⟨fun dd hdd => ?_, fun hj => ⟨e2, by omega⟩⟩
  have hj := (List.getElem?_eq_some_iff.mp hdd).1
  refine ⟨⟨e2, by omega⟩, fun x H3 hy => ?_⟩
  obtain ⟨rfl, kk, vv, ek, rfl⟩ := hy
  have e4 : (ks.map kD)[j]? = (kvs.map (fun p => some p.1))[j]? := by rw [g.1]
  rw [List.getElem?_map, List.getElem?_map, hdd, ek] at e4
  simp only [Option.map_some, Option.some.injEq] at e4
  obtain ⟨r5, p5⟩ := kD_rp (Γ := Γ) (F := F2) (H := H3) e4
  exact ⟨F2, z2.refl, r5, p5⟩
theorem pi_keysD {i : Nat} {x : Str} {pos : Pos} {tg : Expr} (hN : X.N[i]? = some x) (hv : Vis X.env.scope x) (hd : (x == ("__debug__" : Str)) = false) (hcd : (x == ("__classdict__" : Str)) = false) : PI X tg (.Name x pos) (tIK Γ i) := by
  refine PI.imp (pi_keys (pe_var hN hv hd hcd)) fun σ H R h => ?_
  obtain ⟨B, F, T, af, d, od, kvs, ks, S, e1, e2, e3, g, h⟩ := h
  exact ⟨.ref d, e1, d, od, rfl, .inl ⟨kvs, e2, h (Itk d od kvs) H F (.refl _) (fun _ => ⟨rfl, .refl _⟩) ⟨[], S, wkj_keys e3 g, fun B2 σ2 af2 F2 H2 T2 S2 _ => S2⟩⟩⟩
theorem keysR_inv {i : Nat} {af f1 : Fr} {w : Wk} {q : Bool} (h : keysR i af = .ok w f1 q) : ∃ d0 ks vs, slot af i = some d0 ∧ d0.frz = .dic false false ks vs ∧ d0.frz.pure = true ∧ w = ⟨ks, none⟩ ∧ f1 = af.set i (some d0.frz) ∧ q = false := by
  unfold keysR freeze at h
  cases e : slot af i with
  | none => rw [e] at h; cases h
  | some d0 =>
    rw [e] at h
    simp only [D.get] at h
    by_cases hp : d0.frz.pure = true
    · rw [if_pos hp] at h
      simp only [Rs.bind, D.put] at h
      cases ed : d0.frz with
      | dic m t ks vs =>
        rw [ed] at h
        cases t with
        | true => cases h
        | false =>
          rw [ed] at hp
          cases m with
          | true => simp [D.pure] at hp
          | false =>
            simp only [Bool.false_and] at h
            injection h with a b c
            exact ⟨d0, ks, vs, rfl, ed, by rw [ed]; exact hp, a.symm, by rw [ed]; exact b.symm, c.symm⟩
      | _ => rw [ed] at h; cases h
    · rw [if_neg hp] at h; cases h
theorem keysR_noex {i : Nat} {af f1 : Fr} {c : String} {z : D} : keysR i af ≠ .ex c z f1 := by
  intro h
  unfold keysR at h
  cases e : VI.freeze i [] af with
  | no => rw [e] at h; cases h
  | ex a b d =>
    unfold VI.freeze at e
    (repeat' split at e) <;> cases e
  | ok d f q =>
    rw [e] at h
    simp only [Rs.bind] at h
    cases d with
    | dic m t ks vs => cases t <;> cases h
    | _ => cases h
variable {fi : Fr → Rs Wk} {fc : Fr → Rs Bool} {fe : Fr → Rs Rv} {elt tgx iter : Expr} {ifs : List Expr} {scope : Scope} {own : List (Str × Nat)} {pos : Pos} {tg : VI.T}
/-- the comprehension behind its walk -/
abbrev lcTail (own : List (Str × Nat)) (tg : VI.T) (fc : Fr → Rs Bool) (fe : Fr → Rs Rv) (w : Wk) (fr : Fr) : Rs Rv := (noEx (lcLoop (lcTurn (own.map (·.2)) tg fc fe) w.items (hideAll fr (own.map (·.2))))).bind fun ds fr' => if ds.length ≤ line then .ok (.tmp (.lst true ds)) (w.done (backAll fr fr' (own.map (·.2)))) true else .no
theorem lcTail_noex {w : Wk} {fr f1 : Fr} {c : String} {z : D} : lcTail own tg fc fe w fr ≠ .ex c z f1 := by
  intro h
  unfold lcTail at h
  cases e : noEx (lcLoop (lcTurn (own.map (·.2)) tg fc fe) w.items (hideAll fr (own.map (·.2)))) with
  | no => rw [e] at h; cases h
  | ex a b d =>
    cases e2 : lcLoop (lcTurn (own.map (·.2)) tg fc fe) w.items (hideAll fr (own.map (·.2))) <;> (rw [e2] at e; cases e)
  | ok ds f2 q2 =>
    rw [e] at h
    simp only [Rs.bind] at h
    by_cases hl : ds.length ≤ line
    · rw [if_pos hl] at h; cases h
    · rw [if_neg hl] at h; cases h
theorem lcTail_tmp {w : Wk} {fr f1 : Fr} {r : Rv} {q : Bool} (h : lcTail own tg fc fe w fr = .ok r f1 q) : ∃ d, r = .tmp d := by
  unfold lcTail at h
  cases e : noEx (lcLoop (lcTurn (own.map (·.2)) tg fc fe) w.items (hideAll fr (own.map (·.2)))) with
  | no => rw [e] at h; cases h
  | ex a b d => rw [e] at h; cases h
  | ok ds f2 q2 =>
    rw [e] at h
    simp only [Rs.bind] at h
    by_cases hl : ds.length ≤ line
    · rw [if_pos hl] at h; cases h; exact ⟨_, rfl⟩
    · rw [if_neg hl] at h; cases h
theorem lc_core (hnd : (own.map (·.2)).Nodup) (hsl : ∀ i ∈ slotsT tg, i ∈ own.map (·.2)) {B : Bd} {F : Hp} {T : List (V × D)} {af : Fr} {σ : L2.St} {H : Hp} {Q : VK} {ex : String → D → Fr → Prop} (h : rG (okE Γ B F T af σ H Q) ex ((fi af).bind fun w fr => lcTail own tg fc fe w fr)) :
    rG (okI Γ B F T af σ H fun J H1 => ∀ D, H1 D = none → ∃ W : Nat → Nat → Hp → Prop, (∃ m, W 0 m (upd H1 D (.lst []))) ∧ ∀ i m H, W i m H →
      (J.stop i H ∧ Q (.ref D) H) ∨ (J.go i H ∧ ∃ Nx : Hp → Prop, (∀ H', Nx H' → ∃ m', m' < m ∧ W (i + 1) m' H') ∧ ∀ x H', J.yld i H x H' → tG Γ [] tg x (wipe σ (own.map (·.2))) H' fun σ2 H2 => wipe σ2 (own.map (·.2)) = wipe σ (own.map (·.2)) ∧ tT Γ fld W0 fc σ2 H2 fun b H3 =>
        if b = true then tE Γ fld W0 fe σ2 H3 fun y H4 => ∃ acc, H4 D = some (.lst acc) ∧ acc.length < sizeLine ∧ Nx (upd H4 D (.lst (acc ++ [y]))) else Nx H3)) ex (fi af) := by
  have h1 := rG_bind h
  refine rG_mono h1 (fun w f1 q1 e1 h2 J H1 F1 l1 k1 hW => ?_) fun _ _ _ z => z
  obtain ⟨L, S1, hJ, hdone⟩ := hW
  obtain ⟨Lh, S2, hunhide⟩ := S1.hideAll (own.map (·.2)) hnd
  have S3 : Sta Γ B F1 H1 σ (VI.hideAll f1 (own.map (·.2))) ((Lh ++ L) ++ T) := by rw [List.append_assoc]; exact S2
  obtain ⟨B', fp, rL, S4, hframe⟩ := S3.frame
  unfold vsOf dsOf at rL
  rw [List.map_append, List.map_append (l₁ := Lh) (f := fun x => x.2)] at rL
  obtain ⟨v1, v2, fpH, fpL, ev, rfl, hH, hL⟩ := rL.split
  have e2 := List.append_inj ev (by have := hH.length; simpa using this.symm)
  rw [← e2.2] at hL
  have h3 := rG_bind h2
  have h4 := rG_noEx (ex' := fun _ _ _ => False) h3
  refine lc_walk (fpL := fpL) (hJ fpL hL) (fun F2 H2 σ2 af2 T2 S5 => ?_) S4 hsl h4 (fun ds g q p F2 H2 hf hq S5 => ?_) (fun ds fr q hf => ?_)
  · obtain ⟨a1, a2, _⟩ := hframe F2 H2 σ2 af2 T2 S5
    exact ⟨a1, fun a m => a2 a (List.mem_append_right _ m)⟩
  · obtain ⟨a1, a2, S6⟩ := hframe _ _ _ _ _ S5
    by_cases hl : ds.length ≤ line
    · rw [if_pos hl] at hf
      have hf : okE Γ B F T af σ H Q (.tmp (.lst true ds)) (w.done (backAll f1 (VI.hideAll g (own.map (·.2))) (own.map (·.2)))) (q1 && (q && true)) := hf
      refine hf (.ref p) H2 F2 (l1.trans a1) (fun hq' => ?_) ?_
      · simp only [Bool.and_eq_true, and_true] at hq'
        obtain ⟨b1, b2⟩ := k1 hq'.1
        obtain ⟨c1, c2⟩ := hq hq'.2
        refine ⟨by rw [c1, backAll_hide, b1], b2.trans c2⟩
      · rw [List.append_assoc] at S6
        have S7 := hunhide _ _ _ _ _ S6
        exact hdone _ _ _ _ _ _ S7 fun _ _ => rfl
    · rw [if_neg hl] at hf; exact hf.elim
  · by_cases hl : ds.length ≤ line
    · exact hl
    · rw [if_neg hl] at hf; exact hf.elim
theorem lc_core1 (hnd : (own.map (·.2)).Nodup) (hsl : ∀ i ∈ slotsT tg, i ∈ own.map (·.2)) {B : Bd} {F : Hp} {T : List (V × D)} {af : Fr} {σ : L2.St} {H : Hp} {Q : VK} {w : Wk} {dr : D} {f2 : Fr} {q2 : Bool} (et : lcTail own tg fc fe w af = .ok (.tmp dr) f2 q2) (h : okE Γ B F T af σ H Q (.tmp dr) f2 q2) :
    okI Γ B F T af σ H (fun J H1 => ∀ D, H1 D = none → ∃ W : Nat → Nat → Hp → Prop, (∃ m, W 0 m (upd H1 D (.lst []))) ∧ ∀ i m H, W i m H →
      (J.stop i H ∧ Q (.ref D) H) ∨ (J.go i H ∧ ∃ Nx : Hp → Prop, (∀ H', Nx H' → ∃ m', m' < m ∧ W (i + 1) m' H') ∧ ∀ x H', J.yld i H x H' → tG Γ [] tg x (wipe σ (own.map (·.2))) H' fun σ2 H2 => wipe σ2 (own.map (·.2)) = wipe σ (own.map (·.2)) ∧ tT Γ fld W0 fc σ2 H2 fun b H3 =>
        if b = true then tE Γ fld W0 fe σ2 H3 fun y H4 => ∃ acc, H4 D = some (.lst acc) ∧ acc.length < sizeLine ∧ Nx (upd H4 D (.lst (acc ++ [y]))) else Nx H3)) w af true := by
  have hh : rG (okE Γ B F T af σ H Q) (fun _ _ _ => False) (((fun fr => Rs.ok w fr true) af).bind fun w fr => lcTail own tg fc fe w fr) := by
    show rG _ _ (Rs.bind (Rs.ok w af true) _)
    rw [Rs.bind, et]
    show okE Γ B F T af σ H Q (.tmp dr) f2 (true && q2)
    rw [Bool.true_and]; exact h
  exact lc_core (Γ := Γ) (fld := fld) (fi := fun fr => Rs.ok w fr true) (ex := fun _ _ _ => False) (B := B) (F := F) (T := T) (af := af) (σ := σ) (H := H) (Q := Q) hnd hsl hh
theorem lcK_read {i : Nat} (hnd : (own.map (·.2)).Nodup) (hsl : ∀ i ∈ slotsT tg, i ∈ own.map (·.2)) {σ : L2.St} {H : Hp} {Q : VK} (h : tE Γ fld W (fun fr => (keysR i fr).bind fun w fr => lcTail own tg fc fe w fr) σ H Q) :
    tLockE (tLc (tIK Γ i) (tG Γ [] tg) (tT Γ fld W0 fc) (tE Γ fld W0 fe) (own.map (·.2))) σ H Q ∨ tLc (tIK Γ i) (tG Γ [] tg) (tT Γ fld W0 fc) (tE Γ fld W0 fe) (own.map (·.2)) σ H Q := by
  obtain ⟨B, F, T, af, S, h⟩ := h
  dsimp only at h
  cases ek : keysR i af with
  | no => rw [ek] at h; exact h.elim
  | ex c z f1 => exact absurd ek keysR_noex
  | ok w f1 q1 =>
    rw [ek] at h
    obtain ⟨d0, ks, vs, hs, hd0, hpu, rfl, rfl, rfl⟩ := keysR_inv ek
    have hfz : VI.freeze i [] af = .ok d0.frz (af.set i (some d0.frz)) false := by
      unfold VI.freeze
      rw [hs]
      simp only [D.get, D.put]
      rw [if_pos hpu]
    obtain ⟨v, fp0, ev, r0⟩ := S.get hs
    obtain ⟨F1, l1, S1, r1, _, _⟩ := S.freezeAt (p := []) ⟨v, ev, .nil v⟩ (.inl rfl) hfz
    rw [hd0] at r1
    cases et : lcTail own tg fc fe ⟨ks, none⟩ (af.set i (some d0.frz)) with
    | no => rw [Rs.bind, et] at h; exact h.elim
    | ex c z f2 => exact absurd et lcTail_noex
    | ok r f2 q2 =>
      obtain ⟨dr, rfl⟩ := lcTail_tmp et
      rw [Rs.bind, et] at h
      have h : okE Γ B F T af σ H Q (.tmp dr) f2 (false && q2) := h
      cases r1 with
      | @dicF a kvs _ _ e g r _ =>
        rcases e with e | ⟨od, e⟩
        · -- to be locked
          refine .inl ⟨a, _, S1.sub _ _ e, True.intro, fun od => ?_⟩
          obtain ⟨B', eB, S2, back⟩ := S1.locked (od := od) e (fun _ _ z => nomatch z) (fun _ z => nomatch z) (fun _ z => nomatch z) (fun _ z => nomatch z) (fun _ _ z => own_code (o := .dK kvs) trivial _ _ z)
          refine ⟨B', _, T, _, a, od, kvs, ks, S2, ev, upd_same, upd_same, g, ?_⟩
          refine lc_core1 (fld := fld) (Q := fun v H' => H' a = some (.frz od (.dK kvs)) ∧ Q v (upd H' a (.dK kvs))) hnd hsl et ?_
          intro v2 H2 F2 l2 k2 p2
          obtain ⟨b1, b2, b3, b4⟩ := back _ _ _ _ _ p2
          exact ⟨b1, h v2 _ _ (l1.trans b2) (fun hq => nomatch hq) b4⟩
        · refine .inr ⟨B, F1, T, _, a, od, kvs, ks, S1, ev, S1.sub _ _ e, e, g, ?_⟩
          refine lc_core1 (fld := fld) (Q := Q) hnd hsl et ?_
          intro v2 H2 F2 l2 k2 p2
          exact h v2 _ _ (l1.trans l2) (fun hq => nomatch hq) p2
theorem pe_lcKD {i : Nat} {x : Str} {ipos : Pos} (hc : X.calm = true) (hN : X.N.Nodup) (hx : X.N[i]? = some x) (hv : Vis X.env.scope x) (hd : (x == ("__debug__" : Str)) = false) (hcd : (x == ("__classdict__" : Str)) = false) (ok : BlkOk X.N X.env.scope scope own)
    (hg : ∀ (s : Shared) (H : Hp) (C : Addr) (cl : List (Str × Addr)) (fp : List Addr), PG (X.blk s H scope (compEnvC scope cl C X.env) fp) tgx (tG Γ [] tg))
    (ht : ∀ (s : Shared) (H : Hp) (C : Addr) (cl : List (Str × Addr)) (fp : List Addr), PTs (X.blk s H scope (compEnvC scope cl C X.env) fp) ifs (tT Γ fld W0 fc))
    (he : ∀ (s : Shared) (H : Hp) (C : Addr) (cl : List (Str × Addr)) (fp : List Addr), PE (X.blk s H scope (compEnvC scope cl C X.env) fp) elt (tE Γ fld W0 fe)) (hs : ∀ y, foldedSetIterable (.Name x ipos) X.env y = pure y)
    (hnd : (own.map (·.2)).Nodup) (hsl : ∀ i ∈ slotsT tg, i ∈ own.map (·.2)) :
    PE X (.ListComp elt [⟨tgx, .Name x ipos, ifs, 0⟩] scope pos) (tE Γ fld W (fun fr => (keysR i fr).bind fun w fr => lcTail own tg fc fe w fr)) :=
  have p := pe_lc (pos := pos) hc hN (pi_keysD (Γ := Γ) hx hv hd hcd) ok hg ht he hs
  (PE.or (pe_lock p) p).imp fun σ H Q h => lcK_read hnd hsl h
end
end VI

end

section
/-! ViH4: dict comprehensions. -/
namespace VI
open PySem L2 PyProof.Rows

section
variable {X : Cx} {Γ : Wd} {fld : String → Option String} {W : WX}
def dcTurn (own : List Nat) (tg : VI.T) (fc : Fr → Rs Bool) (fk fe : Fr → Rs Rv) : D → Fr → Rs (Option (D × D)) := fun x fr' => match setT [] tg x (hideAll fr' own) with
  | some fr1 => (fc fr1).bind fun b fr2 => if b then (fk fr2).bind fun rk fr3 => (rk.own fr3).bind fun dk fr4 => (fe fr4).bind fun r fr5 => (r.own fr5).bind fun d fr6 => .ok (some (dk, d)) (hideAll fr6 own) true else .ok none (hideAll fr2 own) true
  | none => .no
theorem dcLoop_step {turn : D → Fr → Rs (Option (D × D))} {x : D} {xs ks vs : List D} {af : Fr} {ok : List D × List D → Fr → Bool → Prop} {ex : String → D → Fr → Prop} (h : rG ok ex (dcLoop turn (x :: xs) ks vs af)) :
    rG (fun o fr q => match o with
      | some (k, v) => k.scal = true ∧ ks.length < line ∧ rG (fun ds fr' q' => ok ds fr' (q && q')) ex (dcLoop turn xs (dputK k ks) (dputV k v ks vs) fr)
      | none => rG (fun ds fr' q' => ok ds fr' (q && q')) ex (dcLoop turn xs ks vs fr)) ex (turn x af) := by
  have h1 : rG ok ex ((turn x af).bind fun o fr => match o with
    | some (k, v) => if k.scal && decide (ks.length < line) then dcLoop turn xs (dputK k ks) (dputV k v ks vs) fr else .no
    | none => dcLoop turn xs ks vs fr) := h
  refine rG_mono (rG_bind h1) (fun o fr q e z => ?_) fun _ _ _ z => z
  cases o with
  | none => exact z
  | some kv =>
    obtain ⟨k, v⟩ := kv
    simp only at z ⊢
    by_cases hc : (k.scal && decide (ks.length < line)) = true
    · rw [if_pos hc] at z
      simp only [Bool.and_eq_true, decide_eq_true_eq] at hc
      exact ⟨hc.1, hc.2, z⟩
    · rw [if_neg hc] at z; exact z.elim
theorem dc_walk {σ : L2.St} {Q : VK} {J : It} {items : List D} {own : List Nat} {tg : VI.T} {fc : Fr → Rs Bool} {fk fe : Fr → Rs Rv} {B' : Bd} {F1 H1 : Hp} {T : List (V × D)} {fpL : List Addr} {f1 : Fr}
    (hJ : ∀ F2 H2, FLe F1 F2 → Fz F2 H2 → (∀ a ∈ fpL, H2 a = H1 a) → ∀ i, (∀ d, items[i]? = some d → J.go i H2 ∧ ∀ x H3, J.yld i H2 x H3 → ∃ F3, Alloc F2 H2 F3 H3 ∧ Rp Γ F3 H3 x d [] ∧ d.pure = true) ∧ (i = items.length → J.stop i H2))
    (hback : ∀ F2 H2 σ2 af2 T2, Sta Γ B' F2 H2 σ2 af2 T2 → FLe F1 F2 ∧ (∀ a ∈ fpL, H2 a = H1 a))
    (S : Sta Γ B' F1 H1 σ (hideAll f1 own) T) (hsl : ∀ i ∈ slotsT tg, i ∈ own)
    {fin : List D × List D → Fr → Bool → Prop} (h : rG fin (fun _ _ _ => False) (dcLoop (dcTurn own tg fc fk fe) items [] [] (hideAll f1 own)))
    (hfin : ∀ ds g q (p : Addr) F2 H2, fin ds (hideAll g own) q → (q = true → hideAll g own = hideAll f1 own ∧ HLe H1 H2) → Sta Γ B' F2 H2 σ (hideAll g own) ((.ref p, .dic true false ds.1 ds.2) :: T) → Q (.ref p) H2) :
    ∀ p, H1 p = none → ∃ W : Nat → Nat → Hp → Prop, (∃ m, W 0 m (upd H1 p (.dK []))) ∧ ∀ i m H, W i m H →
      (J.stop i H ∧ Q (.ref p) H) ∨ (J.go i H ∧ ∃ Nx : Hp → Prop, (∀ H', Nx H' → ∃ m', m' < m ∧ W (i + 1) m' H') ∧ ∀ x H', J.yld i H x H' → tG Γ [] tg x (wipe σ own) H' fun σ2 H2 => wipe σ2 own = wipe σ own ∧ tT Γ fld W0 fc σ2 H2 fun b H3 =>
        if b = true then tE Γ fld W0 fk σ2 H3 fun y H4 => tE Γ fld W0 fe σ2 H4 fun z H5 => ∃ kvs k, y = kV k ∧ H5 p = some (.dK kvs) ∧ kvs.length < sizeLine ∧ Nx (upd H5 p (.dK (putK kvs k z))) else Nx H3) := by
  intro p hp
  refine ⟨fun i m H => i ≤ items.length ∧ m = items.length - i ∧ ∃ F g ks vs q0, Sta Γ B' F H σ (hideAll g own) ((.ref p, .dic true false ks vs) :: T) ∧ (q0 = true → hideAll g own = hideAll f1 own ∧ HLe H1 H) ∧
      rG (fun ds fr q => fin ds fr (q0 && q)) (fun _ _ _ => False) (dcLoop (dcTurn own tg fc fk fe) (items.drop i) ks vs (hideAll g own)),
    ⟨items.length, Nat.zero_le _, rfl, F1, f1, [], [], true, S.new (alloc_dK (kvs := []) S.fz hp) (.dicO (fp := []) upd_same ⟨rfl, by simp⟩ .nil) (by simp) (fun a m => ?_), fun _ => ⟨rfl, (upd_grown hp).h⟩, ?_⟩, ?_⟩
  · rw [List.mem_singleton] at m; subst m; exact ⟨hp, none_sub S.fz hp⟩
  · exact rG_mono h (fun ds fr q _ z => by simpa using z) fun _ _ _ z => z
  rintro i m H2 ⟨hi, rfl, F2, g, ks, vs, q0, S2, hq0, h2⟩
  obtain ⟨l2, k2⟩ := hback F2 H2 _ _ _ S2
  have hJ2 := hJ F2 H2 l2 S2.fz k2 i
  by_cases hlt : i < items.length
  · refine .inr ?_
    have ed : items.drop i = items[i] :: items.drop (i + 1) := List.drop_eq_getElem_cons hlt
    obtain ⟨hgo, hy⟩ := hJ2.1 items[i] (List.getElem?_eq_getElem hlt)
    rw [ed] at h2
    have h4 := dcLoop_step h2
    refine ⟨hgo, _, fun H' hN => ⟨items.length - (i + 1), by omega, hN⟩, fun x H3 hyl => ?_⟩
    obtain ⟨F3, A3, r3, p3⟩ := hy x H3 hyl
    have S3 : Sta Γ B' F3 H3 (wipe σ own) (hideAll g own) ((x, items[i]) :: (.ref p, .dic true false ks vs) :: T) := (S2.grown A3).toWipe.addPure r3 p3
    refine ⟨B', F3, (.ref p, .dic true false ks vs) :: T, hideAll g own, items[i], S3, ?_⟩
    unfold dcTurn at h4
    rw [hide_hide] at h4
    cases es : setT [] tg items[i] (hideAll g own) with
    | none => rw [es] at h4; exact h4.elim
    | some fr1 =>
      rw [es] at h4
      simp only at h4
      intro σ2 c2 _ S4
      have hw := chg_wipe c2 hsl
      refine ⟨hw, ?_⟩
      have hs4 : hideAll fr1 own = hideAll g own := by rw [setT_hide es hsl, hide_hide]
      have h5 := rG_bind h4
      refine ⟨B', F3, _, fr1, S4, rG_mono h5 (fun b f2 qb eb h6 H4 F4 l4 k4 S5 => ?_) fun _ _ _ z => z.elim⟩
      cases b with
      | false =>
        rw [if_neg Bool.false_ne_true]
        rw [if_neg Bool.false_ne_true] at h6
        have h6 : rG _ _ (dcLoop (dcTurn own tg fc fk fe) (items.drop (i + 1)) ks vs (hideAll f2 own)) := h6
        have S6 : Sta Γ B' F4 H4 σ (hideAll f2 own) ((.ref p, .dic true false ks vs) :: T) := by
          have := (S5.forgetAll own).toWipe
          rw [hw] at this
          exact this.ofWipe
        refine ⟨by omega, by omega, F4, f2, ks, vs, q0 && qb, S6, fun hq => ?_, rG_mono h6 (fun ds fr q _ z => ?_) fun _ _ _ z => z⟩
        · simp only [Bool.and_eq_true] at hq
          obtain ⟨a1, a2⟩ := hq0 hq.1
          obtain ⟨b1, b2⟩ := k4 hq.2
          exact ⟨by rw [b1, hs4, a1], a2.trans (A3.same.h.trans b2)⟩
        · simpa [Bool.and_assoc] using z
      | true =>
        rw [if_pos rfl]
        rw [if_pos rfl] at h6
        have h7 := rG_bind h6
        refine ⟨B', F4, _, f2, S5, rG_mono h7 (fun rk f3 qk er h8 y H5 F5 l5 k5 p5 => ?_) fun _ _ _ z => z.elim⟩
        obtain ⟨dk, f4, q4, e4, h9⟩ := rG_step h8 fun _ _ _ => own_noex
        obtain ⟨F6, l6, S6, k6⟩ := own_one p5 e4
        have h10 := rG_bind h9
        refine ⟨B', F6, _, f4, S6, rG_mono h10 (fun r f5 qr er2 h11 z H6 F7 l7 k7 p7 => ?_) fun _ _ _ z => z.elim⟩
        obtain ⟨d, f6, q6, e6, h12⟩ := rG_step h11 fun _ _ _ => own_noex
        obtain ⟨F8, l8, S8, k8⟩ := own_one p7 e6
        obtain ⟨hsc, hln, h13⟩ := h12
        obtain ⟨fx, rx⟩ := (S8.perm (.swap ..)).rp
        obtain ⟨key, e5, rfl⟩ := rx.keyK (scal_key hsc)
        have S9 : Sta Γ B' F8 H6 σ2 f6 ((.ref p, .dic true false ks vs) :: ([(z, d)] ++ T)) := (S8.perm (.swap ..)).drop.perm (.swap ..)
        obtain ⟨fp7, r7⟩ := S9.rp
        cases r7 with
        | @dicO _ kvs _ _ fq7 e7 g7 rr7 =>
          have S10 : Sta Γ B' F8 (upd H6 p (.dK (putK kvs key z))) σ2 f6 ((.ref p, .dic true false (dputK dk ks) (dputV dk d ks vs)) :: ([] ++ T)) := S9.writeT ⟨fun vs z => (by cases z), fun g1 gL r1 rL nd => by
            cases r1 with
            | @dicO _ kvs2 _ _ g3 e3 g4 r3 =>
              rw [e7] at e3; cases e3
              cases rL with
              | @cons _ _ f4 _ _ f5 rv rt =>
                cases rt
                have nd' := List.nodup_cons.mp nd
                have ne1 : ∀ b ∈ g3 ++ (f4 ++ []), b ≠ p := fun b m q => by subst q; exact nd'.1 m
                have rv' : Rp Γ F8 (upd H6 p (.dK (putK kvs key z))) z d f4 := Rp.mono (H' := upd H6 p (.dK (putK kvs key z))) (FLe.refl F8).k rv fun b m => upd_ne (ne1 b (List.mem_append_right _ (List.mem_append_left _ m)))
                have r3' := r3.mono (H' := upd H6 p (.dK (putK kvs key z))) (FLe.refl F8).k fun b m => upd_ne (ne1 b (List.mem_append_left _ m))
                obtain ⟨q0, fq, R, q1, q2⟩ := put_rel kD kD_eq g4 e5 r3' rv'
                refine ⟨by simp, p :: fq, [], R, ?_, .dicO upd_same q0 q2, .nil⟩
                rw [List.append_nil]
                exact List.Perm.cons _ (List.perm_append_comm.trans q1)⟩
          have S11 : Sta Γ B' F8 (upd H6 p (.dK (putK kvs key z))) σ (hideAll f6 own) ((.ref p, .dic true false (dputK dk ks) (dputV dk d ks vs)) :: T) := by
            have := (S10.forgetAll own).toWipe
            rw [hw] at this
            exact this.ofWipe
          have hlen : ks.length = kvs.length := by have := congrArg List.length g7.1; simpa using this
          refine ⟨kvs, key, rfl, e7, by rw [← hlen, ← line_eq]; exact hln, by omega, by omega, F8, f6, _, _, q0 && (qb && (qk && (q4 && (qr && q6)))), S11, fun hq => ?_, rG_mono h13 (fun ds fr q _ z => ?_) fun _ _ _ z => z⟩
          · simp only [Bool.and_eq_true] at hq
            obtain ⟨a1, a2⟩ := hq0 hq.1
            obtain ⟨b1, b2⟩ := k4 hq.2.1
            obtain ⟨c1, c2⟩ := k5 hq.2.2.1
            obtain ⟨d1, d2⟩ := k7 hq.2.2.2.2.1
            refine ⟨by rw [k8 hq.2.2.2.2.2, d1, k6 hq.2.2.2.1, c1, b1, hs4, a1], fun b o hb nt => ?_⟩
            rw [upd_ne (ne_of_none hb hp)]
            exact d2 b o (c2 b o (b2 b o (A3.same b o (a2 b o hb nt)) nt) nt) nt
          · simpa [Bool.and_assoc] using z
  · refine .inl ⟨hJ2.2 (by omega), ?_⟩
    have e0 : items.drop i = [] := List.drop_eq_nil_of_le (by omega)
    rw [e0] at h2
    have h3 : fin (ks, vs) (hideAll g own) (q0 && true) := h2
    rw [Bool.and_true] at h3
    exact hfin (ks, vs) g q0 p F2 H2 h3 hq0 S2
variable {fi : Fr → Rs Wk} {fc : Fr → Rs Bool} {fk fe : Fr → Rs Rv} {kx vx tgx iter : Expr} {ifs : List Expr} {scope : Scope} {own : List (Str × Nat)} {pos : Pos} {tg : VI.T}
theorem dc_read (hnd : (own.map (·.2)).Nodup) (hsl : ∀ i ∈ slotsT tg, i ∈ own.map (·.2)) {σ : L2.St} {H : Hp} {Q : VK} (h : tE Γ fld W (fun fr => (fi fr).bind fun w fr => (noEx (dcLoop (dcTurn (own.map (·.2)) tg fc fk fe) w.items [] [] (hideAll fr (own.map (·.2))))).bind fun p fr' => .ok (.tmp (.dic true false p.1 p.2)) (w.done (backAll fr fr' (own.map (·.2)))) true) σ H Q) :
    tDc (tI Γ fld W fi) (tG Γ [] tg) (tT Γ fld W0 fc) (tE Γ fld W0 fk) (tE Γ fld W0 fe) (own.map (·.2)) σ H Q := by
  obtain ⟨B, F, T, af, S, h⟩ := h
  have h1 := rG_bind h
  refine ⟨B, F, T, af, S, rG_mono h1 (fun w f1 q1 e1 h2 J H1 F1 l1 k1 hW => ?_) fun _ _ _ z => z⟩
  obtain ⟨L, S1, hJ, hdone⟩ := hW
  obtain ⟨Lh, S2, hunhide⟩ := S1.hideAll (own.map (·.2)) hnd
  have S3 : Sta Γ B F1 H1 σ (VI.hideAll f1 (own.map (·.2))) ((Lh ++ L) ++ T) := by rw [List.append_assoc]; exact S2
  obtain ⟨B', fp, rL, S4, hframe⟩ := S3.frame
  unfold vsOf dsOf at rL
  rw [List.map_append, List.map_append (l₁ := Lh) (f := fun x => x.2)] at rL
  obtain ⟨v1, v2, fpH, fpL, ev, rfl, hH, hL⟩ := rL.split
  have e2 := List.append_inj ev (by have := hH.length; simpa using this.symm)
  rw [← e2.2] at hL
  have h3 := rG_bind h2
  have h4 := rG_noEx (ex' := fun _ _ _ => False) h3
  refine dc_walk (fpL := fpL) (hJ fpL hL) (fun F2 H2 σ2 af2 T2 S5 => ?_) S4 hsl h4 (fun ds g q p F2 H2 hf hq S5 => ?_)
  · obtain ⟨a1, a2, _⟩ := hframe F2 H2 σ2 af2 T2 S5
    exact ⟨a1, fun a m => a2 a (List.mem_append_right _ m)⟩
  · obtain ⟨a1, a2, S6⟩ := hframe _ _ _ _ _ S5
    have hf : okE Γ B F T af σ H Q (.tmp (.dic true false ds.1 ds.2)) (w.done (backAll f1 (VI.hideAll g (own.map (·.2))) (own.map (·.2)))) (q1 && (q && true)) := hf
    refine hf (.ref p) H2 F2 (l1.trans a1) (fun hq' => ?_) ?_
    · simp only [Bool.and_eq_true, and_true] at hq'
      obtain ⟨b1, b2⟩ := k1 hq'.1
      obtain ⟨c1, c2⟩ := hq hq'.2
      refine ⟨by rw [c1, backAll_hide, b1], b2.trans c2⟩
    · rw [List.append_assoc] at S6
      have S7 := hunhide _ _ _ _ _ S6
      exact hdone _ _ _ _ _ _ S7 fun _ _ => rfl
theorem pe_dcD (hc : X.calm = true) (hN : X.N.Nodup) (hi : PI X tgx iter (tI Γ fld W fi)) (ok : BlkOk X.N X.env.scope scope own)
    (hg : ∀ (s : Shared) (H : Hp) (C : Addr) (cl : List (Str × Addr)) (fp : List Addr), PG (X.blk s H scope (compEnvC scope cl C X.env) fp) tgx (tG Γ [] tg))
    (ht : ∀ (s : Shared) (H : Hp) (C : Addr) (cl : List (Str × Addr)) (fp : List Addr), PTs (X.blk s H scope (compEnvC scope cl C X.env) fp) ifs (tT Γ fld W0 fc))
    (hk : ∀ (s : Shared) (H : Hp) (C : Addr) (cl : List (Str × Addr)) (fp : List Addr), PE (X.blk s H scope (compEnvC scope cl C X.env) fp) kx (tE Γ fld W0 fk))
    (he : ∀ (s : Shared) (H : Hp) (C : Addr) (cl : List (Str × Addr)) (fp : List Addr), PE (X.blk s H scope (compEnvC scope cl C X.env) fp) vx (tE Γ fld W0 fe)) (hs : ∀ x, foldedSetIterable iter X.env x = pure x)
    (hnd : (own.map (·.2)).Nodup) (hsl : ∀ i ∈ slotsT tg, i ∈ own.map (·.2)) :
    PE X (.DictComp kx vx [⟨tgx, iter, ifs, 0⟩] scope pos) (tE Γ fld W (fun fr => (fi fr).bind fun w fr => (noEx (dcLoop (dcTurn (own.map (·.2)) tg fc fk fe) w.items [] [] (hideAll fr (own.map (·.2))))).bind fun p fr' => .ok (.tmp (.dic true false p.1 p.2)) (w.done (backAll fr fr' (own.map (·.2)))) true)) := (pe_dc hc hN hi ok hg ht hk he hs).imp fun σ H Q h => dc_read hnd hsl h
end
end VI

end

section
/-! ViI4: name = {..} on one line. -/
namespace VI
open PySem L2 PyProof.Rows
section
variable {X : Cx}
theorem ps_setDc {i : Nat} {y : Str} {py : Pos} {kx vx tg iter : Expr} {ifs : List Expr} {scope : Scope} {own : List (Str × Nat)} {pos spos : Pos} {wi : TI} {g : TG} {tt : TT} {tk tv : TE} (hc : X.calm = true) (hN : X.N.Nodup) (hy : X.N[i]? = some y) (hyl : X.env.scope.names.lookup y = some .local)
    (hsw : swapsWith (.DictComp kx vx [⟨tg, iter, ifs, 0⟩] scope pos) (some (.Name y py)) spos.line X.env = pure true) (hi : PI X tg iter wi) (ok : BlkOk X.N X.env.scope scope own)
    (hg : ∀ (s : Shared) (H : Hp) (C : Addr) (cl : List (Str × Addr)) (fp : List Addr), PG (X.blk s H scope (compEnvC scope cl C X.env) fp) tg g) (ht : ∀ (s : Shared) (H : Hp) (C : Addr) (cl : List (Str × Addr)) (fp : List Addr), PTs (X.blk s H scope (compEnvC scope cl C X.env) fp) ifs tt)
    (hk : ∀ (s : Shared) (H : Hp) (C : Addr) (cl : List (Str × Addr)) (fp : List Addr), PE (X.blk s H scope (compEnvC scope cl C X.env) fp) kx tk)
    (he : ∀ (s : Shared) (H : Hp) (C : Addr) (cl : List (Str × Addr)) (fp : List Addr), PE (X.blk s H scope (compEnvC scope cl C X.env) fp) vx tv) (hs : ∀ x, foldedSetIterable iter X.env x = pure x) :
    PS X (.Assign [.Name y py] (.DictComp kx vx [⟨tg, iter, ifs, 0⟩] scope pos) spos) (tAsg (tDc wi g tt tk tv (own.map (·.2))) (gName i)) := by
  refine ⟨fun pins s σ H D I h => ?_⟩
  rw [exec_Assign_Name_used _ _ _ _ hsw]
  refine wpAny_bind (wpAny_standAt (wpAny_bind ?_))
  show wpAny _ X.A (do let _ ← comprehension (.DictComp kx vx [⟨tg, iter, ifs, 0⟩] scope pos) scope X.env (firstIterPos [⟨tg, iter, ifs, 0⟩] pos) newDict false (eval iter X.env) (some (assign (.Name y py) X.env))) _ _ s
  have h : tDc wi g tt tk tv (own.map (·.2)) σ H (fun x H1 => gName i x σ H1 D.nx) := h
  refine wpAny_bind (thn (dc_core (Qf := fun _ s' => SP X pins D .next s') hc hN I hi ok hg ht hk he hs h fun L C s' m H' I' q hn f => ?_) fun _ s' hq => wpAny_pure (wpAny_pure hq))
  show wpAny _ _ (assign (.Name y py) X.env (.ref L)) _ _ _
  refine wpAny_assign_Name (store_ok2 (v := V.ref L) I' hN hy (.inl hyl) rfl (fun s2 I2 ⟨a, sb, ha⟩ => ?_) (.inr hyl))
  obtain ⟨f0, f1, f2, f3, f4, f5⟩ := f
  have haC : C ≠ a := by
    rcases ha with z | z
    · rw [z]; exact f1
    · exact fun e => f4 y a z e.symm
  refine ⟨m, hn.sameBut sb haC, fun h3 sb3 => ?_⟩
  exact ⟨_, H', I2.turned (t' := s2.toks) (fun b o hb e => (sb3.2 b hb).trans e) f0 f1 f3 f4 f5, q⟩
variable {Γ : Wd} {fld : String → Option String} {W : WX} {prot : List Nat} {fi : Fr → Rs Wk} {fc : Fr → Rs Bool} {fk fe : Fr → Rs Rv} {kx vx tgx iter : Expr} {ifs : List Expr} {scope : Scope} {own : List (Str × Nat)} {pos spos py : Pos} {tg : VI.T} {i : Nat} {y : Str}
theorem ps_setDcD (hc : X.calm = true) (hN : X.N.Nodup) (hy : X.N[i]? = some y) (hyl : X.env.scope.names.lookup y = some .local)
    (hsw : swapsWith (.DictComp kx vx [⟨tgx, iter, ifs, 0⟩] scope pos) (some (.Name y py)) spos.line X.env = pure true) (hi : PI X tgx iter (tI Γ fld W fi)) (ok : BlkOk X.N X.env.scope scope own)
    (hg : ∀ (s : Shared) (H : Hp) (C : Addr) (cl : List (Str × Addr)) (fp : List Addr), PG (X.blk s H scope (compEnvC scope cl C X.env) fp) tgx (tG Γ [] tg))
    (ht : ∀ (s : Shared) (H : Hp) (C : Addr) (cl : List (Str × Addr)) (fp : List Addr), PTs (X.blk s H scope (compEnvC scope cl C X.env) fp) ifs (tT Γ fld W0 fc))
    (hk : ∀ (s : Shared) (H : Hp) (C : Addr) (cl : List (Str × Addr)) (fp : List Addr), PE (X.blk s H scope (compEnvC scope cl C X.env) fp) kx (tE Γ fld W0 fk))
    (he : ∀ (s : Shared) (H : Hp) (C : Addr) (cl : List (Str × Addr)) (fp : List Addr), PE (X.blk s H scope (compEnvC scope cl C X.env) fp) vx (tE Γ fld W0 fe)) (hs : ∀ x, foldedSetIterable iter X.env x = pure x)
    (hnd : (own.map (·.2)).Nodup) (hsl : ∀ i ∈ slotsT tg, i ∈ own.map (·.2)) :
    PS X (.Assign [.Name y py] (.DictComp kx vx [⟨tgx, iter, ifs, 0⟩] scope pos) spos) (tSt Γ fld W prot (fun fr => ((fi fr).bind fun w fr => (noEx (dcLoop (dcTurn (own.map (·.2)) tg fc fk fe) w.items [] [] (hideAll fr (own.map (·.2))))).bind fun p fr' => Rs.ok (Rv.tmp (.dic true false p.1 p.2)) (w.done (backAll fr fr' (own.map (·.2)))) true).fl fun (r : Rv) fr => (r.own fr).fl fun d fr => match setT prot (.n i) d fr with
    | some fr' => .nx fr'
    | none => .no)) := (ps_setDc hc hN hy hyl hsw hi ok hg ht hk he hs).imp fun D' σ H h => dc_read hnd hsl (tE_mono (asg_read (tg := .n i) (f := fun fr => (fi fr).bind fun w fr => (noEx (dcLoop (dcTurn (own.map (·.2)) tg fc fk fe) w.items [] [] (hideAll fr (own.map (·.2))))).bind fun p fr' => Rs.ok (Rv.tmp (.dic true false p.1 p.2)) (w.done (backAll fr fr' (own.map (·.2)))) true) h) fun v H h => gN_of h)
end
end VI

end

section
/-! ViF4: methods of lists, dicts, texts. -/
namespace VI
open PySem L2 PyProof.Rows

def rMw (Γ : Wd) (m : MW) (T : String) : V → List V → Hp → VK → Prop := fun x vs H Q => ∃ F e ds res e' fe fL, Fz F H ∧ Rp Γ F H x e fe ∧ RpL Γ F H vs ds fL ∧ mwT m e = some T ∧ mwV m e ds = some (res, e') ∧
  ∀ v a o', WOk Γ F H a o' x e e' (vs.zip ds) [(v, res)] → Q v (upd H a o')
theorem mwV_impure {m : MW} {e : D} {ds : List D} {r : D × D} (h : mwV m e ds = some r) : e.pure = false := by
  cases e with
  | lst b xs => cases b with
    | true => simp [D.pure]
    | false => cases m <;> (simp [mwV] at h)
  | dic b t ks vs => cases b with
    | true => simp [D.pure]
    | false => cases m <;> (simp [mwV] at h)
  | _ => cases m <;> (simp [mwV] at h)
def noStarB : Expr → Bool
  | .Starred _ _ => false
  | _ => true
section
variable {X : Cx} {Γ : Wd} {fld : String → Option String} {W : WX} {fa : Fr → Rs Rv} {fs : Fr → Rs (List Rv)} {o e : Expr} {es : List Expr} {name : Str} {apos cpos : Pos} {T id : String}
theorem owns_noexE {rs : List Rv} {fr fr' : Fr} {c : String} {z : D} : owns rs fr = .ex c z fr' → False := owns_noex
theorem mwT_ty {K : PySem.W.Frag} {m : MW} {T : String} {d : D} {v : V} {F H : Hp} {fp : List Addr} (z : Fz F H) (h : mwT m d = some T) (r : Rp Γ F H v d fp) : tyV K T v H := by
  unfold mwT at h
  split at h
  any_goals (cases h; obtain ⟨a, ws, fq, rfl, q, rr⟩ := r.lstS z; exact .inl ⟨rfl, ws, .of q⟩)
  · cases h
def mwF (fa : Fr → Rs Rv) (fs : Fr → Rs (List Rv)) (m : MW) (T : String) (fr : Fr) : Rs Rv := (fa fr).bind fun r fr => (r.look fr).bind fun d0 fr => if mwT m d0 = some T then ((fs fr).bindD r fun rs fr => (owns rs fr).bind fun ds fr => mwDo m (some T) r ds fr) else .no
def mwG (fa : Fr → Rs Rv) (fs : Fr → Rs (List Rv)) (m : MW) (fr : Fr) : Rs Rv := (fa fr).bind fun r fr => (r.look fr).bind fun d0 fr => if (mwT m d0).isSome then ((fs fr).bindD r fun rs fr => (owns rs fr).bind fun ds fr => mwDo m (mwT m d0) r ds fr) else .no
theorem mw_read {K : PySem.W.Frag} {m : MW} {σ : L2.St} {H : Hp} {Q : VK} (h : tE Γ fld W (mwF fa fs m T) σ H Q) : tBM K T (rMw Γ m T) (tE Γ fld W fa) (tA Γ fld W fs) σ H Q := by
  obtain ⟨B, F, T0, af, S, h⟩ := h
  refine tE_step S h (fun _ _ _ h => h) fun r f1 q1 e1 h1 v H1 F1 l1 k1 p1 => ?_
  obtain ⟨d0, f2, q2, e2, h2⟩ := rG_step h1 fun _ _ _ => look_noex
  obtain ⟨rfl, ⟨L0, S0⟩, fd, rd⟩ := look_one p1 e2
  by_cases hs0 : mwT m d0 = some T
  · rw [if_pos hs0] at h2
    have h3 := rG_bindD h2
    refine ⟨mwT_ty S0.fz hs0 rd, B, F1, tmps [r] [v] ++ T0, f2, p1.sta, rG_mono h3 (fun rs f3 q3 e3 h4 vs H2 F2 l2 k2 p2 => ?_) fun _ _ _ h => exW.drop h⟩
    obtain ⟨hd, h5⟩ := h4
    obtain ⟨ds, f4, q4, e4, h6⟩ := rG_step h5 fun _ _ _ => owns_noexE
    obtain ⟨F3, l3, S3, n3, k3⟩ := own_all p2 e4
    cases r with
    | tmp d => exact h6.elim
    | plc x p =>
      unfold mwDo at h6
      simp only at h6
      cases hsl : slot f4 x with
      | none => rw [hsl] at h6; exact h6.elim
      | some d =>
        rw [hsl] at h6
        simp only at h6
        cases hg : d.get p with
        | none => rw [hg] at h6; exact h6.elim
        | some w =>
          rw [hg] at h6
          simp only at h6
          split at h6
          · rename_i hc
            simp only [Bool.and_eq_true, decide_eq_true_eq] at hc
            cases hmv : mwV m w ds with
            | none => rw [hmv] at h6; exact h6.elim
            | some re =>
              obtain ⟨res, e'⟩ := re
              rw [hmv] at h6
              have hn := mwV_impure hmv
              have pl : Plc Γ σ F3 H2 x p v := p1.2.mono (l2.trans l3) (by
                cases p with
                | nil => exact .inl rfl
                | cons s ss =>
                  right
                  have : q3 = true := by
                    cases q3 with
                    | true => rfl
                    | false => exact absurd rfl hd
                  exact (k2 this).2)
              obtain ⟨fe, rw0⟩ := S3.at pl (show (Rv.plc x p).val f4 = some w by simp only [Rv.val, hsl]; exact hg) (.inr hn)
              obtain ⟨fp, r1, _, _, _⟩ := S3.callT (L0 := vs.zip ds)
              rw [vsOf_zip n3, dsOf_zip n3] at r1
              refine ⟨F3, w, ds, res, e', fe, fp, S3.fz, rw0, r1, hc.2, hmv, fun u a o' hw => ?_⟩
              have S4 := S3.writeP (L := vs.zip ds) (L' := [(u, res)]) hsl hg hn pl hw
              have h6 : okE Γ B F T0 af σ H Q (.tmp res) _ _ := h6
              exact h6 u _ F3 (l1.trans (l2.trans l3)) (fun hq => by simp at hq) S4
          · exact h6.elim
  · rw [if_neg hs0] at h2
    exact h2.elim
/-- what is wanted of the writing of a method's call -/
structure MtTxt (X : Cx) (o : Expr) (name : Str) (apos cpos : Pos) (es : List Expr) : Prop where
  base : attributeBase o name X.env (eval o X.env) = eval o X.env
  line : (apos.endLine == cpos.line) = true
  few : es.length < 20
  plain : es.all noStarB = true
theorem starEach_all {pos : Pos} {env : Env} : ∀ {es : List Expr}, es.all noStarB = true → (backTo pos (starEach es env)).all (fun x => !x.1) = true ∧ (backTo pos (starEach es env)).any (·.1) = false
  | [], _ => ⟨rfl, rfl⟩
  | e :: es, h => by
    rw [List.all_cons, Bool.and_eq_true] at h
    have hs : starEach (e :: es) env = (false, eval e env) :: starEach es env := by
      cases e <;> first | rfl | (simp [noStarB] at h)
    obtain ⟨a, b⟩ := starEach_all (pos := pos) (env := env) h.2
    rw [hs]
    show ((false, _) :: backTo pos (starEach es env)).all (fun x => !x.1) = true ∧ ((false, _) :: backTo pos (starEach es env)).any (·.1) = false
    rw [List.all_cons, List.any_cons, a, b]
    exact ⟨rfl, rfl⟩
theorem pe_mwD {m : MW} (pa : PlainAttrs T) (slo : Slot T name id) (hty : typeOf (.builtin id) = pure (.type "method_descriptor")) (hm : MtM X id (rMw Γ m T)) (ho : PE X o (tE Γ fld W fa)) (ha : PA X (e :: es) (tA Γ fld W fs)) (tx : MtTxt X o name apos cpos (e :: es)) :
    PE X (.Call (.Attribute o name apos) (e :: es) [] cpos) (tE Γ fld W (mwF fa fs m T)) := by
  have hp := tx.plain
  rw [List.all_cons, Bool.and_eq_true] at hp
  refine (pe_bm pa slo hty hm ho ha tx.base ?_ tx.line (by have := hp.1; cases e <;> first | rfl | (simp [noStarB] at this)) (starEach_all hp.2).2).imp fun σ H Q h => mw_read h
  rw [(starEach_all tx.plain).1]
  have := tx.few
  simp only [List.length_cons] at this
  simp only [Bool.true_and, List.length_cons, List.length_nil, Bool.and_eq_true, decide_eq_true_eq]
  refine ⟨rfl, ?_⟩
  show es.length + 1 + 0 + 0 < 30
  omega
theorem pe_mw0D {m : MW} (pa : PlainAttrs T) (slo : Slot T name id) (hty : typeOf (.builtin id) = pure (.type "method_descriptor")) (hm : MtM X id (rMw Γ m T)) (ho : PE X o (tE Γ fld W fa)) (tx : MtTxt X o name apos cpos []) :
    PE X (.Call (.Attribute o name apos) [] [] cpos) (tE Γ fld W (mwF fa (fun fr => .ok [] fr true) m T)) := by
  refine (pe_bm0 pa slo hty hm ho tx.base tx.line).imp fun σ H Q h => ?_
  have := mw_read (K := X.K) h
  obtain ⟨B, F, T0, af, S, h⟩ := this
  refine ⟨B, F, T0, af, S, rG_mono h (fun r fr q _ hk v H' F' l k p => ?_) fun _ _ _ h => h⟩
  obtain ⟨h1, B2, F2, T2, af2, S2, h2⟩ := hk v H' F' l k p
  exact ⟨h1, h2 [] H' F2 (FLe.refl _) (fun _ => ⟨rfl, HLe.refl _⟩) ⟨S2, trivial⟩⟩
theorem mt_appendD : MtM X "list.append" (rMw Γ .append "list") := by
  intro pins s σ H x vs v us Q I rx rv h
  obtain ⟨F, e, ds, res, e', fe, fL, z, re, rl, ht, hm, fin⟩ := h
  unfold mwV at hm
  split at hm
  any_goals (first | (cases hm; done) | skip)
  all_goals try (rename_i hh; cases hh)
  · rename_i xs d
    split at hm
    · rename_i hl
      cases hm
      cases rl with
      | @cons y _ fd _ _ _ ra rt =>
        cases rt
        cases re with
        | @lstO l vs0 _ f0 hH rr =>
          refine mt_append pins s σ H _ _ v us Q I rx rv ⟨l, vs0, y, rfl, rfl, hH, by rw [rr.length, ← line_eq]; exact hl, fin .non l _ ⟨fun _ q => (by cases q), fun f1 fL2 r1 rL nd => ?_⟩⟩
          cases rL with
          | @cons _ _ g1 _ _ g2 ra2 rt2 =>
            cases rt2
            cases r1 with
            | @lstO _ vs1 _ f2 hH2 rr2 =>
              rw [hH] at hH2
              cases hH2
              have nd2 : (l :: (f2 ++ g1)).Nodup := by simpa using nd
              obtain ⟨n1, n2⟩ := List.nodup_cons.mp nd2
              refine ⟨List.mem_cons_self .., l :: (f2 ++ g1), [], [], by simp, .lstO (upd_same ..) ?_, .cons (fp := []) (fq := []) .non .nil⟩
              have k1 := rr2.mono (FLe.refl F).k (H' := upd H l (.lst (vs0 ++ [y]))) fun a m => upd_ne fun q => n1 (by rw [← q]; exact List.mem_append_left _ m)
              have k2 := ra2.mono (FLe.refl F).k (H' := upd H l (.lst (vs0 ++ [y]))) fun a m => upd_ne fun q => n1 (by rw [← q]; exact List.mem_append_right _ m)
              have := k1.append (.cons k2 .nil)
              simpa using this
    · cases hm
theorem ixOf_seq {n k : Nat} {i : Int} (h : ixOf n i = some k) : seqIndex? i n = some k ∧ -(n : Int) ≤ i ∧ i < n ∧ k < n := by
  unfold ixOf at h
  unfold seqIndex?
  split at h
  · rename_i h0
    split at h
    · rename_i h1
      cases h
      have : ¬ i < 0 := by omega
      simp only [this, if_false]
      refine ⟨by rw [if_pos (by simp [h0, h1])], by omega, h1, by omega⟩
    · cases h
  · rename_i h0
    split at h
    · rename_i h1
      cases h
      have : i < 0 := by omega
      simp only [this, if_true]
      refine ⟨by rw [if_pos (by simp; omega)], h1, by omega, by omega⟩
    · cases h
theorem size_small : (sizeLine : Int) < 2 ^ 63 := by rw [sizeLine_eq]; decide
theorem eraseIdx_split {α : Type} {xs : List α} {n : Nat} {x : α} (h : xs[n]? = some x) : xs = xs.take n ++ x :: xs.drop (n + 1) ∧ xs.eraseIdx n = xs.take n ++ xs.drop (n + 1) := by
  refine ⟨?_, List.eraseIdx_eq_take_drop_succ ..⟩
  have hl : n < xs.length := (List.getElem?_eq_some_iff.mp h).1
  conv => lhs; rw [← List.take_append_drop n xs]
  rw [List.drop_eq_getElem_cons hl, (List.getElem?_eq_some_iff.mp h).2]
/-- an item taken out of an owned list -/
theorem pop_ok {F H : Hp} {l : Addr} {vs0 : List V} {xs : List D} {n : Nat} {x : D} {y : V} {vs : List V} {ds : List D} (hH : H l = some (.lst vs0)) (hx : xs[n]? = some x) (hy : vs0[n]? = some y) :
    WOk Γ F H l (.lst (vs0.eraseIdx n)) (.ref l) (.lst true xs) (.lst true (xs.eraseIdx n)) (vs.zip ds) [(y, x)] := by
  refine ⟨fun _ q => (by cases q), fun f1 fL r1 rL nd => ?_⟩
  cases r1 with
  | @lstO _ vs1 _ f0 hH2 rr =>
    rw [hH] at hH2
    cases hH2
    obtain ⟨e1, e2⟩ := eraseIdx_split hx
    obtain ⟨g1, g2⟩ := eraseIdx_split hy
    rw [e1, g1] at rr
    obtain ⟨v1, v2, a1, a2, q1, rfl, r1, r2⟩ := rr.split
    have hl := r1.length
    have len : vs0.length = xs.length := by
      have := rr.length
      rw [← e1, ← g1] at this
      exact this
    have hn : n < xs.length := (List.getElem?_eq_some_iff.mp hx).1
    have q2 := List.append_inj q1 (by rw [hl, List.length_take, List.length_take, len])
    obtain ⟨q3, q4⟩ := q2
    subst q3
    cases r2 with
    | @cons w _ b1 ws _ b2 rx rd =>
      cases q4
      have nd2 : (l :: (a1 ++ (b1 ++ b2) ++ fL)).Nodup := nd
      obtain ⟨n1, n2⟩ := List.nodup_cons.mp nd2
      have hne : ∀ a, a ∈ a1 ++ (b1 ++ b2) ++ fL → upd H l (.lst (vs0.eraseIdx n)) a = H a := fun a m => upd_ne fun q => n1 (by rw [← q]; exact m)
      refine ⟨List.mem_cons_self .., l :: (a1 ++ b2), b1 ++ [], fL, ?_, ?_, .cons (rx.mono (FLe.refl F).k fun a m => hne a (by simp [m])) .nil⟩
      · refine List.Perm.cons _ ?_
        have p1 : (b1 ++ b2).Perm (b2 ++ b1) := List.perm_append_comm
        have p2 := (p1.append_left a1).append_right fL
        simpa [List.append_assoc] using p2
      · refine .lstO (upd_same ..) ?_
        have hh := (r1.mono (FLe.refl F).k fun a m => hne a (by simp [m])).append (rd.mono (FLe.refl F).k fun a m => hne a (by simp [m]))
        rw [← e2, ← g2] at hh
        exact hh
theorem mt_popD : MtM X "list.pop" (rMw Γ .pop "list") := by
  intro pins s σ H x vs v us Q I rx rv h
  obtain ⟨F, e, ds, res, e', fe, fL, z, re, rl, ht, hm, fin⟩ := h
  unfold mwV at hm
  split at hm
  any_goals (first | (cases hm; done) | skip)
  all_goals try (rename_i hh; cases hh; done)
  · rename_i xs _
    cases hl : xs.getLast? with
    | none => rw [hl] at hm; cases hm
    | some x0 =>
      rw [hl] at hm
      cases hm
      cases rl
      cases re with
      | @lstO l vs0 _ f0 hH rr =>
        have hx : xs[xs.length - 1]? = some res := by rw [← List.getLast?_eq_getElem?]; exact hl
        obtain ⟨w, fw, hw, _⟩ := rr.nth hx
        have ln := rr.length
        have hp := pop_ok (Γ := Γ) (F := F) (vs := []) (ds := []) hH hx hw
        have e1 : vs0.eraseIdx (xs.length - 1) = vs0.dropLast := by rw [← ln]; exact List.eraseIdx_length_sub_one ..
        have e2 : xs.eraseIdx (xs.length - 1) = xs.dropLast := List.eraseIdx_length_sub_one ..
        rw [e1, e2] at hp
        exact mt_pop pins s σ H _ _ v us Q I rx rv ⟨l, vs0, w, rfl, rfl, hH, by rw [ln]; exact hw, fin w l _ hp⟩
  · rename_i xs i _
    cases hi : ixOf xs.length i with
    | none => rw [hi] at hm; cases hm
    | some n =>
      rw [hi] at hm
      simp only at hm
      cases hx : xs[n]? with
      | none => rw [hx] at hm; cases hm
      | some x0 =>
        rw [hx] at hm
        cases hm
        cases rl with
        | cons ra rt =>
          cases ra
          cases rt
          cases re with
          | @lstO l vs0 _ f0 hH rr =>
            obtain ⟨w, fw, hw, _⟩ := rr.nth hx
            have ln := rr.length
            obtain ⟨_, _, _, hz⟩ := I.list (.of hH)
            obtain ⟨s1, s2, s3, s4⟩ := ixOf_seq hi
            have sm := size_small
            exact mt_popAt pins s σ H _ _ v us Q I rx rv ⟨l, vs0, i, n, w, rfl, rfl, hH, by omega, by omega, by rw [ln]; exact s1, hw, fin w l _ (pop_ok hH hx hw)⟩
  all_goals (simp [mwT] at ht)
end
end VI

end

section
/-! ViF5: methods that read. -/
namespace VI
open PySem L2 PyProof.Rows

def mrF (fa : Fr → Rs Rv) (fs : Fr → Rs (List Rv)) (m : MR) (T : String) (fr : Fr) : Rs Rv := (fa fr).bind fun r fr => (r.look fr).bind fun d0 fr => if mrT m d0 = some T then ((fs fr).bindD r fun rs fr => (r.look fr).bind fun d fr => (views rs fr).bind fun ds fr => mrDo m (some T) d ds fr) else .no
def rMr (Γ : Wd) (m : MR) (T : String) : V → List V → Hp → VK → Prop := fun x vs H Q => ∃ F d ds e fd, Fz F H ∧ Rp Γ F H x d fd ∧ Vw Γ F H vs ds ∧ mrT m d = some T ∧ mrV m d ds = some e ∧ NewV Γ F H e Q
theorem joinS_sv (s : List Char) : ∀ l : List (List Char), Str.join (sv s) (l.map sv) = sv (joinS s l)
  | [] => rfl
  | [x] => rfl
  | x :: y :: r => by
    show sv x ++ sv s ++ Str.join (sv s) ((y :: r).map sv) = _
    rw [joinS_sv s (y :: r), sv_append, sv_append]; rfl
section
variable {X : Cx} {Γ : Wd} {fld : String → Option String} {W : WX} {fa fe ff : Fr → Rs Rv} {fs : Fr → Rs (List Rv)} {o e f : Expr} {es : List Expr} {name : Str} {apos cpos : Pos} {T id : String}
/-- behind the arguments -/
theorem mr_args {m : MR} {r : Rv} {d0 : D} {v : V} {σ : L2.St} {H1 F1 : Hp} {B : Bd} {T0 : List (V × D)} {f2 : Fr} {q0 : Bool} {F0 H0 : Hp} {af0 : Fr} {Q : VK} (p1 : PR Γ B σ F1 H1 f2 T0 r v) (l0 : FLe F0 F1) (k0 : q0 = true → f2 = af0 ∧ HLe H0 H1)
    (h : rG (fun b fr' q' => okE Γ B F0 T0 af0 σ H0 Q b fr' (q0 && q')) (exW Γ fld W B σ T0) ((fs f2).bindD r fun rs fr => (r.look fr).bind fun d fr => (views rs fr).bind fun ds fr => mrDo m (some T) d ds fr)) :
    tA Γ fld W fs σ H1 fun vs H2 => rMr Γ m T v vs H2 Q := by
  have h3 := rG_bindD h
  refine ⟨B, F1, tmps [r] [v] ++ T0, f2, p1.sta, rG_mono h3 (fun rs f3 q3 e3 h4 vs H2 F2 l2 k2 p2 => ?_) fun _ _ _ h => exW.drop h⟩
  obtain ⟨hd, h5⟩ := h4
  obtain ⟨d, f4, q4, e4, h6⟩ := rG_step h5 fun _ _ _ => look_noex
  have p3 : PR Γ B σ F2 H2 f3 (tmps rs vs ++ T0) r v := by
    have S2 : Sta Γ B F2 H2 σ f3 (tmps [r] [v] ++ (tmps rs vs ++ T0)) := p2.1.perm (by
      rw [← List.append_assoc, ← List.append_assoc]
      exact List.perm_append_comm.append_right _)
    cases r with
    | tmp d => exact S2
    | plc x p =>
      refine ⟨S2, p1.2.mono l2 ?_⟩
      cases p with
      | nil => exact .inl rfl
      | cons s ss =>
        right
        have : q3 = true := by
          cases q3 with
          | true => rfl
          | false => exact absurd rfl hd
        exact (k2 this).2
  obtain ⟨rfl, ⟨L3, S3⟩, fd, rd⟩ := look_one p3 e4
  obtain ⟨ds, f5, q5, e5, h7⟩ := rG_step h6 fun _ _ _ => views_noex'
  obtain ⟨F3, L, l3, S4, n3, vw, k3⟩ := view_all p2 e5
  unfold mrDo at h7
  split at h7
  · rename_i hc
    simp only [Bool.and_eq_true, decide_eq_true_eq] at hc
    cases hmv : mrV m d ds with
    | none => rw [hmv] at h7; exact h7.elim
    | some y =>
      rw [hmv] at h7
      have q4t := (look_eq e4).1
      have h7 : okE Γ B F0 T0 af0 σ H0 Q (.tmp y) f5 _ := h7
      have Sd : Sta Γ B F3 H2 σ f5 T0 := (S4.dropL (L := L)).dropL (L := tmps [r] [v])
      refine ⟨F3, d, ds, y, fd, S4.fz, rd.mono l3.k fun _ _ => rfl, vw_of n3 vw, hc.2, hmv, fresh Sd (l0.trans (l2.trans l3)) h7 fun hq => ?_⟩
      simp only [Bool.and_eq_true] at hq
      obtain ⟨a1, a2⟩ := k0 hq.1
      obtain ⟨b1, b2⟩ := k2 hq.2.1
      exact ⟨by rw [k3 hq.2.2.2.1, b1, a1], a2.trans b2⟩
  · exact h7.elim
theorem mr_read {K : PySem.W.Frag} {m : MR} {σ : L2.St} {H : Hp} {Q : VK} (hty : ∀ {d : D} {v : V} {F H : Hp} {fp : List Addr}, Fz F H → mrT m d = some T → Rp Γ F H v d fp → tyV K T v H) (h : tE Γ fld W (mrF fa fs m T) σ H Q) : tBM K T (rMr Γ m T) (tE Γ fld W fa) (tA Γ fld W fs) σ H Q := by
  obtain ⟨B, F, T0, af, S, h⟩ := h
  refine tE_step S h (fun _ _ _ h => h) fun r f1 q1 e1 h1 v H1 F1 l1 k1 p1 => ?_
  obtain ⟨d0, f2, q2, e2, h2⟩ := rG_step h1 fun _ _ _ => look_noex
  have e2' := (look_eq e2).1
  obtain ⟨rfl, ⟨L0, S0⟩, fd, rd⟩ := look_one p1 e2
  by_cases hs0 : mrT m d0 = some T
  · rw [if_pos hs0] at h2
    exact ⟨hty S0.fz hs0 rd, mr_args (q0 := q1) (d0 := d0) p1 l1 k1 (rG_mono h2 (fun b fr q _ hh v2 H2 F2 l2 k2 p2 => hh v2 H2 F2 l2 (fun hq => k2 (by simp only [Bool.and_eq_true] at hq ⊢; exact ⟨hq.1, hq.2.2⟩)) p2) fun _ _ _ h => h)⟩
  · rw [if_neg hs0] at h2
    exact h2.elim
theorem pe_mrD {m : MR} (pa : PlainAttrs T) (slo : Slot T name id) (hty : typeOf (.builtin id) = pure (.type "method_descriptor")) (hm : MtR X id (rMr Γ m T)) (ht : ∀ {d : D} {v : V} {F H : Hp} {fp : List Addr}, Fz F H → mrT m d = some T → Rp Γ F H v d fp → tyV X.K T v H) (ho : PE X o (tE Γ fld W fa)) (ha : PA X (e :: es) (tA Γ fld W fs)) (tx : MtTxt X o name apos cpos (e :: es)) :
    PE X (.Call (.Attribute o name apos) (e :: es) [] cpos) (tE Γ fld W (mrF fa fs m T)) := by
  have hp := tx.plain
  rw [List.all_cons, Bool.and_eq_true] at hp
  refine (pe_bm pa slo hty hm ho ha tx.base ?_ tx.line (by have := hp.1; cases e <;> first | rfl | (simp [noStarB] at this)) (starEach_all hp.2).2).imp fun σ H Q h => mr_read ht h
  rw [(starEach_all tx.plain).1]
  have := tx.few
  simp only [List.length_cons] at this
  simp only [Bool.true_and, List.length_cons, List.length_nil, Bool.and_eq_true, decide_eq_true_eq]
  refine ⟨rfl, ?_⟩
  show es.length + 1 + 0 + 0 < 30
  omega
theorem RpL.strs {F H : Hp} : ∀ {ds : List D} {vs : List V} {fp : List Addr} {l : List (List Char)}, RpL Γ F H vs ds fp → strsOf ds = some l → vs = (l.map sv).map V.str
  | [], _, _, _, h, e => by cases h; cases e; rfl
  | d :: ds, _, _, l, h, e => by
    cases h with
    | cons a t =>
      cases d <;> simp only [strsOf, reduceCtorEq, Option.map_eq_some_iff] at e
      obtain ⟨l', e1, rfl⟩ := e
      cases a
      rw [RpL.strs t e1]; rfl
theorem sum_len (l : List (List Char)) : ((l.map sv).map (·.length)).sum = (l.map (·.length)).sum := by
  induction l with
  | nil => rfl
  | cons x l ih => simp only [List.map_cons, List.sum_cons, ih, sv_length]
theorem mt_joinD : MtR X "str.join" (rMr Γ .join "str") := by
  intro pins s σ H x xs v us Q I rx rxs h
  obtain ⟨F, d, ds, e, fd, z, rd, vw, ht, hm, n⟩ := h
  unfold mrV at hm
  split at hm
  any_goals (simp [mrT] at ht; done)
  any_goals (cases hm; done)
  · rename_i t m ys _
    cases hl : strsOf ys with
    | none => rw [hl] at hm; cases hm
    | some l =>
      rw [hl] at hm
      simp only [Option.bind_some] at hm
      split at hm
      · rename_i hb
        cases hm
        cases rd
        cases vw with
        | cons a c t2 =>
          cases t2
          obtain ⟨p, ws, fq, rfl, q, rr⟩ := a.lstS z
          have := rr.strs hl
          subst this
          refine mt_join pins s σ H _ _ v us Q I rx rxs ⟨sv t, p, l.map sv, rfl, rfl, .inl (.of q), ?_, ?_⟩
          · rw [sum_len, List.length_map, sv_length]; exact hb
          · rw [show Txt.join (sv t) (l.map sv) = sv (joinS t l) by rw [← joinS_sv]; exact StrLaws.glued_eq_join (sv t) (l.map sv)]
            exact n.str z
      · cases hm
theorem tE_mono' {f : Fr → Rs Rv} {σ : L2.St} {H : Hp} {Q Q' : VK} (h : tE Γ fld W f σ H Q) (k : ∀ v H, Q v H → Q' v H) : tE Γ fld W f σ H Q' := by
  obtain ⟨B, F, T, af, S, h⟩ := h
  exact ⟨B, F, T, af, S, rG_mono h (fun r fr q _ hh v H' F' l k1 p => k _ _ (hh v H' F' l k1 p)) fun _ _ _ h => h⟩
theorem tA_nil' {σ : L2.St} {H : Hp} {Q : List V → Hp → Prop} (h : tA Γ fld W (fun fr => .ok [] fr true) σ H Q) : Q [] H := by
  obtain ⟨B, F, T, af, S, h⟩ := h
  exact h [] H F (.refl _) (fun _ => ⟨rfl, .refl _⟩) ⟨S, trivial⟩
theorem get_read {v y : V} {vs : List V} {H : Hp} {Q : VK} (h : rMr Γ .get "dict" v (y :: vs) H Q) : ∃ a o, v = .ref a ∧ DGet H a y o ∧ (vs = [] → Q (o.getD .non) H) ∧ ∀ w, vs = [w] → Q (o.getD w) H := by
  obtain ⟨F, d, ds, e, fd, z, rd, vw, ht, hm, n⟩ := h
  cases d <;> simp only [mrT, reduceCtorEq] at ht
  rename_i m t ks us
  cases vw with
  | @cons _ k fk _ ds2 rk ck vt =>
    cases vt with
    | nil =>
      simp only [mrV] at hm
      split at hm
      · rename_i hk
        obtain ⟨a, o, rfl, g, g1, g2⟩ := rd.dget z rk hk
        refine ⟨a, o, rfl, g, fun _ => ?_, fun w hw => (by cases hw)⟩
        cases hf : dfind k ks us with
        | none =>
          rw [hf] at hm
          cases hm
          rw [g1 hf]
          exact n.old z .non rfl
        | some e' =>
          rw [hf] at hm
          simp only at hm
          split at hm
          · rename_i hp
            cases hm
            obtain ⟨w, fe, rfl, rw0⟩ := g2 _ hf
            exact n.old z rw0 hp
          · cases hm
      · cases hm
    | @cons w x fx _ ds3 rx cx vt2 =>
      cases vt2 with
      | nil =>
        simp only [mrV] at hm
        split at hm
        · rename_i hk
          obtain ⟨a, o, rfl, g, g1, g2⟩ := rd.dget z rk hk
          refine ⟨a, o, rfl, g, fun h => (by cases h), fun w2 hw => ?_⟩
          cases hw
          cases hf : dfind k ks us with
          | none =>
            rw [hf] at hm
            simp only at hm
            split at hm
            · rename_i hp
              cases hm
              rw [g1 hf]
              exact n.old z rx hp
            · cases hm
          | some e' =>
            rw [hf] at hm
            simp only at hm
            split at hm
            · rename_i hp
              cases hm
              obtain ⟨w, fe, rfl, rw0⟩ := g2 _ hf
              exact n.old z rw0 hp
            · cases hm
        · cases hm
      | cons _ _ _ => simp [mrV] at hm
theorem get_ty {d : D} {v : V} {F H : Hp} {fp : List Addr} (z : Fz F H) (h : mrT .get d = some "dict") (r : Rp Γ F H v d fp) : ∃ a, v = .ref a ∧ IsD H a := by
  cases d <;> simp only [mrT, reduceCtorEq] at h
  cases r with
  | dicF e _ _ _ => exact ⟨_, rfl, .inl ⟨_, z.sub.rd _ _ e⟩⟩
  | dicFT e _ _ _ => exact ⟨_, rfl, .inr ⟨_, z.sub.rd _ _ e⟩⟩
  | dicO e _ _ => exact ⟨_, rfl, .inl ⟨_, .inl e⟩⟩
  | dicOT e _ _ => exact ⟨_, rfl, .inr ⟨_, .inl e⟩⟩
theorem pe_get1D (hu : X.A.units + 1 < cLine) (ho : PE X o (tE Γ fld W fa)) (he : PE X e (tE Γ fld W fe)) (m : M1 X o "get" apos e cpos) :
    PE X (.Call (.Attribute o "get" apos) [e] [] cpos) (tE Γ fld W (mrF fa (consF fe (fun fr => .ok [] fr true)) .get "dict")) := by
  refine (pe_dget1 hu ho he m).imp fun σ H Q h => ?_
  obtain ⟨B, F, T0, af, S, h⟩ := h
  refine tE_step S h (fun _ _ _ h => h) fun r f1 q1 e1 h1 v H1 F1 l1 k1 p1 => ?_
  obtain ⟨d0, f2, q2, e2, h2⟩ := rG_step h1 fun _ _ _ => look_noex
  obtain ⟨rfl, ⟨L0, S0⟩, fd, rd⟩ := look_one p1 e2
  by_cases hs0 : mrT .get d0 = some "dict"
  · rw [if_pos hs0] at h2
    obtain ⟨a, rfl, hd⟩ := get_ty S0.fz hs0 rd
    refine ⟨a, rfl, hd, ?_⟩
    have h3 := mr_args (T := "dict") (q0 := q1) (d0 := d0) p1 l1 k1 (rG_mono h2 (fun b fr q _ hh v2 H2 F2 l2 k2 p2 => hh v2 H2 F2 l2 (fun hq => k2 (by simp only [Bool.and_eq_true] at hq ⊢; exact ⟨hq.1, hq.2.2⟩)) p2) fun _ _ _ h => h)
    refine tE_mono' (tA_cons h3) fun y H2 h4 => ?_
    obtain ⟨a', o', ea, g, g1, _⟩ := get_read (tA_nil' h4)
    cases ea
    exact ⟨o', g, g1 rfl⟩
  · rw [if_neg hs0] at h2
    exact h2.elim
theorem pe_get2D (hu : X.A.units + 1 < cLine) (ho : PE X o (tE Γ fld W fa)) (he : PE X e (tE Γ fld W fe)) (hf : PE X f (tE Γ fld W ff)) (m : M2 X o "get" apos e f cpos) :
    PE X (.Call (.Attribute o "get" apos) [e, f] [] cpos) (tE Γ fld W (mrF fa (consF fe (consF ff (fun fr => .ok [] fr true))) .get "dict")) := by
  refine (pe_dget2 hu ho he hf m).imp fun σ H Q h => ?_
  obtain ⟨B, F, T0, af, S, h⟩ := h
  refine tE_step S h (fun _ _ _ h => h) fun r f1 q1 e1 h1 v H1 F1 l1 k1 p1 => ?_
  obtain ⟨d0, f2, q2, e2, h2⟩ := rG_step h1 fun _ _ _ => look_noex
  obtain ⟨rfl, ⟨L0, S0⟩, fd, rd⟩ := look_one p1 e2
  by_cases hs0 : mrT .get d0 = some "dict"
  · rw [if_pos hs0] at h2
    obtain ⟨a, rfl, hd⟩ := get_ty S0.fz hs0 rd
    refine ⟨a, rfl, hd, ?_⟩
    have h3 := mr_args (T := "dict") (q0 := q1) (d0 := d0) p1 l1 k1 (rG_mono h2 (fun b fr q _ hh v2 H2 F2 l2 k2 p2 => hh v2 H2 F2 l2 (fun hq => k2 (by simp only [Bool.and_eq_true] at hq ⊢; exact ⟨hq.1, hq.2.2⟩)) p2) fun _ _ _ h => h)
    refine tE_mono' (tA_cons h3) fun y H2 h4 => tE_mono' (tA_cons h4) fun w H3 h5 => ?_
    obtain ⟨a', o', ea, g, _, g2⟩ := get_read (tA_nil' h5)
    cases ea
    exact ⟨o', g, g2 w rfl⟩
  · rw [if_neg hs0] at h2
    exact h2.elim
end
end VI

end

section
/-! ViQ5: expressions: errors, ranges. -/
namespace VI
open PySem L2 PyProof.Rows

section
variable {X : Cx} {Γ : Wd} {fld : String → Option String} {W : WX} {fa : Fr → Rs Rv} {fs : Fr → Rs (List Rv)} {a : Expr} {es : List Expr} {p pos pos2 : Pos}
def fldK (c : Cv) (f : String) (r : Rv) (fr : Fr) : Rs Rv := (r.look fr).bind fun d fr => match d with
    | .obj _ ns vs => match ofind f ns vs with
      | some e => .ok (partR r (.fd f) e) fr true
      | none => .no
    | .exn k g x => if g = f ∧ fldE c.exc k = some g then .ok (.tmp x) fr true else .no
    | _ => .no
theorem Rp.exnS {F H : Hp} {v : V} {c f : String} {d : D} {fp : List Addr} (h : Rp Γ F H v (.exn c f d) fp) : ∃ a C dd va, v = .ref a ∧ Rd F a (exnO a C dd) ∧ Rd F dd (.xd [(Str.ofString f, va)]) ∧ Γ.cls c = some C ∧ Rp Γ F H va d [] ∧ d.pure = true := by
  cases h with
  | exn e1 e2 e3 e4 e5 => exact ⟨_, _, _, _, rfl, e1, e2, e3, e4, e5⟩
theorem pe_fldXD {c : Cv} {f : String} {nm : Str} (hf : nm = Str.ofString f) (EF : ErrF c.exc Γ fld X.prog X.w X.K X.mg X.base) (hC : ∀ c C, Γ.ocl c = some C → Cls X.K C ∧ NoAttr X.K C nm)
    (ha : PE X a (tE Γ fld W fa)) (hb : attributeBase a nm X.env (eval a X.env) = eval a X.env) :
    PE X (.Attribute a nm pos) (tE Γ fld W (fun fr => (fa fr).bind fun r fr => fldK c f r fr)) := by
  subst hf
  refine (pe_fldA ha hb).imp fun σ H Q h => ?_
  obtain ⟨B, F, T, af, S, h⟩ := h
  refine tE_step S h (fun _ _ _ h => h) fun r f1 q1 e1 h1 v H1 F1 l1 k1 p1 => ?_
  unfold fldK at h1
  obtain ⟨d, f2, q2, e2, h2⟩ := rG_step h1 fun _ _ _ => look_noex
  obtain ⟨rfl, ⟨L, S1⟩, fd, rd⟩ := look_one p1 e2
  split at h2
  · rename_i c' ns vs
    cases eo : ofind f ns vs with
    | none => rw [eo] at h2; exact h2.elim
    | some e =>
      rw [eo] at h2
      have h2 : okE Γ B F T af σ H Q (partR r (.fd f) e) f2 (q1 && (q2 && true)) := h2
      obtain ⟨u, ⟨ad, C, dx, fs, c1, c2, c3, c4⟩, pu⟩ := part_one (R := fun u => ∃ ad C dx fs, v = .ref ad ∧ H1 ad = some (.ins C dx fs) ∧ Γ.ocl c' = some C ∧ fs.lookup (Str.ofString f) = some u) p1 e2 (show D.step (.obj c' ns vs) (.fd f) = some e from eo) (fun fp rp => by
        cases rp with
        | obj e0 ec g0 r0 =>
          obtain ⟨n, b1, _, _, b4⟩ := ofind_at g0 eo
          obtain ⟨u, fe, b5, b6⟩ := r0.nth b1
          exact ⟨u, fe, ⟨_, _, _, _, rfl, e0, ec, b4.trans b5⟩, b6⟩) (fun fp u rp ne pt => by
        cases rp with
        | obj e0 ec g0 r0 =>
          cases pt with
          | obj e1 n1 q => cases q; rw [e0] at e1; cases e1; exact ⟨_, _, _, _, rfl, e0, ec, n1⟩)
      obtain ⟨k1', k2'⟩ := hC c' C c3
      exact .inl ⟨ad, C, dx, fs, u, c1, c2, k1', k2', c4, h2 u H1 F1 l1 (fun hq => k1 (by simp only [Bool.and_eq_true] at hq; exact hq.1)) pu⟩
  · rename_i k g x
    split at h2
    · rename_i hg
      obtain ⟨hg, hk⟩ := hg
      subst hg
      obtain ⟨a0, C, dd, va, rfl, x1, x2, x3, x4, x5⟩ := rd.exnS
      obtain ⟨hfk, C', fI, pn, fd', hC, T', FI, hbn, EC⟩ := EF.mkr k g hk
      rw [x3] at hC; cases hC
      have h2 : okE Γ B F T af σ H Q (.tmp x) f2 (q1 && (q2 && true)) := h2
      exact .inr ⟨a0, C, dd, fI, va, rfl, T', S1.sub.rd _ _ x1, S1.sub.rd _ _ x2, h2 va H1 F1 l1 (fun hq => k1 (by simp only [Bool.and_eq_true] at hq; exact hq.1)) (S1.dropL.addPure x4 x5)⟩
    · exact h2.elim
  · exact h2.elim
/-- a in range(..) -/
theorem pe_inrD {e : Expr} {n : Nat} (hK : Γ.K = X.K) (hg : Gl X "range") (hm : X.mg "range" = none) (ha : PE X a (tE Γ fld W fa)) (hs : PA X (e :: es) (tA Γ fld W fs)) (he : starEach (e :: es) X.env = (false, eval e X.env) :: starEach es X.env) (hpl : (backTo pos2 (starEach es X.env)).any (·.1) = false)
    (hl : (e :: es).length = n) (hn : n = 1 ∨ n = 2) (hln : ∀ fr rs fr' q, fs fr = .ok rs fr' q → rs.length = n) (hb : behindInMarks .In (.Call (.Name "range" p) (e :: es) [] pos2) = false) :
    PE X (.Compare a [.In] [.Call (.Name "range" p) (e :: es) [] pos2] pos) (tE Γ fld W (fun fr => (fa fr).bind fun r fr => match r with
    | .tmp (.int i) => (fs fr).bind fun rs fr => kInr i rs fr
    | _ => .no)) := by
  have go : ∀ {r : List V → Hp → VK → Prop}, CallR X (.type "range") r → (∀ (i : Int) (vs : List V) (rs : List Rv) (H : Hp) (Q : VK) (B : Bd) (σ : L2.St) (F : Hp) (af : Fr) (T : List (V × D)), rs.length = n → PRs Γ B σ F H af T rs vs → (∀ b, kInr i rs af = .ok (.tmp (.bl b)) af true → ∀ p o, H p = none → (∀ vs, o ≠ HO.tup vs) → Q (.bl b) (upd H p o)) → (∃ b, kInr i rs af = .ok (.tmp (.bl b)) af true) →
      r vs H fun y H2 => ∃ i' a lo hi, V.int i = V.int i' ∧ y = .ref a ∧ H2 a = some (.rng lo hi) ∧ Q (.bl (decide (lo ≤ i' ∧ i' < hi))) H2) →
      PE X (.Compare a [.In] [.Call (.Name "range" p) (e :: es) [] pos2] pos) (tE Γ fld W (fun fr => (fa fr).bind fun r fr => match r with
    | .tmp (.int i) => (fs fr).bind fun rs fr => kInr i rs fr
    | _ => .no)) := fun {r} hc hr => by
    refine (pe_cmpR op_in_rng ha (pe_callTy hc hg hm PyProof.Rows.boot_range hs (by decide) (by decide) he hpl) hb).imp fun σ H Q h => ?_
    obtain ⟨B, F, T, af, S, h⟩ := h
    refine tE_step S h (fun _ _ _ h => h) fun r0 f1 q1 e1 h1 v H1 F1 l1 k1 p1 => ?_
    split at h1
    · rename_i i
      have S1 : Sta Γ B F1 H1 σ f1 ((v, .int i) :: T) := p1
      obtain ⟨fp, rv⟩ := S1.rp
      obtain rfl := rv.intS
      refine tA_step S1.drop h1 (fun _ _ _ h => h) fun rs f2 q2 e2 h2 vs H2 F2 l2 k2 p2 => ?_
      have hb : ∃ b, kInr i rs f2 = .ok (.tmp (.bl b)) f2 true := by
        cases ek : kInr i rs f2 with
        | no => rw [ek] at h2; exact h2.elim
        | ex c z fr => unfold kInr at ek; split at ek <;> cases ek
        | ok x fr q =>
          unfold kInr at ek
          split at ek
          · cases ek; exact ⟨_, rfl⟩
          · cases ek; exact ⟨_, rfl⟩
          · cases ek
      refine hr i vs rs H2 Q B σ F2 f2 T (hln _ _ _ _ e2) p2 (fun b hb2 p0 o hp ho => ?_) hb
      rw [hb2] at h2
      have S2 := p2.1.dropL
      have A := alloc_any (o := o) ho S2.fz hp
      refine h2 (.bl b) _ F2 (l1.trans l2) (fun hq => ?_) ((S2.grown A).addPure (.bl b) rfl)
      simp only [Bool.and_eq_true, and_true] at hq
      obtain ⟨a1, a2⟩ := k1 hq.1
      obtain ⟨b1, b2⟩ := k2 hq.2
      exact ⟨b1.trans a1, (a2.trans b2).trans A.same.h⟩
    · exact h1.elim
  have val : ∀ {B : Bd} {σ : L2.St} {F H : Hp} {af : Fr} {T : List (V × D)} {rs : List Rv} {vs : List V} {j : Int}, PRs Γ B σ F H af T (.tmp (.int j) :: rs) vs → ∃ vs', vs = .int j :: vs' ∧ PRs Γ B σ F H af T rs vs' := fun {B σ F H af T rs vs j} h => by
    cases vs with
    | nil => exact h.2.elim
    | cons v vs =>
      have S : Sta Γ B F H σ af ((v, .int j) :: (tmps rs vs ++ T)) := h.1
      obtain ⟨fp, rv⟩ := S.rp
      obtain rfl := rv.intS
      exact ⟨vs, rfl, S.drop, h.2⟩
  have nil : ∀ {B : Bd} {σ : L2.St} {F H : Hp} {af : Fr} {T : List (V × D)} {vs : List V}, PRs Γ B σ F H af T [] vs → vs = [] := fun {B σ F H af T vs} h => by
    cases vs with
    | nil => rfl
    | cons => exact h.2.elim
  rcases hn with rfl | rfl
  · refine go cr_range1 fun i vs rs H Q B σ F af T hl2 p2 hQ hb => ?_
    obtain ⟨b, hb⟩ := hb
    have hb0 := hb
    unfold kInr at hb
    split at hb
    · rename_i hi
      cases hb
      obtain ⟨vs', rfl, p3⟩ := val p2
      cases nil p3
      exact ⟨hi, rfl, fun p0 hp => ⟨i, p0, 0, hi, rfl, rfl, upd_same, hQ _ hb0 p0 _ hp fun vs z => by cases z⟩⟩
    · simp at hl2
    · cases hb
  · refine go cr_range2 fun i vs rs H Q B σ F af T hl2 p2 hQ hb => ?_
    obtain ⟨b, hb⟩ := hb
    have hb0 := hb
    unfold kInr at hb
    split at hb
    · simp at hl2
    · rename_i lo hi
      cases hb
      obtain ⟨vs', rfl, p3⟩ := val p2
      obtain ⟨vs'', rfl, p4⟩ := val p3
      cases nil p4
      exact ⟨lo, hi, rfl, fun p0 hp => ⟨i, p0, lo, hi, rfl, rfl, upd_same, hQ _ hb0 p0 _ hp fun vs z => by cases z⟩⟩
    · cases hb
/-- names of classes -/
inductive ClsN (X : Cx) : List Expr → List V → List Value → Prop
  | nil : ClsN X [] [] []
  | cons {e : Expr} {c : V} {u : Value} {es : List Expr} {cs : List V} {us : List Value} : PE X e (tC c) → ClsV c u → (starEach (e :: es) X.env = (false, eval e X.env) :: starEach es X.env) → ClsN X es cs us → ClsN X (e :: es) (c :: cs) (u :: us)
theorem ClsN.pa {es : List Expr} {cs : List V} {us : List Value} (h : ClsN X es cs us) : PA X es (fun σ H Q => Q cs H) := by
  induction h with
  | nil => exact pa_nil
  | cons he _ hs _ ih => exact (pa_cons he ih hs).imp fun σ H Q h => h
theorem ClsN.paired {es : List Expr} {cs : List V} {us : List Value} (h : ClsN X es cs us) : Paired ClsV cs us := by
  induction h with
  | nil => exact .nil
  | cons _ hc _ _ ih => exact .cons hc ih
/-- the answer of isinstance -/
def isiK (c : Cv) (ts : List String) (r : Rv) (fr : Fr) : Rs Rv := (r.look fr).bind fun d fr => match isAnyX c.exc ts d with
    | some b => .ok (.tmp (.bl b)) fr true
    | none => .no
theorem isAny_own {ts : List String} (h : ts ≠ []) (hn : ∀ t ∈ ts, isTs.contains t = false) (d : D) : isAny ts d = none := by
  cases ts with
  | nil => exact (h rfl).elim
  | cons t ts =>
    unfold isAny isT
    cases tyD d with
    | none => rfl
    | some x =>
      simp only
      rw [if_neg (by rw [hn t (List.mem_cons_self ..)]; simp)]
theorem kitAny_of {ex : List Ecl} {P : Program} {w : World} {K : PySem.W.Frag} {mg : Str → Option Value} {base : Heap} (F : ErrF ex Γ fld P w K mg base) {k fl : String} {C : Addr} (hf : fldE ex k = some fl) (hC : Γ.cls k = some C) :
    ∀ {ts : List String} {Ds : List Addr} {b : Bool}, ClsL Γ mg ts Ds → anyE ex k ts = some b → PySem.W.kitAny K (.ref C) (Ds.map Value.ref) = some b
  | [], [], b, _, h => by cases h; rfl
  | t :: ts, D :: Ds, b, .cons d1 d2 r, h => by
    unfold anyE at h
    split at h
    · rename_i a c h1 h2
      cases h
      have e1 := (F.sub k t a C D fl hf h1 hC d1).2
      have e2 := kitAny_of F hf hC r h2
      show (match PySem.W.kitOne K (.ref C) (.ref D) with
        | some true => some true
        | some false => PySem.W.kitAny K (.ref C) (Ds.map Value.ref)
        | none => none) = _
      rw [e1]
      cases a with
      | true => simp
      | false => simpa using e2
    · cases h
/-- isinstance(a, T) of an own class T -/
theorem pe_isiXD {c : Cv} {T : String} {D : Addr} {x : Str} {p2 : Pos} (EF : ErrF c.exc Γ fld X.prog X.w X.K X.mg X.base) (hx : x = Str.ofString T) (hT : isTs.contains T = false) (hD : Γ.cls T = some D) (hmD : X.mg (Str.ofString T) = some (.ref D)) (hg : Gl X "isinstance") (hm : X.mg "isinstance" = none) (hgT : Gl X x) (hdT : (x == ("__debug__" : Str)) = false)
    (ha : PE X a (tE Γ fld W fa)) (he : starEach (a :: [.Name x p2]) X.env = (false, eval a X.env) :: starEach [.Name x p2] X.env) (hpl : (backTo pos (starEach [.Name x p2] X.env)).any (·.1) = false) :
    PE X (.Call (.Name "isinstance" p) [a, .Name x p2] [] pos) (tE Γ fld W (fun fr => (fa fr).bind fun r fr => isiK c [T] r fr)) := by
  subst hx
  have hb : PE X (.Name (Str.ofString T) p2) (tC (.ref D)) := pe_glob hgT hmD rfl hdT
  refine (pe_callB call_isX hg hm rfl (pa_cons ha (pa_cons hb pa_nil) he) (by decide) (by decide) he hpl).imp fun σ H Q h => ?_
  obtain ⟨B, F, T', af, S, h⟩ := h
  refine tE_step S h (fun _ _ _ h => h) fun r f1 q1 e1 h1 v H1 F1 l1 k1 p1 => ?_
  unfold isiK at h1
  obtain ⟨d, f2, q2, e2, h2⟩ := rG_step h1 fun _ _ _ => look_noex
  obtain ⟨rfl, ⟨L, S1⟩, fd, rd⟩ := look_one p1 e2
  have hno : isAny [T] d = none := isAny_own (by simp) (by simpa using hT) d
  cases d with
  | exn k g y =>
    simp only [isAnyX, List.any_cons, List.any_nil, hT, Bool.or_false, Bool.false_or] at h2
    split at h2
    · rename_i b hb2
      split at hb2
      · cases hb2
      · rename_i hs
        have hs : (fldE c.exc k).isSome = true := by
          cases h : (fldE c.exc k).isSome with
          | true => rfl
          | false => exact (hs (by rw [h]; rfl)).elim
        obtain ⟨fl, hf⟩ := Option.isSome_iff_exists.mp hs
        obtain ⟨a0, C, dd, va, rfl, x1, x2, x3, x4, x5⟩ := rd.exnS
        obtain ⟨hfk, C', fI, pn, fd', hC, T'', FI, hbn, EC⟩ := EF.mkr k fl hf
        rw [x3] at hC; cases hC
        have hk := kitAny_of EF hf x3 (.cons hD hmD .nil) hb2
        have hk1 : PySem.W.kitOne X.K (.ref C) (.ref D) = some b := by
          have hk : (match PySem.W.kitOne X.K (.ref C) (.ref D) with
            | some true => some true
            | some false => PySem.W.kitAny X.K (.ref C) []
            | none => none) = some b := hk
          cases ek : PySem.W.kitOne X.K (.ref C) (.ref D) with
          | none => rw [ek] at hk; cases hk
          | some b2 => rw [ek] at hk; cases b2 <;> (cases hk; rfl)
        have h2 : okE Γ B F T' af σ H Q (.tmp (.bl b)) f2 (q1 && (q2 && true)) := h2
        exact ⟨a0, C, dd, _, .ref D, .ref D, b, rfl, EC, S1.sub.rd _ _ x1, S1.sub.rd _ _ x2, .own D, hk1, h2 (.bl b) H1 F1 l1 (fun hq => k1 (by simp only [Bool.and_eq_true] at hq; exact hq.1)) (S1.dropL.addPure (.bl b) rfl)⟩
    · exact h2.elim
  | _ => simp only [isAnyX, hno] at h2; exact h2.elim
/-- isinstance(a, (T, ..)) of own classes -/
theorem pe_isiXTD {c : Cv} {ts : List String} {Ds : List Addr} {ns : List Expr} {k2 : Nat} {tp : Pos} (EF : ErrF c.exc Γ fld X.prog X.w X.K X.mg X.base) (hne : ts ≠ []) (hT : ∀ t ∈ ts, isTs.contains t = false) (hD : ClsL Γ X.mg ts Ds) (hN : ClsN X ns (Ds.map V.ref) (Ds.map Value.ref)) (hl3 : Ds.length ≤ 3) (hg : Gl X "isinstance") (hm : X.mg "isinstance" = none)
    (ha : PE X a (tE Γ fld W fa)) (he : starEach (a :: [.Tuple ns k2 tp]) X.env = (false, eval a X.env) :: starEach [.Tuple ns k2 tp] X.env) (hpl : (backTo pos (starEach [.Tuple ns k2 tp] X.env)).any (·.1) = false) :
    PE X (.Call (.Name "isinstance" p) [a, .Tuple ns k2 tp] [] pos) (tE Γ fld W (fun fr => (fa fr).bind fun r fr => isiK c ts r fr)) := by
  refine (pe_callB call_isXT hg hm rfl (pa_cons ha (pa_cons (pe_tup hN.pa) pa_nil) he) (by decide) (by decide) he hpl).imp fun σ H Q h => ?_
  obtain ⟨B, F, T', af, S, h⟩ := h
  refine tE_step S h (fun _ _ _ h => h) fun r f1 q1 e1 h1 v H1 F1 l1 k1 p1 => ?_
  unfold isiK at h1
  obtain ⟨d, f2, q2, e2, h2⟩ := rG_step h1 fun _ _ _ => look_noex
  obtain ⟨rfl, ⟨L, S1⟩, fd, rd⟩ := look_one p1 e2
  have hno : isAny ts d = none := isAny_own hne hT d
  have hany : ts.any isTs.contains = false := by
    rw [List.any_eq_false]
    intro t ht; rw [hT t ht]; simp
  cases d with
  | exn k g y =>
    simp only [isAnyX, hany, Bool.false_or] at h2
    split at h2
    · rename_i b hb2
      split at hb2
      · cases hb2
      · rename_i hs
        have hs : (fldE c.exc k).isSome = true := by
          cases h : (fldE c.exc k).isSome with
          | true => rfl
          | false => exact (hs (by rw [h]; rfl)).elim
        obtain ⟨fl, hf⟩ := Option.isSome_iff_exists.mp hs
        obtain ⟨a0, C, dd, va, rfl, x1, x2, x3, x4, x5⟩ := rd.exnS
        obtain ⟨hfk, C', fI, pn, fd', hC, T'', FI, hbn, EC⟩ := EF.mkr k fl hf
        rw [x3] at hC; cases hC
        have hk := kitAny_of EF hf x3 hD hb2
        have h2 : okE Γ B F T' af σ H Q (.tmp (.bl b)) f2 (q1 && (q2 && true)) := h2
        refine ⟨by rw [List.length_map, ← line_eq]; exact Nat.le_trans hl3 (by decide), fun p0 hp => ?_⟩
        have A := alloc_tup (vs := Ds.map V.ref) S1.fz hp
        have up : ∀ {a : Addr} {o : HO}, Rd F1 a o → Rd (upd H1 p0 (.tup (Ds.map V.ref))) a o := fun {a o} e => (A.sub.rd _ _ (A.le.rd _ _ e))
        exact ⟨a0, C, dd, p0, _, _, _, b, rfl, EC, up x1, up x2, upd_same, hN.paired, hk, h2 (.bl b) _ _ (l1.trans A.le) (fun hq => by
          simp only [Bool.and_eq_true] at hq
          obtain ⟨a1, a2⟩ := k1 hq.1
          exact ⟨a1, a2.trans A.same.h⟩) ((S1.dropL.grown A).addPure (.bl b) rfl)⟩
    · exact h2.elim
  | _ => simp only [isAnyX, hno] at h2; exact h2.elim
end
end VI

end

section
/-! ViK: the checker: is this text of the small language the form of that tree? -/
namespace VI
open PySem L2 PyProof.Rows

/-- what is known of a body, or of a comprehension's block -/
structure Sc where
  N : List Str
  sc : Scope
  /-- the block's own names (none: a def's body) -/
  blk : Option Scope
  defs : List (String × Nat)
  kws : List (String × Nat × List Str × List Nat)
  exc : List Ecl := []
def Sc.kind (S : Sc) (x : Str) : Option NameKind := S.sc.names.lookup x
def plainName (x : Str) : Bool := !(x == ("__debug__" : Str)) && !(x == ("__classdict__" : Str)) && !(x == ("__name__" : Str))
def Sc.vis (S : Sc) (i : Nat) (x : Str) : Bool := decide (S.N[i]? = some x) && plainName x && (match S.kind x with
  | some .local => true
  | some .cell => true
  | some .free => true
  | _ => false)
def Sc.gl (S : Sc) (x : Str) : Bool := plainName x && (match S.kind x with
  | some .globalImplicit => true
  | _ => false)
/-- a name that may be stored to -/
def Sc.st (S : Sc) (i : Nat) (x : Str) : Bool := decide (S.N[i]? = some x) && (match S.kind x with
  | some .local => true
  | some .cell => (match S.blk with
    | none => true
    | some s => s.names.lookup x == some .cell)
  | _ => false)
def relab (scope sc : Scope) : Scope :=
  { scope with names := scope.names.map fun (n, k) => if (k == .free && sc.kind == .function && sc.names.lookup n == some .cell) then (n, .cell) else (n, k) }
def Sc.inner (S : Sc) (scope : Scope) : Sc := { S with sc := relab scope S.sc, blk := some scope }
def plainIx : Expr → Bool
  | .Slice _ _ none _ => false
  | _ => true
def plainTest : Expr → Bool
  | .UnaryOp .Not _ _ => false
  | .BoolOp _ _ _ => false
  | .IfExp _ _ _ _ => false
  | .Compare _ _ _ _ => false
  | _ => true
def noStar : Expr → Bool
  | .Starred _ _ => false
  | _ => true
def noSet : Expr → Bool
  | .Set _ _ _ => false
  | _ => true
def biName : BI → Str
  | .len => "len"
  | .tuple => "tuple"
  | .list => "list"
  | .sorted => "sorted"
  | .int => "int"
  | .str => "str"
  | .repr => "repr"
  | .min => "min"
  | .max => "max"
  | .sum => "sum"
  | .all => "all"
  | .any => "any"
  | .abs => "abs"
  | .divmod => "divmod"
  | .dict => "dict"
  | .sortedItems => ""
  | .listItems => ""
def noItems : BI → Bool
  | .sortedItems => false
  | .listItems => false
  | _ => true
mutual
def ckT (S : Sc) : T → Expr → Bool
  | .n i, e => match e with
    | .Name x _ => S.st i x
    | _ => false
  | .t ts, e => match e with
    | .Tuple es _ _ => ckTs S ts es
    | _ => false
def ckTs (S : Sc) : Ts → List Expr → Bool
  | .nil, es => match es with
    | [] => true
    | _ => false
  | .cons t ts, es => match es with
    | e :: es => noStar e && ckT S t e && ckTs S ts es
    | _ => false
end
/-- no call of super -/
def noSup : Expr → Bool
  | .Call (.Name _ _) [] [] _ => false
  | _ => true
def mrNm : MR → Nat → Option Str
  | .join, 1 => some "join"
  | .get, 1 => some "get"
  | .get, 2 => some "get"
  | _, _ => none
def mwNm : MW → Nat → Option Str
  | .append, 1 => some "append"
  | .pop, 0 => some "pop"
  | .pop, 1 => some "pop"
  | _, _ => none
/-- the keys of a dict -/
def ckK (S : Sc) (it : I) (e : Expr) : Bool := match it, e with
  | .keys i, .Name x _ => S.vis i x
  | _, _ => false
/-- names of own classes of errors -/
def ckNs (S : Sc) : List String → List Expr → Bool
  | [], [] => true
  | t :: ts, .Name y _ :: es => S.gl y && decide (y = Str.ofString t) && !isTs.contains t && (eclOf S.exc t).isSome && ckNs S ts es
  | _, _ => false
def ownOf (S : Sc) (own : List Nat) : List (Str × Nat) := own.map fun i => ((S.N[i]?).getD "", i)
mutual
def ckE (S : Sc) : E → Expr → Bool
  | .v i, e => match e with
    | .Name x _ => S.vis i x
    | _ => false
  | .mv i, e => match e with
    | .Name x _ => S.vis i x
    | _ => false
  | .g y, e => match e with
    | .Name x _ => S.gl x && decide (x = Str.ofString y)
    | _ => false
  | .non, e => match e with
    | .Constant .none _ _ => true
    | _ => false
  | .tt b, e => match e with
    | .Constant (.bool b') _ _ => b == b'
    | _ => false
  | .i n, e => match e with
    | .Constant (.int m) _ _ => decide (n = m)
    | _ => false
  | .s x, e => match e with
    | .Constant (.str y) _ _ => decide (y = sv x.toList)
    | _ => false
  | .bin o a b, e => match e with
    | .BinOp a' op b' _ => decide (op = opn o) && ckE S a a' && ckE S b b'
    | _ => false
  | .neg a, e => match e with
    | .UnaryOp .USub a' _ => ckE S a a'
    | _ => false
  | .cmp o a b, e => match e with
    | .Compare a' [op] [b'] _ => decide (op = cpn o) && !behindInMarks op b' && ckE S a a' && ckE S b b'
    | _ => false
  | .chain o o' a b d, e => match e with
    | .Compare a' [op, op'] [b', d'] _ => decide (op = cpn o) && decide (op' = cpn o') && !lastMarks [op, op'] [b', d'] && ckE S a a' && ckE S b b' && ckE S d d'
    | _ => false
  | .notv a, e => match e with
    | .UnaryOp .Not a' _ => ckE S a a'
    | _ => false
  | .and a b, e => match e with
    | .BoolOp .And [x, y] _ => ckE S a x && ckE S b y
    | .BoolOp .And (x :: y :: z :: r) p => ckE S a x && ckE S b (.BoolOp .And (y :: z :: r) p)
    | _ => false
  | .or a b, e => match e with
    | .BoolOp .Or [x, y] _ => ckE S a x && ckE S b y
    | .BoolOp .Or (x :: y :: z :: r) p => ckE S a x && ckE S b (.BoolOp .Or (y :: z :: r) p)
    | _ => false
  | .ifx t a b, e => match e with
    | .IfExp t' a' b' _ => ckC S t t' && ckE S a a' && ckE S b b'
    | _ => false
  | .tup es, e => match e with
    | .Tuple es' _ _ => ckEs S es es'
    | _ => false
  | .lst es, e => match e with
    | .List es' _ => ckEs S es es'
    | _ => false
  | .dic kvs, e => match e with
    | .Dict ks vs _ => decide (0 < ks.length) && decide (ks.length ≤ 15) && ckKv S kvs ks vs
    | _ => false
  | .dnew _, e => match e with
    | .Dict [] [] _ => true
    | _ => false
  | .sub a b, e => match e with
    | .Subscript a' b' _ => plainIx b' && ckE S a a' && ckE S b b'
    | _ => false
  | .slc a lo hi, e => match e with
    | .Subscript a' (.Slice lo' hi' none _) _ => ckE S a a' && ckO S lo lo' && ckO S hi hi'
    | _ => false
  | .rsl a, e => match e with
    | .Subscript a' (.Slice none none (some (.UnaryOp .USub (.Constant (.int 1) _ _) _)) _) _ => ckE S a a'
    | _ => false
  | .call f es, e => match e with
    | .Call (.Name x _) es' [] _ => S.gl x && decide (x = Str.ofString f) && decide (S.defs.lookup f = some es'.length) && ckEs S es es'
    | _ => false
  | .callk f pm es, e => match e with
    | .Call (.Name x _) as kws _ => S.gl x && decide (x = Str.ofString f) && decide (S.defs.lookup f = some pm.length) && (kws.all fun k => k.arg.isSome) && decide ((f, as.length, kws.filterMap (·.arg), pm) ∈ S.kws) && as.all noStar && ckEs S es (as ++ kws.map (·.value))
    | _ => false
  | .bi f es, e => match e with
    | .Call (.Name x _) (e' :: es') [] _ => S.gl x && decide (x = biName f) && noItems f && ckEs S es (e' :: es')
    | _ => false
  | .isi a ts, e => match ts, e with
    | [t], .Call (.Name x _) [a', .Name y _] [] _ => S.gl x && decide (x = ("isinstance" : Str)) && S.gl y && decide (y = Str.ofString t) && (isTs.contains t || (eclOf S.exc t).isSome) && noStar a' && ckE S a a'
    | t1 :: t2 :: ts, .Call (.Name x _) [a', .Tuple ns _ _] [] _ => S.gl x && decide (x = ("isinstance" : Str)) && decide (ts.length ≤ 1) && ckNs S (t1 :: t2 :: ts) ns && noStar a' && ckE S a a'
    | _, _ => false
  | .inr a es, e => match e with
    | .Compare a' [.In] [.Call (.Name x p) (e' :: es') [] p2] _ => S.gl x && decide (x = ("range" : Str)) && (es'.length == 0 || es'.length == 1) && !behindInMarks .In (.Call (.Name x p) (e' :: es') [] p2) && ckE S a a' && ckEs S es (e' :: es')
    | _ => false
  | .lamc _ _ _, _ => false
  | .thk _, _ => false
  | .lc own tg it c a, e => match e with
    | .ListComp a' [⟨tg', it', ifs', isa⟩] scope _ => decide (isa = 0) && blkC S.N S.sc scope (ownOf S own) && decide own.Nodup && ((slotsT tg).all fun i => decide (i ∈ own)) && noSet it' && (ckI S tg' it it' || ckK S it it') && ckT (S.inner scope) tg tg' && ckCo (S.inner scope) c ifs' && ckE (S.inner scope) a a'
    | _ => false
  | .never, _ => true
  | .fld a f, e => match e with
    | .Attribute a' nm _ => decide (nm = Str.ofString f) && noSup a' && ckE S a a'
    | _ => false
  | .new _ _, _ => false
  | .meth _ _ _ _, _ => false
  | .mr m a es, e => match e with
    | .Call (.Attribute o nm apos) es' [] cpos => noSup o && (apos.endLine == cpos.line) && decide (mrNm m es'.length = some nm) && ckE S a o && ckEs S es es'
    | _ => false
  | .mw m a es, e => match e with
    | .Call (.Attribute o nm apos) es' [] cpos => noSup o && (apos.endLine == cpos.line) && decide (mwNm m es'.length = some nm) && ckE S a o && ckEs S es es'
    | _ => false
  | .dc own tg it c kx a, e => match e with
    | .DictComp k' a' [⟨tg', it', ifs', isa⟩] scope _ => decide (isa = 0) && blkC S.N S.sc scope (ownOf S own) && decide own.Nodup && ((slotsT tg).all fun i => decide (i ∈ own)) && noSet it' && ckI S tg' it it' && ckT (S.inner scope) tg tg' && ckCo (S.inner scope) c ifs' && ckE (S.inner scope) kx k' && ckE (S.inner scope) a a'
    | _ => false
def ckEs (S : Sc) : Es → List Expr → Bool
  | .nil, es => match es with
    | [] => true
    | _ => false
  | .cons a r, es => match es with
    | e :: es => noStar e && ckE S a e && ckEs S r es
    | _ => false
def ckKv (S : Sc) : Kvs → List (Option Expr) → List Expr → Bool
  | .nil, ks, vs => match ks, vs with
    | [], [] => true
    | _, _ => false
  | .cons k a r, ks, vs => match ks, vs with
    | some k' :: ks, v :: vs => ckE S k k' && ckE S a v && ckKv S r ks vs
    | _, _ => false
def ckO (S : Sc) : Eo → Option Expr → Bool
  | .none, o => match o with
    | none => true
    | some _ => false
  | .some a, o => match o with
    | some e => ckE S a e
    | none => false
def ckC (S : Sc) : C → Expr → Bool
  | .e a, e => plainTest e && ckE S a e
  | .cmp o a b, e => match e with
    | .Compare a' [op] [b'] _ => decide (op = cpn o) && !behindInMarks op b' && ckE S a a' && ckE S b b'
    | _ => false
  | .chain o o' a b d, e => match e with
    | .Compare a' [op, op'] [b', d'] _ => decide (op = cpn o) && decide (op' = cpn o') && !lastMarks [op, op'] [b', d'] && ckE S a a' && ckE S b b' && ckE S d d'
    | _ => false
  | .not t, e => match e with
    | .UnaryOp .Not a' _ => ckC S t a'
    | _ => false
  | .and a b, e => match e with
    | .BoolOp .And [x, y] _ => ckC S a x && ckC S b y
    | .BoolOp .And (x :: y :: z :: r) p => ckC S a x && ckC S b (.BoolOp .And (y :: z :: r) p)
    | _ => false
  | .or a b, e => match e with
    | .BoolOp .Or [x, y] _ => ckC S a x && ckC S b y
    | .BoolOp .Or (x :: y :: z :: r) p => ckC S a x && ckC S b (.BoolOp .Or (y :: z :: r) p)
    | _ => false
def ckCo (S : Sc) : Co → List Expr → Bool
  | .none, es => match es with
    | [] => true
    | _ => false
  | .some t, es => match es with
    | [e] => ckC S t e
    | _ => false
def ckI (S : Sc) (tg : Expr) : I → Expr → Bool
  | .e a, e => ckE S a e
  | .rng es, e => match e with
    | .Call (.Name x _) [a] [] _ => S.gl x && decide (x = ("range" : Str)) && ckEs S es [a]
    | .Call (.Name x _) [a, b] [] _ => S.gl x && decide (x = ("range" : Str)) && ckEs S es [a, b]
    | _ => false
  | .zip a b, e => match tg, e with
    | .Tuple _ _ _, .Call (.Name x _) [a', b'] [] _ => S.gl x && decide (x = ("zip" : Str)) && noStar a' && noStar b' && ckE S a a' && ckE S b b'
    | _, _ => false
  | .enum a, e => match tg, e with
    | .Tuple _ _ _, .Call (.Name x _) [a'] [] _ => S.gl x && decide (x = ("enumerate" : Str)) && noStar a' && ckE S a a'
    | _, _ => false
  | .items _, _ => false
  | .values _, _ => false
  | .keys _, _ => false
end
end VI

end

section
/-! ViK2: what the checker's answers mean; expressions. -/
namespace VI
open PySem L2 PyProof.Rows

theorem star_ns {e : Expr} {es : List Expr} {env : Env} (h : noStar e = true) : starEach (e :: es) env = (false, eval e env) :: starEach es env := by
  cases e <;> first | rfl | (simp [noStar] at h)
theorem star_any {pos : Pos} {env : Env} : ∀ {es : List Expr}, es.all noStar = true → (backTo pos (starEach es env)).any (·.1) = false
  | [], _ => rfl
  | e :: es, h => by
    simp only [List.all_cons, Bool.and_eq_true] at h
    rw [star_ns h.1]
    show ((false, _) :: backTo pos (starEach es env)).any (·.1) = false
    rw [List.any_cons, star_any h.2]; rfl
theorem plainIx_ok {b : Expr} (h : plainIx b = true) : PlainIx b := by
  intro o i
  cases b
  case Slice lo hi st p => cases st <;> first | rfl | (simp [plainIx] at h)
  all_goals rfl
theorem plainTest_ok {e : Expr} {env : Env} (h : plainTest e = true) : ∀ whole, isTrue e env whole = (do let v ← whole; standAt e.pos; holding [v] (truthy v)) := by
  intro whole
  cases e
  case UnaryOp op a p => cases op <;> first | rfl | (simp [plainTest] at h)
  case BoolOp => simp [plainTest] at h
  case IfExp => simp [plainTest] at h
  case Compare => simp [plainTest] at h
  all_goals rfl
theorem noSet_ok {e : Expr} {env : Env} (h : noSet e = true) : ∀ x, foldedSetIterable e env x = pure x := by
  intro x
  cases e
  case Set => simp [noSet] at h
  all_goals rfl
structure Ct (c : Cv) (Γ : Wd) (fld : String → Option String) (k : Nat) (S : Sc) (X : Cx) (W : WX) : Prop where
  N : X.N = S.N
  nd : X.N.Nodup
  sc : X.env.scope = S.sc
  fn0 : S.blk = none → ∀ x, X.fn x = true
  fn1 : ∀ s, S.blk = some s → ∀ x, X.fn x = (s.names.lookup x == some .cell)
  calm : X.calm = true
  room : Room k X.A
  gd : X.A.guards = some []
  sm : ∃ om, X.K.lookup PySem.sysModules = some om
  K : Γ.K = X.K
  tk : Takes X W
  err : ErrF c.exc Γ fld X.prog X.w X.K X.mg X.base
  exc : S.exc = c.exc
  oc : ∀ d C, Γ.ocl d ≠ some C
  r2 : Room 2 X.A
  bl : ∀ x ∈ (["len", "tuple", "list", "sorted", "int", "bool", "str", "repr", "min", "max", "sum", "all", "any", "abs", "divmod", "dict", "isinstance", "range", "zip", "enumerate"] : List Str), X.mg x = none
  gb : ∀ y d, c.glob y = some d → ∃ u v, X.mg (Str.ofString y) = some u ∧ RelV v u ∧ (∀ F H, Rp Γ F H v d []) ∧ d.pure = true
  cl : ∀ f n, S.defs.lookup f = some n → ∃ fa fd ps, ps.length = n ∧ FnG X.prog X.w X.K X.mg X.base (L2.CX X.prog X.w) k fa fd ps (spOf Γ fld n (c.call f)) ∧ X.mg (Str.ofString f) = some (.ref fa) ∧ PySem.W.keepIn X.K (.ref fa) = true ∧ Binds X.K fd ps [] ∧
    ∀ np ks pm, (f, np, ks, pm) ∈ S.kws → ∀ (s : Shared) (us ws : List Value), X.K.In s.heap → us.length = np → us.length + ws.length = pm.length → BindsTo s fd ⟨us, ks.zip ws⟩ (ps.zip (pick pm (us ++ ws)))
section
variable {c : Cv} {Γ : Wd} {fld : String → Option String} {k : Nat} {S : Sc} {X : Cx} {W : WX}
theorem Ct.vis (C : Ct c Γ fld k S X W) {i : Nat} {x : Str} (h : S.vis i x = true) : X.N[i]? = some x ∧ Vis X.env.scope x ∧ (x == ("__debug__" : Str)) = false ∧ (x == ("__classdict__" : Str)) = false := by
  unfold Sc.vis plainName Sc.kind at h
  simp only [Bool.and_eq_true, decide_eq_true_eq, Bool.not_eq_true'] at h
  refine ⟨by rw [C.N]; exact h.1.1, ?_, h.1.2.1.1, h.1.2.1.2⟩
  unfold Vis
  rw [C.sc]
  have h2 := h.2
  split at h2
  · rename_i e; exact .inl e
  · rename_i e; exact .inr (.inl e)
  · rename_i e; exact .inr (.inr e)
  · cases h2
theorem Ct.gl (C : Ct c Γ fld k S X W) {x : Str} (h : S.gl x = true) : Gl X x ∧ (x == ("__debug__" : Str)) = false ∧ x ≠ "__name__" := by
  unfold Sc.gl plainName Sc.kind at h
  simp only [Bool.and_eq_true, Bool.not_eq_true'] at h
  refine ⟨?_, h.1.1.1, fun e => ?_⟩
  · show X.env.scope.names.lookup x = _
    rw [C.sc]
    have h2 := h.2
    split at h2
    · rename_i e; exact e
    · cases h2
  · have := h.1.2
    rw [e] at this
    simp at this
theorem Ct.st (C : Ct c Γ fld k S X W) {i : Nat} {x : Str} (h : S.st i x = true) : X.N[i]? = some x ∧ L2.Loc X.env.scope x ∧ (X.fn x = true ∨ X.env.scope.names.lookup x = some .local) := by
  unfold Sc.st Sc.kind at h
  simp only [Bool.and_eq_true, decide_eq_true_eq] at h
  refine ⟨by rw [C.N]; exact h.1, ?_⟩
  unfold L2.Loc
  rw [C.sc]
  have h2 := h.2
  split at h2
  · rename_i e; exact ⟨.inl e, .inr e⟩
  · rename_i e
    refine ⟨.inr e, .inl ?_⟩
    split at h2
    · rename_i hb; exact C.fn0 hb x
    · rename_i s hb; rw [C.fn1 s hb]; exact h2
  · cases h2
theorem takesN {X : Cx} : Takes X W0 := fun _ _ ⟨_, _, _, _, _, _, _, _, _, _, _, _, _, _, _, _, z⟩ => z.elim
theorem Ct.inner (C : Ct c Γ fld k S X W) (s : Shared) (H : Hp) (scope : Scope) (A : Addr) (cl : List (Str × Addr)) (fp : List Addr) : Ct c Γ fld k (S.inner scope) (X.blk s H scope (compEnvC scope cl A X.env) fp) W0 where
  N := C.N
  nd := C.nd
  sc := by
    show relabel scope X.env = relab scope S.sc
    unfold relabel relab Env.kindOf
    rw [C.sc]
  fn0 := fun h => by cases h
  fn1 := fun s h x => by cases h; rfl
  calm := C.calm
  room := C.room
  gd := C.gd
  sm := C.sm
  K := C.K
  tk := takesN
  err := C.err
  exc := C.exc
  oc := C.oc
  r2 := C.r2
  bl := C.bl
  gb := C.gb
  cl := C.cl
theorem pe_to {e : Expr} {f g : Fr → Rs Rv} (h : PE X e (tE Γ fld W f)) (k : ∀ fr, g fr = f fr) : PE X e (tE Γ fld W g) := by
  have : g = f := funext k
  rw [this]; exact h
theorem pt_to {e : Expr} {f g : Fr → Rs Bool} (h : PT X e (tT Γ fld W f)) (k : ∀ fr, g fr = f fr) : PT X e (tT Γ fld W g) := by
  have : g = f := funext k
  rw [this]; exact h
theorem pa_to {e : List Expr} {f g : Fr → Rs (List Rv)} (h : PA X e (tA Γ fld W f)) (k : ∀ fr, g fr = f fr) : PA X e (tA Γ fld W g) := by
  have : g = f := funext k
  rw [this]; exact h
theorem pe_never {e : Expr} : PE X e (tE Γ fld W (fun _ => .no)) := ⟨fun pins s σ H Q I h => by
  obtain ⟨B, F, T, af, S, h⟩ := h
  exact h.elim⟩
/-- the checker's answer on targets -/
theorem each_ns {e : Expr} {es : List Expr} {env : Env} (h : noStar e = true) : assignEach (e :: es) env = (false, assign e env) :: assignEach es env := by
  cases e <;> first | rfl | (simp [noStar] at h)
theorem each_map {e : Expr} {es : List Expr} {env : Env} (h : noStar e = true) : (assignEach (e :: es) env).map (·.2) = assign e env :: (assignEach es env).map (·.2) := by
  rw [each_ns h]; rfl
theorem ckTs_len : ∀ {ts : Ts} {es : List Expr} {env : Env}, ckTs S ts es = true → (assignEach es env).length = lenTs ts ∧ (assignEach es env).findIdx? (·.1) = none
  | .nil, es, env, h => by
    simp only [ckTs] at h
    split at h
    · exact ⟨rfl, rfl⟩
    · cases h
  | .cons t ts, es, env, h => by
    simp only [ckTs] at h
    split at h
    · simp only [Bool.and_eq_true] at h
      obtain ⟨a, b⟩ := ckTs_len (env := env) h.2
      rw [each_ns h.1.1]
      exact ⟨by simp [lenTs, a], by simp [List.findIdx?_cons, b]⟩
    · cases h
mutual
theorem sndT (C : Ct c Γ fld k S X W) {prot : List Nat} : ∀ (t : VI.T) {e : Expr}, ckT S t e = true → PG X e (tG Γ prot t)
  | .n i, e, h => by
    simp only [ckT] at h
    split at h
    · obtain ⟨a, b, d⟩ := C.st h
      exact pg_nD C.nd a b d
    · cases h
  | .t ts, e, h => by
    simp only [ckT] at h
    split at h
    · obtain ⟨a, b⟩ := ckTs_len (env := X.env) h
      exact pg_tD C.K C.calm (sndTs C ts h) a b
    · cases h
theorem sndTs (C : Ct c Γ fld k S X W) {prot : List Nat} : ∀ (t : Ts) {es : List Expr}, ckTs S t es = true → PGs X es (tGs Γ prot t)
  | .nil, es, h => by
    simp only [ckTs] at h
    split at h
    · exact pgs_nilD
    · cases h
  | .cons t ts, es, h => by
    simp only [ckTs] at h
    split at h
    · simp only [Bool.and_eq_true] at h
      exact pgs_consD (sndT C t h.1.2) (sndTs C ts h.2) (each_map h.1.1)
    · cases h
end
theorem ckEs_star : ∀ {es : Es} {es' : List Expr}, ckEs S es es' = true → es'.all noStar = true
  | .nil, es', h => by
    simp only [ckEs] at h
    split at h
    · rfl
    · cases h
  | .cons a r, es', h => by
    simp only [ckEs] at h
    split at h
    · simp only [Bool.and_eq_true] at h
      rw [List.all_cons, h.1.1, ckEs_star h.2]; rfl
    · cases h
/-- as many values as arguments -/
theorem evs_len {c : Cv} : ∀ {es : Es} {es' : List Expr}, ckEs S es es' = true → ∀ fr rs fr' q, evs c es fr = .ok rs fr' q → rs.length = es'.length
  | .nil, es', h, fr, rs, fr', q, e => by
    simp only [ckEs] at h
    split at h
    · simp only [evs] at e; cases e; rfl
    · cases h
  | .cons a r, es', h, fr, rs, fr', q, e => by
    simp only [ckEs] at h
    split at h
    · simp only [Bool.and_eq_true] at h
      simp only [evs] at e
      obtain ⟨r1, f1, q1, q2, e1, e2, _⟩ := bind_ok e
      cases e3 : evs c r f1 with
      | ok rs2 f2 q3 =>
        rw [e3] at e2
        simp only at e2
        split at e2
        · cases e2
        · cases e2
          simp [evs_len h.2 _ _ _ _ e3]
      | ex _ _ _ => rw [e3] at e2; cases e2
      | no => rw [e3] at e2; cases e2
    · cases h
end
end VI

end

section
/-! ViK2b: calls of methods. -/
namespace VI
open PySem L2 PyProof.Rows

theorem noSup_ok {o : Expr} {nm : Str} {env : Env} (h : noSup o = true) : attributeBase o nm env (eval o env) = eval o env := by
  cases o
  case Call f as ks p =>
    cases f
    case Name id q =>
      cases as with
      | nil => cases ks with
        | nil => simp [noSup] at h
        | cons => rfl
      | cons => rfl
    all_goals rfl
  all_goals rfl
theorem noStarB_eq (e : Expr) : noStarB e = noStar e := by cases e <;> rfl
theorem noStarB_all {es : List Expr} (h : es.all noStar = true) : es.all noStarB = true := by
  have : noStarB = noStar := funext noStarB_eq
  rw [this]; exact h
def Es.of : List E → Es
  | [] => .nil
  | a :: as => .cons a (Es.of as)
def mrG (fa : Fr → Rs Rv) (fs : Fr → Rs (List Rv)) (m : MR) (fr : Fr) : Rs Rv := (fa fr).bind fun r fr => (r.look fr).bind fun d0 fr => if (mrT m d0).isSome then ((fs fr).bindD r fun rs fr => (r.look fr).bind fun d fr => (views rs fr).bind fun ds fr => mrDo m (mrT m d0) d ds fr) else .no
theorem bind_cong {α β : Type} {x : Rs α} {f g : α → Fr → Rs β} (h : ∀ a fr, f a fr = g a fr) : x.bind f = x.bind g := by
  have : f = g := by funext a fr; exact h a fr
  rw [this]
theorem mwG_F {fa : Fr → Rs Rv} {fs : Fr → Rs (List Rv)} {m : MW} {T : String} (h : ∀ d, mwT m d = none ∨ mwT m d = some T) (fr : Fr) : mwG fa fs m fr = mwF fa fs m T fr := by
  unfold mwG mwF
  refine bind_cong fun r fr => bind_cong fun d0 fr => ?_
  rcases h d0 with e | e
  · rw [e, if_neg (by simp), if_neg (by simp)]
  · rw [e]; simp only [Option.isSome_some, if_true]
theorem mrG_F {fa : Fr → Rs Rv} {fs : Fr → Rs (List Rv)} {m : MR} {T : String} (h : ∀ d, mrT m d = none ∨ mrT m d = some T) (fr : Fr) : mrG fa fs m fr = mrF fa fs m T fr := by
  unfold mrG mrF
  refine bind_cong fun r fr => bind_cong fun d0 fr => ?_
  rcases h d0 with e | e
  · rw [e, if_neg (by simp), if_neg (by simp)]
  · rw [e]; simp only [Option.isSome_some, if_true]
theorem mwT_app (d : D) : mwT .append d = none ∨ mwT .append d = some "list" := by cases d <;> first | exact .inl rfl | exact .inr rfl
theorem mwT_pop (d : D) : mwT .pop d = none ∨ mwT .pop d = some "list" := by cases d <;> first | exact .inl rfl | exact .inr rfl
theorem mrT_join (d : D) : mrT .join d = none ∨ mrT .join d = some "str" := by cases d <;> first | exact .inl rfl | exact .inr rfl
theorem mrT_get (d : D) : mrT .get d = none ∨ mrT .get d = some "dict" := by cases d <;> first | exact .inl rfl | exact .inr rfl
section
variable {c : Cv} {Γ : Wd} {fld : String → Option String} {k : Nat} {S : Sc} {X : Cx} {W : WX} {fa : Fr → Rs Rv} {fs : Fr → Rs (List Rv)} {o : Expr} {nm : Str} {apos cpos : Pos} {es' : List Expr}
theorem mw_all {m : MW} {es : Es} (h1 : attributeBase o nm X.env (eval o X.env) = eval o X.env) (h2 : (apos.endLine == cpos.line) = true) (h3 : mwNm m es'.length = some nm) (hs : es'.all noStar = true) (ho : PE X o (tE Γ fld W fa)) (he : PA X es' (tA Γ fld W (evs c es))) (hn : ckEs S es es' = true) :
    PE X (.Call (.Attribute o nm apos) es' [] cpos) (tE Γ fld W (mwG fa (evs c es) m)) := by
  have hs := noStarB_all hs
  cases es' with
  | nil =>
    have e0 : es = .nil := by
      cases es with
      | nil => rfl
      | cons => simp [ckEs] at hn
    subst e0
    have ee : evs c .nil = fun fr => .ok [] fr true := by funext fr; rw [evs]
    rw [ee]
    cases m <;> simp only [mwNm, List.length_nil, reduceCtorEq, Option.some.injEq] at h3
    subst h3
    exact pe_to (pe_mw0D PySem.F.plainAttrs_list PySem.F.slot_list_pop PySem.F.type_list_pop mt_popD ho ⟨h1, h2, by simp, hs⟩) (mwG_F mwT_pop)
  | cons e1 es1 =>
    cases es1 with
    | nil =>
      cases m <;> simp only [mwNm, List.length_cons, List.length_nil, Nat.zero_add, reduceCtorEq, Option.some.injEq] at h3
      · subst h3
        exact pe_to (pe_mwD PySem.F.plainAttrs_list PySem.F.slot_list_append PySem.F.type_list_append mt_appendD ho he ⟨h1, h2, by simp, hs⟩) (mwG_F mwT_app)
      · subst h3
        exact pe_to (pe_mwD PySem.F.plainAttrs_list PySem.F.slot_list_pop PySem.F.type_list_pop mt_popD ho he ⟨h1, h2, by simp, hs⟩) (mwG_F mwT_pop)
    | cons e2 es2 => cases m <;> simp [mwNm] at h3
theorem cons_F {a : E} {r : Es} : evs c (.cons a r) = consF (ev c a) (evs c r) := by
  funext fr; rw [evs] <;> rfl
theorem nil_F : evs c .nil = fun fr => .ok [] fr true := by funext fr; rw [evs]
/-- one by one -/
inductive PEs (c : Cv) (Γ : Wd) (fld : String → Option String) (X : Cx) (W : WX) : List E → List Expr → Prop where
  | nil : PEs c Γ fld X W [] []
  | cons {a : E} {e : Expr} {as : List E} {es : List Expr} : PE X e (tE Γ fld W (ev c a)) → PEs c Γ fld X W as es → PEs c Γ fld X W (a :: as) (e :: es)
theorem mr_all {m : MR} {as : List E} (C : Ct c Γ fld k S X W) (h1 : attributeBase o nm X.env (eval o X.env) = eval o X.env) (h2 : (apos.endLine == cpos.line) = true) (h3 : mrNm m es'.length = some nm) (hs : es'.all noStar = true) (ho : PE X o (tE Γ fld W fa)) (he : PA X es' (tA Γ fld W (evs c (Es.of as)))) (hp : PEs c Γ fld X W as es') :
    PE X (.Call (.Attribute o nm apos) es' [] cpos) (tE Γ fld W (mrG fa (evs c (Es.of as)) m)) := by
  have hs' := noStarB_all hs
  have hu : X.A.units + 1 < cLine := hu_of (C.room.mono (Nat.zero_le _))
  cases hp with
  | nil => cases m <;> simp [mrNm] at h3
  | @cons a e1 as1 es1 p1 hp1 =>
    have s1 : noStar e1 = true := by simp only [List.all_cons, Bool.and_eq_true] at hs; exact hs.1
    cases hp1 with
    | nil =>
      cases m <;> simp only [mrNm, List.length_cons, List.length_nil, Nat.zero_add, reduceCtorEq, Option.some.injEq] at h3
      · subst h3
        have q := pe_get1D hu ho p1 (apos := apos) (cpos := cpos) ⟨h1, by rw [star_ns s1]; rfl, h2, by rw [star_ns s1]; rfl⟩
        refine pe_to q fun fr => ?_
        rw [mrG_F mrT_get]
        show mrF fa (evs c (.cons a .nil)) .get "dict" fr = _
        rw [cons_F, nil_F]
      · subst h3
        exact pe_to (pe_mrD PySem.F.plainAttrs_str PySem.F.slot_str_join PySem.F.type_str_join mt_joinD (fun z h r => by
          rename_i d v F H fp
          cases d <;> simp only [mrT, reduceCtorEq] at h
          cases r; rfl) ho he ⟨h1, h2, by simp, hs'⟩) (mrG_F mrT_join)
    | @cons b e2 as2 es2 p2 hp2 =>
      have s2 : noStar e2 = true := by simp only [List.all_cons, Bool.and_eq_true] at hs; exact hs.2.1
      cases hp2 with
      | nil =>
        cases m <;> simp only [mrNm, List.length_cons, List.length_nil, Nat.zero_add, Nat.reduceAdd, reduceCtorEq, Option.some.injEq] at h3
        subst h3
        have q := pe_get2D hu ho p1 p2 (apos := apos) (cpos := cpos) ⟨h1, by rw [star_ns s1, star_ns s2]; rfl, h2, by rw [star_ns s1, star_ns s2]; rfl⟩
        refine pe_to q fun fr => ?_
        rw [mrG_F mrT_get]
        show mrF fa (evs c (.cons a (.cons b .nil))) .get "dict" fr = _
        rw [cons_F, cons_F, nil_F]
      | cons _ _ => cases m <;> simp [mrNm] at h3
end
end VI

end

section
set_option maxHeartbeats 8000000
/-! ViK3: the checker is sound: expressions. -/
namespace VI
open PySem L2 PyProof.Rows

section
variable {c : Cv} {Γ : Wd} {fld : String → Option String} {k : Nat}
theorem Ct.room0 {S : Sc} {X : Cx} {W : WX} (C : Ct c Γ fld k S X W) : Room 0 X.A := C.room.mono (Nat.zero_le _)
theorem isAnyX_bi {ex : List Ecl} {t : String} {d : D} (h : isTs.contains t = true) : isAnyX ex [t] d = isAny [t] d := by
  cases d with
  | exn k f a =>
    unfold isAnyX
    simp only [List.any_cons, h, Bool.true_or, if_true]
    unfold isAny isT tyD
    rfl
  | _ => rfl
theorem clsL_len {Γ : Wd} {mg : Str → Option Value} {ts : List String} {Ds : List Addr} (h : ClsL Γ mg ts Ds) : ts.length = Ds.length := by
  induction h with
  | nil => rfl
  | cons _ _ _ ih => simp [ih]
theorem ckNs_ok {S : Sc} {X : Cx} {W : WX} (C : Ct c Γ fld k S X W) : ∀ {ts : List String} {ns : List Expr}, ckNs S ts ns = true → ∃ Ds, ClsL Γ X.mg ts Ds ∧ ClsN X ns (Ds.map V.ref) (Ds.map Value.ref) ∧ ∀ t ∈ ts, isTs.contains t = false
  | [], [], _ => ⟨[], .nil, .nil, fun t m => by cases m⟩
  | [], _ :: _, h => by simp [ckNs] at h
  | t :: ts, [], h => by simp [ckNs] at h
  | t :: ts, e :: es, h => by
    cases e <;> simp only [ckNs, Bool.false_eq_true] at h
    rename_i y p
    simp only [Bool.and_eq_true, decide_eq_true_eq, Bool.not_eq_true'] at h
    obtain ⟨⟨⟨⟨h1, h2⟩, h3⟩, h4⟩, h5⟩ := h
    subst h2
    obtain ⟨Ds, i1, i2, i3⟩ := ckNs_ok C h5
    rw [C.exc] at h4
    obtain ⟨el, hel⟩ := Option.isSome_iff_exists.mp h4
    obtain ⟨D, d1, d2⟩ := C.err.cls t el hel
    obtain ⟨b1, b2, b3⟩ := C.gl h1
    exact ⟨D :: Ds, .cons d1 d2 i1, .cons (pe_glob b1 d2 rfl b2) (.own D) (star_ns rfl) i2, fun s m => by
      rcases List.mem_cons.mp m with rfl | m
      · exact h3
      · exact i3 s m⟩
theorem sv_str (x : String) : Str.ofString x = sv x.toList := ofString_sv x
theorem ownOf_snd {S : Sc} : ∀ own : List Nat, (ownOf S own).map (·.2) = own
  | [] => rfl
  | i :: is => by
    show i :: (ownOf S is).map (·.2) = _
    rw [ownOf_snd is]
theorem biName_boot : ∀ f : BI, noItems f = true → bootBuiltins (biName f) = some (biF f) := by
  intro f h
  cases f <;> first | rfl | (simp [noItems] at h)
theorem biName_bl : ∀ f : BI, noItems f = true → biName f ∈ (["len", "tuple", "list", "sorted", "int", "bool", "str", "repr", "min", "max", "sum", "all", "any", "abs", "divmod", "dict", "isinstance", "range", "zip", "enumerate"] : List Str) := by
  intro f h
  cases f <;> first | (simp [biName]; done) | (simp [noItems] at h)
theorem isTs_boot {t : String} (h : isTs.contains t = true) : bootBuiltins (Str.ofString t) = some (.type t) ∧ Str.ofString t ∈ (["len", "tuple", "list", "sorted", "int", "bool", "str", "repr", "min", "max", "sum", "all", "any", "abs", "divmod", "dict", "isinstance", "range", "zip", "enumerate"] : List Str) := by
  have h : t ∈ isTs := by simpa using h
  simp only [isTs, List.mem_cons, List.not_mem_nil, or_false] at h
  rcases h with rfl | rfl | rfl | rfl | rfl
  · exact ⟨rfl, by simp⟩
  · exact ⟨rfl, by simp⟩
  · exact ⟨rfl, by simp⟩
  · exact ⟨rfl, by simp⟩
  · exact ⟨rfl, by simp⟩
theorem pw_of {X : Cx} {op : BoolOp} {vs : List Expr} {pos : Pos} {t : TT} (h : PT X (.BoolOp op vs pos) t) : PW X (.BoolOp op vs pos) t := ⟨fun wh pins s σ H Q I q => h.run pins s σ H Q I q⟩
theorem pi_to {X : Cx} {W : WX} {tg e : Expr} {f g : Fr → Rs Wk} (h : PI X tg e (tI Γ fld W f)) (k : ∀ fr, g fr = f fr) : PI X tg e (tI Γ fld W g) := by
  have : g = f := funext k
  rw [this]; exact h
theorem PTs.imp {X : Cx} {e : List Expr} {t t' : TT} (h : PTs X e t) (i : ∀ σ H Q, t' σ H Q → t σ H Q) : PTs X e t' := ⟨fun pins s σ H Q I q => h.run pins s σ H Q I (i _ _ _ q)⟩
theorem kw_names {X : Cx} {pos : Pos} : ∀ {kws : List Keyword}, (kws.all fun k => k.arg.isSome) = true → (backToKw pos (keywordEach kws X.env)).all (·.1.isSome) = true ∧ (backToKw pos (keywordEach kws X.env)).filterMap (·.1) = kws.filterMap (·.arg) ∧ (backToKw pos (keywordEach kws X.env)).any (·.1.isNone) = false
  | [], _ => ⟨rfl, rfl, rfl⟩
  | ⟨a, v, p⟩ :: kws, h => by
    simp only [List.all_cons, Bool.and_eq_true] at h
    obtain ⟨h1, h2, h3⟩ := kw_names (X := X) (pos := pos) h.2
    have e : backToKw pos (keywordEach (⟨a, v, p⟩ :: kws) X.env) = (a, do let v ← eval v X.env; standAt pos; pure v) :: backToKw pos (keywordEach kws X.env) := rfl
    rw [e]
    cases a with
    | none => simp at h
    | some a => exact ⟨by rw [List.all_cons, h1]; rfl, by rw [List.filterMap_cons, List.filterMap_cons, h2], by simpa using h3⟩
end
mutual
theorem sndE {c : Cv} {Γ : Wd} {fld : String → Option String} {k : Nat} : ∀ (t : E) {S : Sc} {X : Cx} {W : WX} {e : Expr}, ckE S t e = true → Ct c Γ fld k S X W → PE X e (tE Γ fld W (ev c t))
  | .v i, S, X, W, e, h, C => by
    simp only [ckE] at h
    split at h
    · obtain ⟨a, b, d, f⟩ := C.vis h
      exact pe_to (pe_v a b d f) fun fr => by rw [ev] <;> rfl
    · cases h
  | .mv i, S, X, W, e, h, C => by
    simp only [ckE] at h
    split at h
    · obtain ⟨a, b, d, f⟩ := C.vis h
      exact pe_to (pe_mv a b d f) fun fr => by rw [ev] <;> rfl
    · cases h
  | .g y, S, X, W, e, h, C => by
    simp only [ckE] at h
    split at h
    · simp only [Bool.and_eq_true, decide_eq_true_eq] at h
      obtain ⟨a, b, d⟩ := C.gl h.1
      cases eg : c.glob y with
      | none => exact pe_to pe_never fun fr => by rw [ev, eg]
      | some dv =>
        obtain ⟨u, v, g1, g2, g3, g4⟩ := C.gb y dv eg
        rw [h.2]
        rw [h.2] at a b
        exact pe_to (pe_gD a g1 g2 b g3 g4) fun fr => by rw [ev, eg]
    · cases h
  | .non, S, X, W, e, h, C => by
    simp only [ckE] at h
    split at h
    · exact pe_to (pe_k pe_non (fun _ _ => .non) rfl) fun fr => by rw [ev] <;> rfl
    · cases h
  | .tt b, S, X, W, e, h, C => by
    simp only [ckE] at h
    split at h
    · have := eq_of_beq h
      subst this
      exact pe_to (pe_k pe_bl (fun _ _ => .bl _) rfl) fun fr => by rw [ev] <;> rfl
    · cases h
  | .i n, S, X, W, e, h, C => by
    simp only [ckE] at h
    split at h
    · simp only [decide_eq_true_eq] at h
      subst h
      exact pe_to (pe_k pe_int (fun _ _ => .int _) rfl) fun fr => by rw [ev] <;> rfl
    · cases h
  | .s x, S, X, W, e, h, C => by
    simp only [ckE] at h
    split at h
    · simp only [decide_eq_true_eq] at h
      subst h
      exact pe_to (pe_k pe_str (fun _ _ => .str _) rfl) fun fr => by rw [ev] <;> rfl
    · cases h
  | .bin o a b, S, X, W, e, h, C => by
    simp only [ckE] at h
    split at h
    · simp only [Bool.and_eq_true, decide_eq_true_eq] at h
      rw [h.1.1]
      exact pe_to (pe_bin C.K (sndE a h.1.2 C) (sndE b h.2 C)) fun fr => by rw [ev] <;> rfl
    · cases h
  | .neg a, S, X, W, e, h, C => by
    simp only [ckE] at h
    split at h
    · exact pe_to (pe_negD (sndE a h C)) fun fr => by rw [ev] <;> rfl
    · cases h
  | .cmp o a b, S, X, W, e, h, C => by
    simp only [ckE] at h
    split at h
    · simp only [Bool.and_eq_true, decide_eq_true_eq, Bool.not_eq_true'] at h
      have e1 := h.1.1.1
      subst e1
      exact pe_to (pe_cmpD C.K C.room0 (sndE a h.1.2 C) (sndE b h.2 C) h.1.1.2) fun fr => by rw [ev] <;> rfl
    · cases h
  | .chain o o' a b d, S, X, W, e, h, C => by
    simp only [ckE] at h
    split at h
    · simp only [Bool.and_eq_true, decide_eq_true_eq, Bool.not_eq_true'] at h
      have e1 := h.1.1.1.1.1
      have e2 := h.1.1.1.1.2
      subst e1; subst e2
      exact pe_to (pe_chainD C.K C.room0 (sndE a h.1.1.2 C) (sndE b h.1.2 C) (sndE d h.2 C) h.1.1.1.2) fun fr => by rw [ev] <;> rfl
    · cases h
  | .notv a, S, X, W, e, h, C => by
    simp only [ckE] at h
    split at h
    · exact pe_to (pe_notV (sndE a h C)) fun fr => by rw [ev] <;> rfl
    · cases h
  | .and a b, S, X, W, e, h, C => by
    simp only [ckE] at h
    split at h
    · rename_i x y _
      simp only [Bool.and_eq_true] at h
      have ha : PE X x (tE Γ fld W (ev c a)) := sndE a h.1 C
      have hb : PE X y (tE Γ fld W (ev c b)) := sndE b h.2 C
      exact pe_to (pe_andD ha (pe_one hb)) fun fr => by rw [ev]
    · rename_i x y z r p
      simp only [Bool.and_eq_true] at h
      have ha : PE X x (tE Γ fld W (ev c a)) := sndE a h.1 C
      have hb : PE X (.BoolOp .And (y :: z :: r) p) (tE Γ fld W (ev c b)) := sndE b h.2 C
      exact pe_to (pe_andD ha hb) fun fr => by rw [ev]
    · cases h
  | .or a b, S, X, W, e, h, C => by
    simp only [ckE] at h
    split at h
    · rename_i x y _
      simp only [Bool.and_eq_true] at h
      have ha : PE X x (tE Γ fld W (ev c a)) := sndE a h.1 C
      have hb : PE X y (tE Γ fld W (ev c b)) := sndE b h.2 C
      exact pe_to (pe_orD ha (pe_one hb)) fun fr => by rw [ev]
    · rename_i x y z r p
      simp only [Bool.and_eq_true] at h
      have ha : PE X x (tE Γ fld W (ev c a)) := sndE a h.1 C
      have hb : PE X (.BoolOp .Or (y :: z :: r) p) (tE Γ fld W (ev c b)) := sndE b h.2 C
      exact pe_to (pe_orD ha hb) fun fr => by rw [ev]
    · cases h
  | .ifx t a b, S, X, W, e, h, C => by
    simp only [ckE] at h
    split at h
    · simp only [Bool.and_eq_true] at h
      exact pe_to (pe_ifxD (sndC t h.1.1 C) (sndE a h.1.2 C) (sndE b h.2 C)) fun fr => by rw [ev] <;> rfl
    · cases h
  | .tup es, S, X, W, e, h, C => by
    simp only [ckE] at h
    split at h
    · exact pe_to (pe_tupD (sndEs es h C)) fun fr => by rw [ev] <;> rfl
    · cases h
  | .lst es, S, X, W, e, h, C => by
    simp only [ckE] at h
    split at h
    · exact pe_to (pe_lstD (sndEs es h C)) fun fr => by rw [ev] <;> rfl
    · cases h
  | .dic kvs, S, X, W, e, h, C => by
    simp only [ckE] at h
    split at h
    · simp only [Bool.and_eq_true, decide_eq_true_eq] at h
      obtain ⟨trs, a1, a2, a3, a4, a5⟩ := sndKv kvs h.2 C
      exact pe_to (pe_dicD a1 a2 a3 a4 (fun e0 => by rw [e0] at h; simp at h) h.1.2 (by rw [a5]; exact h.1.2)) fun fr => by rw [ev] <;> rfl
    · cases h
  | .dnew t, S, X, W, e, h, C => by
    simp only [ckE] at h
    split at h
    · exact pe_to (pe_dnewD t) fun fr => by rw [ev] <;> rfl
    · cases h
  | .sub a b, S, X, W, e, h, C => by
    simp only [ckE] at h
    split at h
    · simp only [Bool.and_eq_true] at h
      exact pe_to (pe_subD C.K C.room0 (sndE a h.1.2 C) (sndE b h.2 C) (plainIx_ok h.1.1)) fun fr => by rw [ev] <;> rfl
    · cases h
  | .slc a lo hi, S, X, W, e, h, C => by
    simp only [ckE] at h
    split at h
    · simp only [Bool.and_eq_true] at h
      exact pe_to (pe_slcD C.K (sndE a h.1.1 C) (sndO lo h.1.2 C) (sndO hi h.2 C)) fun fr => by rw [ev] <;> rfl
    · cases h
  | .rsl a, S, X, W, e, h, C => by
    simp only [ckE] at h
    split at h
    · exact pe_to (pe_rslD C.K (sndE a h C)) fun fr => by rw [ev] <;> rfl
    · cases h
  | .call f es, S, X, W, e, h, C => by
    simp only [ckE] at h
    split at h
    · rename_i x _ es' _
      simp only [Bool.and_eq_true, decide_eq_true_eq] at h
      obtain ⟨a, b, d⟩ := C.gl h.1.1.1
      obtain ⟨fa, fd, ps, l1, F, m1, k1, b1, _⟩ := C.cl f _ h.1.2
      rw [h.1.1.2] at a b ⊢
      cases es' with
      | nil =>
        have : es = .nil := by
          cases es with
          | nil => rfl
          | cons => simp [ckEs] at h
        subst this
        exact pe_to (pe_callD0 (c := c) (fn := f) F C.room C.gd a m1 k1 b1 C.tk b) fun fr => by rw [ev, evs]
      | cons e1 es1 =>
        have hs := ckEs_star h.2
        simp only [List.all_cons, Bool.and_eq_true] at hs
        exact pe_to (pe_callD (c := c) (fn := f) F C.room C.gd a m1 k1 b1 C.tk (evs_len h.2) (sndEs es h.2 C) b (star_ns hs.1) (star_any hs.2)) fun fr => by rw [ev] <;> rfl
    · cases h
  | .callk f pm es, S, X, W, e, h, C => by
    simp only [ckE] at h
    split at h
    · rename_i x _ as kws _
      simp only [Bool.and_eq_true, decide_eq_true_eq] at h
      obtain ⟨⟨⟨⟨⟨⟨h1, h2⟩, h3⟩, h4⟩, h5⟩, h6⟩, h7⟩ := h
      obtain ⟨a, b, d⟩ := C.gl h1
      obtain ⟨fa, fd, ps, l1, F, m1, k1, _, b1⟩ := C.cl f _ h3
      have hb := b1 _ _ _ h5
      rw [h2] at a b ⊢
      cases as with
      | nil =>
        obtain ⟨n1, n2, n3⟩ := kw_names (X := X) (pos := by assumption) h4
        refine pe_to (pe_callKD0 (c := c) (fn := f) (pm := pm) F C.room C.gd a m1 k1 hb C.tk (sndPk es kws h7 C) n1 n2 b (by rw [n3]; rfl)) fun fr => by rw [ev] <;> rfl
      | cons a1 as1 =>
        obtain ⟨n1, n2, n3⟩ := kw_names (X := X) (pos := by assumption) h4
        have h6' := h6
        simp only [List.all_cons, Bool.and_eq_true] at h6'
        refine pe_to (pe_callKD1 (c := c) (fn := f) (pm := pm) F C.room C.gd a m1 k1 hb C.tk (sndPak es (a1 :: as1) kws h7 h6 C) n1 n2 b (star_ns h6'.1) (by rw [n3, star_any h6]; rfl)) fun fr => by rw [ev] <;> rfl
    · cases h
  | .bi f es, S, X, W, e, h, C => by
    simp only [ckE] at h
    split at h
    · simp only [Bool.and_eq_true, decide_eq_true_eq] at h
      obtain ⟨a, b, d⟩ := C.gl h.1.1.1
      have hs := ckEs_star h.2
      simp only [List.all_cons, Bool.and_eq_true] at hs
      rw [h.1.1.2] at a b d ⊢
      cases f
      case sortedItems => exact absurd h.1.2 Bool.false_ne_true
      case listItems => exact absurd h.1.2 Bool.false_ne_true
      case len =>
        exact pe_to (pe_lenD C.K a (C.bl _ (by simp)) (sndEs es h.2 C) (star_ns hs.1) (star_any hs.2)) fun fr => by rw [ev] <;> rfl
      all_goals first
        | exact pe_to (pe_biD C.K C.sm C.room0 C.gd C.calm a (C.bl _ (biName_bl _ h.1.2)) (biName_boot _ h.1.2) d b (by simp) (sndEs es h.2 C) (star_ns hs.1) (star_any hs.2)) fun fr => by rw [ev] <;> first | rfl | (intro z; cases z)
        | (exact absurd h.1.2 Bool.false_ne_true)
        | (exact absurd h.1.1.2 Bool.false_ne_true)
    · cases h
  | .isi a ts, S, X, W, e, h, C => by
    simp only [ckE] at h
    split at h
    · rename_i t x _ a' y _ _
      simp only [Bool.and_eq_true, decide_eq_true_eq] at h
      obtain ⟨⟨⟨⟨⟨⟨h1, h2⟩, h3⟩, h4⟩, h5o⟩, h6⟩, h7⟩ := h
      obtain ⟨a1, a2, a3⟩ := C.gl h1
      obtain ⟨b1, b2, b3⟩ := C.gl h3
      rw [h2] at a1 ⊢
      cases h5 : isTs.contains t with
      | true =>
        obtain ⟨t1, t2⟩ := isTs_boot h5
        refine pe_to (pe_isiD (T := t) h4 C.K a1 (C.bl _ (by simp)) b1 (C.bl _ (h4 ▸ t2)) (h4 ▸ t1) b3 b2 (sndE a h7 C) (star_ns h6) (star_any (by rfl))) fun fr => ?_
        rw [ev]
        refine bind_cong fun r fr => bind_cong fun d fr => ?_
        first | (rw [isAnyX_bi h5]; done) | (rw [isAnyX_bi h5]; rfl)
      | false =>
        have h5' : (eclOf S.exc t).isSome = true := by
          rw [Bool.or_eq_true] at h5o
          rcases h5o with z | z
          · rw [h5] at z; cases z
          · exact z
        rw [C.exc] at h5'
        obtain ⟨el, hel⟩ := Option.isSome_iff_exists.mp h5'
        obtain ⟨D, d1, d2⟩ := C.err.cls t el hel
        refine pe_to (pe_isiXD (c := c) C.err h4 h5 d1 d2 a1 (C.bl _ (by simp)) b1 b2 (sndE a h7 C) (star_ns h6) (star_any (by rfl))) fun fr => ?_
        rw [ev]; rfl
    · rename_i t1 t2 ts x _ a' ns _ _ _
      simp only [Bool.and_eq_true, decide_eq_true_eq] at h
      obtain ⟨⟨⟨⟨⟨h1, h2⟩, h3⟩, h4⟩, h6⟩, h7⟩ := h
      obtain ⟨a1, a2, a3⟩ := C.gl h1
      rw [h2] at a1 ⊢
      obtain ⟨Ds, e1, e2, e3⟩ := ckNs_ok C h4
      refine pe_to (pe_isiXTD (c := c) C.err (by simp) e3 e1 e2 (by rw [← clsL_len e1]; simp only [List.length_cons]; omega) a1 (C.bl _ (by simp)) (sndE a h7 C) (star_ns h6) (star_any (by rfl))) fun fr => ?_
      rw [ev]; rfl
    · cases h
  | .lc own tg it t a, S, X, W, e, h, C => by
    simp only [ckE] at h
    split at h
    · rename_i a' tg' it' ifs' isa scope pos
      simp only [Bool.and_eq_true, decide_eq_true_eq] at h
      obtain ⟨⟨⟨⟨⟨⟨⟨⟨h1, h2⟩, h3⟩, h4⟩, h5⟩, h6⟩, h7⟩, h8⟩, h9⟩ := h
      subst h1
      have ok : BlkOk X.N X.env.scope scope (ownOf S own) := by rw [C.N, C.sc]; exact blkOk_by h2
      have hsl : ∀ i ∈ slotsT tg, i ∈ (ownOf S own).map (·.2) := fun i m => by
        rw [ownOf_snd]
        have := List.all_eq_true.mp h4 i m
        simpa using this
      simp only [Bool.or_eq_true] at h6
      rcases h6 with h6 | h6
      · refine pe_to (pe_lcD (own := ownOf S own) C.calm C.nd (sndI it h6 C) ok (fun s H A cl fp => sndT (C.inner s H scope A cl fp) tg h7) (fun s H A cl fp => sndCo t h8 (C.inner s H scope A cl fp)) (fun s H A cl fp => sndE a h9 (C.inner s H scope A cl fp)) (noSet_ok h5) (by rw [ownOf_snd]; exact h3) hsl) fun fr => by
          rw [ev, ownOf_snd] <;> rfl
      · cases it <;> simp only [ckK, Bool.false_eq_true] at h6
        rename_i i0
        cases it' <;> simp only [ckK, Bool.false_eq_true] at h6
        obtain ⟨a1, b1, d1, f1⟩ := C.vis h6
        refine pe_to (pe_lcKD (own := ownOf S own) C.calm C.nd a1 b1 d1 f1 ok (fun s H A cl fp => sndT (C.inner s H scope A cl fp) tg h7) (fun s H A cl fp => sndCo t h8 (C.inner s H scope A cl fp)) (fun s H A cl fp => sndE a h9 (C.inner s H scope A cl fp)) (noSet_ok h5) (by rw [ownOf_snd]; exact h3) hsl) fun fr => by
          unfold lcTail
          rw [ev, evI, ownOf_snd] <;> rfl
    · cases h
  | .never, S, X, W, e, h, C => pe_to pe_never fun fr => by rw [ev] <;> rfl
  | .fld a f, S, X, W, e, h, C => by
    simp only [ckE] at h
    split at h
    · simp only [Bool.and_eq_true, decide_eq_true_eq] at h
      exact pe_to (pe_fldXD (c := c) h.1.1 C.err (fun d C' z => (C.oc d C' z).elim) (sndE a h.2 C) (noSup_ok h.1.2)) fun fr => by rw [ev] <;> rfl
    · cases h
  | .inr a es, S, X, W, e, h, C => by
    simp only [ckE] at h
    split at h
    · simp only [Bool.and_eq_true, decide_eq_true_eq, Bool.or_eq_true, beq_iff_eq, Bool.not_eq_true'] at h
      obtain ⟨⟨⟨⟨⟨h1, h2⟩, h3⟩, h4⟩, h5⟩, h6⟩ := h
      subst h2
      obtain ⟨a1, a2, a3⟩ := C.gl h1
      have hs := ckEs_star h6
      simp only [List.all_cons, Bool.and_eq_true] at hs
      refine pe_to (pe_inrD C.K a1 (C.bl _ (by simp)) (sndE a h5 C) (sndEs es h6 C) (star_ns hs.1) (star_any hs.2) rfl (by rcases h3 with z | z <;> simp [z]) (evs_len h6) h4) fun fr => ?_
      rw [ev] <;> rfl
    · cases h
  | .lamc _ _ _, S, X, W, e, h, C => by simp [ckE] at h
  | .thk _, S, X, W, e, h, C => by simp [ckE] at h
  | .new _ _, S, X, W, e, h, C => by simp [ckE] at h
  | .meth _ _ _ _, S, X, W, e, h, C => by simp [ckE] at h
  | .mr m a es, S, X, W, e, h, C => by
    simp only [ckE] at h
    split at h
    · rename_i o nm apos es' cpos
      simp only [Bool.and_eq_true, decide_eq_true_eq] at h
      obtain ⟨⟨⟨⟨h1, h2⟩, h3⟩, h4⟩, h5⟩ := h
      obtain ⟨as, ea, hp⟩ := sndAll es h5 C
      have he := sndEs es h5 C
      have ho := sndE a h4 C
      rw [ea] at he ⊢
      exact pe_to (mr_all C (noSup_ok h1) h2 h3 (ckEs_star h5) ho he hp) fun fr => by rw [ev] <;> rfl
    · cases h
  | .mw m a es, S, X, W, e, h, C => by
    simp only [ckE] at h
    split at h
    · rename_i o nm apos es' cpos
      simp only [Bool.and_eq_true, decide_eq_true_eq] at h
      obtain ⟨⟨⟨⟨h1, h2⟩, h3⟩, h4⟩, h5⟩ := h
      exact pe_to (mw_all (noSup_ok h1) h2 h3 (ckEs_star h5) (sndE a h4 C) (sndEs es h5 C) h5) fun fr => by rw [ev] <;> rfl
    · cases h
  | .dc own tg it t kx a, S, X, W, e, h, C => by
    simp only [ckE] at h
    split at h
    · rename_i k' a' tg' it' ifs' isa scope pos
      simp only [Bool.and_eq_true, decide_eq_true_eq] at h
      obtain ⟨⟨⟨⟨⟨⟨⟨⟨⟨h1, h2⟩, h3⟩, h4⟩, h5⟩, h6⟩, h7⟩, h8⟩, h9⟩, h10⟩ := h
      subst h1
      have ok : BlkOk X.N X.env.scope scope (ownOf S own) := by rw [C.N, C.sc]; exact blkOk_by h2
      have hsl : ∀ i ∈ slotsT tg, i ∈ (ownOf S own).map (·.2) := fun i m => by
        rw [ownOf_snd]
        have := List.all_eq_true.mp h4 i m
        simpa using this
      refine pe_to (pe_dcD (own := ownOf S own) C.calm C.nd (sndI it h6 C) ok (fun s H A cl fp => sndT (C.inner s H scope A cl fp) tg h7) (fun s H A cl fp => sndCo t h8 (C.inner s H scope A cl fp)) (fun s H A cl fp => sndE kx h9 (C.inner s H scope A cl fp)) (fun s H A cl fp => sndE a h10 (C.inner s H scope A cl fp)) (noSet_ok h5) (by rw [ownOf_snd]; exact h3) hsl) fun fr => by
        rw [ev, ownOf_snd] <;> rfl
    · cases h
theorem sndEs {c : Cv} {Γ : Wd} {fld : String → Option String} {k : Nat} : ∀ (t : Es) {S : Sc} {X : Cx} {W : WX} {e : List Expr}, ckEs S t e = true → Ct c Γ fld k S X W → PA X e (tA Γ fld W (evs c t))
  | .nil, S, X, W, e, h, C => by
    simp only [ckEs] at h
    split at h
    · exact pa_to pa_nilD fun fr => by rw [evs]
    · cases h
  | .cons a r, S, X, W, e, h, C => by
    simp only [ckEs] at h
    split at h
    · simp only [Bool.and_eq_true] at h
      exact pa_to (pa_consD (sndE a h.1.2 C) (sndEs r h.2 C) (star_ns h.1.1)) fun fr => by rw [evs] <;> rfl
    · cases h
theorem sndAll {c : Cv} {Γ : Wd} {fld : String → Option String} {k : Nat} : ∀ (t : Es) {S : Sc} {X : Cx} {W : WX} {e : List Expr}, ckEs S t e = true → Ct c Γ fld k S X W → ∃ as : List E, t = Es.of as ∧ PEs c Γ fld X W as e
  | .nil, S, X, W, e, h, C => by
    simp only [ckEs] at h
    split at h
    · exact ⟨[], rfl, .nil⟩
    · cases h
  | .cons a r, S, X, W, e, h, C => by
    simp only [ckEs] at h
    split at h
    · simp only [Bool.and_eq_true] at h
      obtain ⟨as, ea, hp⟩ := sndAll r h.2 C
      exact ⟨a :: as, by rw [ea]; rfl, .cons (sndE a h.1.2 C) hp⟩
    · cases h
theorem sndPk {c : Cv} {Γ : Wd} {fld : String → Option String} {k : Nat} : ∀ (t : Es) {S : Sc} {X : Cx} {W : WX} (kws : List Keyword), ckEs S t (kws.map (·.value)) = true → Ct c Γ fld k S X W → PK X kws (tA Γ fld W (evs c t))
  | .nil, S, X, W, kws, h, C => by
    cases kws with
    | nil =>
      have : evs c .nil = fun fr => .ok [] fr true := by funext fr; rw [evs]
      rw [this]; exact pk_nilD
    | cons kw kws => simp [ckEs] at h
  | .cons a r, S, X, W, kws, h, C => by
    cases kws with
    | nil => simp [ckEs] at h
    | cons kw kws =>
      simp only [List.map_cons, ckEs, Bool.and_eq_true] at h
      obtain ⟨nm, v, p⟩ := kw
      have : evs c (.cons a r) = fun fr => (ev c a fr).bind fun r1 fr => match evs c r fr with
        | .ok rs fr q => if r1.deep && !q then .no else .ok (r1 :: rs) fr q
        | .ex e x fr => .ex e x fr
        | .no => .no := by funext fr; rw [evs] <;> rfl
      rw [this]
      exact pk_consD (sndE a h.1.2 C) (sndPk r kws h.2 C)
theorem sndPak {c : Cv} {Γ : Wd} {fld : String → Option String} {k : Nat} : ∀ (t : Es) {S : Sc} {X : Cx} {W : WX} (as : List Expr) (kws : List Keyword), ckEs S t (as ++ kws.map (·.value)) = true → as.all noStar = true → Ct c Γ fld k S X W → PAK X as kws (tA Γ fld W (evs c t))
  | .nil, S, X, W, as, kws, h, hs, C => by
    cases as with
    | nil => exact pak_kw (sndPk .nil kws h C)
    | cons a as => simp [ckEs] at h
  | .cons a r, S, X, W, as, kws, h, hs, C => by
    cases as with
    | nil => exact pak_kw (sndPk (.cons a r) kws h C)
    | cons a1 as =>
      simp only [List.cons_append, ckEs, Bool.and_eq_true] at h
      simp only [List.all_cons, Bool.and_eq_true] at hs
      have : evs c (.cons a r) = fun fr => (ev c a fr).bind fun r1 fr => match evs c r fr with
        | .ok rs fr q => if r1.deep && !q then .no else .ok (r1 :: rs) fr q
        | .ex e x fr => .ex e x fr
        | .no => .no := by funext fr; rw [evs] <;> rfl
      rw [this]
      exact pak_cons (sndE a h.1.2 C) (sndPak r as kws h.2 hs.2 C) (star_ns hs.1)
theorem sndKv {c : Cv} {Γ : Wd} {fld : String → Option String} {k : Nat} : ∀ (t : Kvs) {S : Sc} {X : Cx} {W : WX} {ks : List (Option Expr)} {vs : List Expr} {pos : Pos}, ckKv S t ks vs = true → Ct c Γ fld k S X W →
    ∃ trs, PPs X pos ks vs trs ∧ PsOk Γ fld W (evKv c t) trs ∧ ks.all (·.isSome) = true ∧ ks.length = vs.length ∧ trs.length = ks.length
  | .nil, S, X, W, ks, vs, pos, h, C => by
    simp only [ckKv] at h
    split at h
    · refine ⟨[], pps_nil, ?_, rfl, rfl, rfl⟩
      have : evKv c .nil = fun ks vs fr => .ok (ks, vs) fr true := by funext ks vs fr; rw [evKv]
      rw [this]; exact ps_nilD
    · cases h
  | .cons kk a r, S, X, W, ks, vs, pos, h, C => by
    simp only [ckKv] at h
    split at h
    · simp only [Bool.and_eq_true] at h
      obtain ⟨trs, a1, a2, a3, a4, a5⟩ := sndKv r (pos := pos) h.2 C
      refine ⟨_, pps_cons (sndE kk h.1.1 C) (sndE a h.1.2 C) a1, ?_, by simpa using a3, by simp [a4], by simp [a5]⟩
      have : evKv c (.cons kk a r) = evPs (ev c kk) (ev c a) (evKv c r) := by funext ks vs fr; rw [evKv] <;> rfl
      rw [this]; exact ps_consD a2
    · cases h
theorem sndO {c : Cv} {Γ : Wd} {fld : String → Option String} {k : Nat} : ∀ (t : Eo) {S : Sc} {X : Cx} {W : WX} {e : Option Expr}, ckO S t e = true → Ct c Γ fld k S X W → PO X e (tO Γ fld W (evO c t))
  | .none, S, X, W, e, h, C => by
    simp only [ckO] at h
    split at h
    · have : evO c .none = fun fr => .ok none fr true := by funext fr; rw [evO]
      rw [this]; exact po_noneD
    · cases h
  | .some a, S, X, W, e, h, C => by
    simp only [ckO] at h
    split at h
    · have : evO c (.some a) = fun fr => (ev c a fr).bind fun r fr => match r with
        | .tmp (.int i) => .ok (some i) fr true
        | _ => .no := by funext fr; rw [evO] <;> rfl
      rw [this]; exact po_someD (sndE a h C)
    · cases h
theorem sndC {c : Cv} {Γ : Wd} {fld : String → Option String} {k : Nat} : ∀ (t : C) {S : Sc} {X : Cx} {W : WX} {e : Expr}, ckC S t e = true → Ct c Γ fld k S X W → PT X e (tT Γ fld W (evC c t))
  | .e a, S, X, W, e, h, C => by
    simp only [ckC, Bool.and_eq_true] at h
    exact pt_to (pt_e C.K (sndE a h.2 C) (plainTest_ok h.1)) fun fr => by rw [evC] <;> rfl
  | .cmp o a b, S, X, W, e, h, C => by
    simp only [ckC] at h
    split at h
    · simp only [Bool.and_eq_true, decide_eq_true_eq, Bool.not_eq_true'] at h
      have e1 := h.1.1.1
      subst e1
      exact pt_to (pt_cmpD C.K C.room0 (sndE a h.1.2 C) (sndE b h.2 C) h.1.1.2) fun fr => by rw [evC] <;> rfl
    · cases h
  | .chain o o' a b d, S, X, W, e, h, C => by
    simp only [ckC] at h
    split at h
    · simp only [Bool.and_eq_true, decide_eq_true_eq, Bool.not_eq_true'] at h
      have e1 := h.1.1.1.1.1
      have e2 := h.1.1.1.1.2
      subst e1; subst e2
      exact pt_to (pt_chainD C.K C.room0 (sndE a h.1.1.2 C) (sndE b h.1.2 C) (sndE d h.2 C) h.1.1.1.2) fun fr => by rw [evC] <;> rfl
    · cases h
  | .not t, S, X, W, e, h, C => by
    simp only [ckC] at h
    split at h
    · exact pt_to (f := fun fr => (evC c t fr).bind fun b fr => .ok (!b) fr true) ((pt_not (sndC t h C)).imp (tT_not fun σ H Q z => z)) fun fr => by rw [evC] <;> rfl
    · cases h
  | .and a b, S, X, W, e, h, C => by
    simp only [ckC] at h
    split at h
    · rename_i x y _
      simp only [Bool.and_eq_true] at h
      have ha : PT X x (tT Γ fld W (evC c a)) := sndC a h.1 C
      have hb : PT X y (tT Γ fld W (evC c b)) := sndC b h.2 C
      exact pt_to (f := fun fr => (evC c a fr).bind fun k fr => if k then evC c b fr else .ok false fr true) ((pw_and ha (pw_and1 hb)).pt.imp (tT_and (fun σ H Q z => z) fun σ H Q z => z)) fun fr => by rw [evC] <;> rfl
    · rename_i x y z r p
      simp only [Bool.and_eq_true] at h
      have ha : PT X x (tT Γ fld W (evC c a)) := sndC a h.1 C
      have hb : PT X (.BoolOp .And (y :: z :: r) p) (tT Γ fld W (evC c b)) := sndC b h.2 C
      exact pt_to (f := fun fr => (evC c a fr).bind fun k fr => if k then evC c b fr else .ok false fr true) ((pw_and ha (pw_of hb)).pt.imp (tT_and (fun σ H Q z => z) fun σ H Q z => z)) fun fr => by rw [evC] <;> rfl
    · cases h
  | .or a b, S, X, W, e, h, C => by
    simp only [ckC] at h
    split at h
    · rename_i x y _
      simp only [Bool.and_eq_true] at h
      have ha : PT X x (tT Γ fld W (evC c a)) := sndC a h.1 C
      have hb : PT X y (tT Γ fld W (evC c b)) := sndC b h.2 C
      exact pt_to (f := fun fr => (evC c a fr).bind fun k fr => if k then .ok true fr true else evC c b fr) ((pw_or ha (pw_or1 hb)).pt.imp (tT_or (fun σ H Q z => z) fun σ H Q z => z)) fun fr => by rw [evC] <;> rfl
    · rename_i x y z r p
      simp only [Bool.and_eq_true] at h
      have ha : PT X x (tT Γ fld W (evC c a)) := sndC a h.1 C
      have hb : PT X (.BoolOp .Or (y :: z :: r) p) (tT Γ fld W (evC c b)) := sndC b h.2 C
      exact pt_to (f := fun fr => (evC c a fr).bind fun k fr => if k then .ok true fr true else evC c b fr) ((pw_or ha (pw_of hb)).pt.imp (tT_or (fun σ H Q z => z) fun σ H Q z => z)) fun fr => by rw [evC] <;> rfl
    · cases h
theorem sndCo {c : Cv} {Γ : Wd} {fld : String → Option String} {k : Nat} : ∀ (t : Co) {S : Sc} {X : Cx} {W : WX} {e : List Expr}, ckCo S t e = true → Ct c Γ fld k S X W → PTs X e (tT Γ fld W (evCo c t))
  | .none, S, X, W, e, h, C => by
    simp only [ckCo] at h
    split at h
    · refine PTs.imp pts_nil fun σ H Q z => ?_
      obtain ⟨B, F, T, af, S', z⟩ := z
      rw [evCo] at z
      exact z H F (.refl _) (fun _ => ⟨rfl, .refl _⟩) S'
    · cases h
  | .some t, S, X, W, e, h, C => by
    simp only [ckCo] at h
    split at h
    · have : evCo c (.some t) = evC c t := by funext fr; rw [evCo]
      rw [this]; exact pts_one (sndC t h C)
    · cases h
theorem sndI {c : Cv} {Γ : Wd} {fld : String → Option String} {k : Nat} : ∀ (t : I) {S : Sc} {X : Cx} {W : WX} {tg e : Expr}, ckI S tg t e = true → Ct c Γ fld k S X W → PI X tg e (tI Γ fld W (evI c t))
  | .e a, S, X, W, tg, e, h, C => by
    simp only [ckI] at h
    exact pi_to (pi_eD C.K (sndE a h C)) fun fr => by rw [evI] <;> rfl
  | .rng es, S, X, W, tg, e, h, C => by
    simp only [ckI] at h
    split at h
    · simp only [Bool.and_eq_true, decide_eq_true_eq] at h
      obtain ⟨a, b, d⟩ := C.gl h.1.1
      have hs := ckEs_star h.2
      simp only [List.all_cons, Bool.and_eq_true] at hs
      rw [h.1.2] at a ⊢
      exact pi_to (pi_rng1D (evs_len h.2) a (C.bl _ (by simp)) (sndEs es h.2 C) (star_ns hs.1)) fun fr => by rw [evI] <;> rfl
    · simp only [Bool.and_eq_true, decide_eq_true_eq] at h
      obtain ⟨a, b, d⟩ := C.gl h.1.1
      have hs := ckEs_star h.2
      simp only [List.all_cons, Bool.and_eq_true] at hs
      rw [h.1.2] at a ⊢
      have s2 := star_ns (es := []) (env := X.env) hs.2.1
      exact pi_to (pi_rng2D (evs_len h.2) a (C.bl _ (by simp)) (sndEs es h.2 C) (by rw [star_ns hs.1, s2]; rfl) s2) fun fr => by rw [evI] <;> rfl
    · cases h
  | .zip a b, S, X, W, tg, e, h, C => by
    simp only [ckI] at h
    split at h
    · simp only [Bool.and_eq_true, decide_eq_true_eq] at h
      obtain ⟨⟨⟨⟨⟨h1, h2⟩, h3⟩, h4⟩, h5⟩, h6⟩ := h
      obtain ⟨g, _, _⟩ := C.gl h1
      rw [h2] at g ⊢
      exact pi_to (pi_zipD C.K g (C.bl _ (by simp)) (sndE a h5 C) (sndE b h6 C) (star_ns h3) (star_ns h4) (star_any (by simp [h4]))) fun fr => by rw [evI] <;> rfl
    · cases h
  | .enum a, S, X, W, tg, e, h, C => by
    simp only [ckI] at h
    split at h
    · simp only [Bool.and_eq_true, decide_eq_true_eq] at h
      obtain ⟨⟨⟨h1, h2⟩, h3⟩, h4⟩ := h
      obtain ⟨g, _, _⟩ := C.gl h1
      rw [h2] at g ⊢
      exact pi_to (pi_enumD C.K g (C.bl _ (by simp)) (sndE a h4 C) (star_ns h3)) fun fr => by rw [evI] <;> rfl
    · cases h
  | .items _, S, X, W, tg, e, h, C => by simp [ckI] at h
  | .values _, S, X, W, tg, e, h, C => by simp [ckI] at h
  | .keys _, S, X, W, tg, e, h, C => by simp [ckI] at h
end
end VI

end

section
/-! ViK4: the checker on statements. -/
namespace VI
open PySem L2 PyProof.Rows

/-- no comprehension -/
def noComp : Expr → Bool
  | .ListComp _ _ _ _ => false
  | .SetComp _ _ _ _ => false
  | .DictComp _ _ _ _ _ => false
  | _ => true
theorem swaps_no {v : Expr} {t : Option Expr} {l : Nat} {env : Env} (h : noComp v = true) : swapsWith v t l env = pure false := by
  cases v
  case ListComp => simp [noComp] at h
  case SetComp => simp [noComp] at h
  case DictComp => simp [noComp] at h
  all_goals rfl
def noTL : Expr → Bool
  | .Tuple _ _ _ => false
  | .List _ _ => false
  | _ => true
theorem stores_no {t v : Expr} {env : Env} (h : noTL t = true) : swappedStores [t] v env = pure none := by
  cases t
  case Tuple => simp [noTL] at h
  case List => simp [noTL] at h
  all_goals (cases v <;> rfl)
def noTup : Expr → Bool
  | .Tuple _ _ _ => false
  | _ => true
theorem stores_no2 {t v : Expr} {env : Env} (h : noTup v = true) : swappedStores [t] v env = pure none := by
  cases v
  case Tuple => simp [noTup] at h
  all_goals (cases t <;> rfl)
/-- a target that is no plain local -/
def notLoc (sc : Scope) : Expr → Bool
  | .Name x _ => !(sc.names.lookup x == some .local)
  | _ => true
theorem filterMap_lt {α β : Type} {f : α → Option β} : ∀ {l : List α}, (∃ a ∈ l, f a = none) → (l.filterMap f).length < l.length
  | [], ⟨_, m, _⟩ => by cases m
  | a :: l, ⟨b, m, e⟩ => by
    have le := List.length_filterMap_le f l
    cases ea : f a with
    | none => rw [List.filterMap_cons_none ea]; simp only [List.length_cons]; omega
    | some v =>
      rw [List.filterMap_cons_some ea]
      have : (l.filterMap f).length < l.length := filterMap_lt ⟨b, by
        rcases List.mem_cons.mp m with rfl | m
        · rw [ea] at e; cases e
        · exact m, e⟩
      simp only [List.length_cons]; omega
theorem stores_cell {ts vs : List Expr} {k k2 : Nat} {p p2 : Pos} {env : Env} (h : ts.any (notLoc env.scope) = true) : swappedStores [.Tuple ts k p] (.Tuple vs k2 p2) env = pure none := by
  obtain ⟨t, ht, hn⟩ := List.any_eq_true.mp h
  unfold swappedStores
  simp only
  split
  · rfl
  · split
    · rfl
    · refine if_pos ?_
      rw [Bool.or_eq_true]
      refine .inl ?_
      rw [bne_iff_ne]
      refine Nat.ne_of_lt (filterMap_lt ⟨t, ht, ?_⟩)
      cases t <;> try rfl
      rename_i x q
      simp only [notLoc, Bool.not_eq_true'] at hn
      have hk : (env.kindOf x == some .local) = false := hn
      simp only [hk, Bool.false_and, Bool.false_eq_true, if_false]
theorem stores_fold {ts vs : List Expr} {k k2 : Nat} {p p2 : Pos} {env : Env} (h : vs.all (foldedForSure 8) = true) : swappedStores [.Tuple ts k p] (.Tuple vs k2 p2) env = pure none := by
  unfold swappedStores
  simp only [h, if_true]
  (repeat' split) <;> first | rfl | contradiction
theorem swaps_nl {v : Expr} {x : Str} {p : Pos} {l : Nat} {env : Env} (h : (env.scope.names.lookup x == some .local) = false) : swapsWith v (some (.Name x p)) l env = pure false := by
  have hk : (env.kindOf x == some .local) = false := h
  cases v <;> first | rfl | (unfold swapsWith; simp only [hk, Bool.and_false, Bool.false_and])
theorem stores_len {ts vs : List Expr} {k k2 : Nat} {p p2 : Pos} {env : Env} (h : (!(ts.length == 2 || ts.length == 3) || vs.length != ts.length) = true) : swappedStores [.Tuple ts k p] (.Tuple vs k2 p2) env = pure none := by
  unfold swappedStores
  simp only [h, Bool.true_or, if_true]
end VI

end

section
/-! ViK5: the checker on statements. -/
namespace VI
open PySem L2 PyProof.Rows

/-- name = a comprehension, exchanged at once -/
def swapB (Q : Sc) (v : Expr) (x : Str) (p : Pos) : Bool := match v with
  | .ListComp _ _ s vp => decide (Q.kind x = some .local) && decide (p.line = vp.line) && !(s.names.any fun (n, k) => n == x && (k == .local || k == .cell))
  | .DictComp _ _ _ s vp => decide (Q.kind x = some .local) && decide (p.line = vp.line) && !(s.names.any fun (n, k) => n == x && (k == .local || k == .cell))
  | _ => false
def notKeys : E → Bool
  | .lc _ _ (.keys _) _ _ => false
  | _ => true
/-- plain local names on one line -/
def parName (Q : Sc) (l : Nat) (i : Nat) : Expr → Bool
  | .Name x p => decide (Q.N[i]? = some x) && decide (Q.kind x = some .local) && decide (p.line = l)
  | _ => false
/-- the classes of a clause -/
def ckTe (Q : Sc) (cs : List String) : Expr → Bool
  | .Name y p => cs.length == 1 && ckNs Q cs [.Name y p]
  | .Tuple ns _ _ => (cs.length == 2 || cs.length == 3) && ckNs Q cs ns
  | _ => false
/-- the suite of a clause: one store, of the error or of None -/
def ckSu (Q : Sc) (i : Nat) (n : Str) : Ss → Stmt → List Stmt → Bool
  | .cons (.asg (.n j) (.v i')) .nil, .Assign [.Name y _] (.Name n' _) _, [] => Q.st j y && decide (i' = i) && decide (n' = n)
  | .cons (.asg (.n j) .non) .nil, .Assign [.Name y _] (.Constant .none _ _) _, [] => Q.st j y
  | _, _, _ => false
mutual
def ckS (Q : Sc) : S → Stmt → Bool
  | .tryas body cs i suite, st => match st with
    | .Try body' [.ExceptHandler (some te) (some n) (b₀ :: suite') _] [] [] _ => decide (Q.N[i]? = some n) && (Q.sc.names.lookup n == some .local) && plainName n && ckTe Q cs te && ckSu Q i n suite b₀ suite' && ckSs Q body body'
    | _ => false
  | .asg tg e, st => match st with
    | .Assign [.Name x p] v _ => (match tg with
      | .n i => Q.st i x && ckE Q e v && (noComp v || (swapB Q v x p && notKeys e) || !(Q.sc.names.lookup x == some .local))
      | _ => false)
    | .Assign [.Tuple ts k p] v _ => noComp v && ckT Q tg (.Tuple ts k p) && ckE Q e v && (match v with
      | .Tuple vs _ _ => !(ts.length == 2 || ts.length == 3) || vs.length != ts.length || ts.any (notLoc Q.sc) || vs.all (foldedForSure 8)
      | _ => true)
    | _ => false
  | .par is es, st => match st with
    | .Assign [.Tuple [t1, t2] _ _] (.Tuple vs _ _) _ => (match is with
      | [i, j] => parName Q t1.pos.line i t1 && parName Q t1.pos.line j t2 && decide (i ≠ j) && decide (vs.length = 2) && vs.all noStar && !vs.all (foldedForSure 8) && !vs.all (constantsAlone 8) && ckEs Q es vs
      | _ => false)
    | .Assign [.Tuple [t1, t2, t3] _ _] (.Tuple vs _ _) _ => (match is with
      | [i, j, l] => parName Q t1.pos.line i t1 && parName Q t1.pos.line j t2 && parName Q t1.pos.line l t3 && decide (i ≠ j) && decide (i ≠ l) && decide (j ≠ l) && decide (vs.length = 3) && vs.all noStar && !vs.all (foldedForSure 8) && !vs.all (constantsAlone 8) && ckEs Q es vs
      | _ => false)
    | _ => false
  | .aug i o e, st => match st with
    | .AugAssign (.Name x _) op v _ => decide (op = opn o) && Q.st i x && ckE Q e v
    | _ => false
  | .seti a i e, st => match st with
    | .Assign [.Subscript a' i' _] v _ => plainIx i' && noComp v && ckE Q a a' && ckE Q i i' && ckE Q e v
    | _ => false
  | .augi a i o e, st => match st with
    | .AugAssign (.Subscript a' i' _) op v _ => decide (op = opn o) && plainIx i' && ckE Q a a' && ckE Q i i' && ckE Q e v
    | _ => false
  | .ex e, st => match st with
    | .Expr v _ => noComp v && ckE Q e v
    | _ => false
  | .ret e, st => match st with
    | .Return (some v) _ => ckE Q e v
    | _ => false
  | .retn, st => match st with
    | .Return none _ => true
    | _ => false
  | .iff t a b, st => match st with
    | .If t' a' b' _ => ckC Q t t' && ckSs Q a a' && ckSs Q b b'
    | _ => false
  | .for_ _ tg it body, st => match st with
    | .For tg' it' body' [] _ => noSet it' && ckT Q tg tg' && ckI Q tg' it it' && ckSs Q body body'
    | _ => false
  | .wh t body, st => match st with
    | .While t' body' [] _ => ckC Q t t' && ckSs Q body body'
    | _ => false
  | .brk, st => match st with
    | .Break _ => true
    | _ => false
  | .cnt, st => match st with
    | .Continue _ => true
    | _ => false
  | .pass, st => match st with
    | .Pass _ => true
    | _ => false
  | .never, _ => true
  | .setf _ _ _, _ => false
  | .rais k e, st => match st with
    | .Raise (some (.Call (.Name x _) [a'] [] _)) none _ => Q.gl x && decide (x = Str.ofString k) && (fldE Q.exc k).isSome && noStar a' && ckE Q e a'
    | _ => false
def ckSs (Q : Sc) : Ss → List Stmt → Bool
  | .nil, sts => match sts with
    | [] => true
    | _ => false
  | .cons s ss, sts => match sts with
    | st :: sts => ckS Q s st && ckSs Q ss sts
    | _ => false
end
end VI

end

section
/-! ViK7: stores exchanged. -/
namespace VI
open PySem L2 PyProof.Rows
theorem any_star {vs : List Expr} (h : vs.all noStar = true) : (vs.any fun | .Starred .. => true | _ => false) = false := by
  induction vs with
  | nil => rfl
  | cons v vs ih =>
    simp only [List.all_cons, Bool.and_eq_true] at h
    rw [List.any_cons, ih h.2]
    cases v <;> first | rfl | (simp [noStar] at h)
theorem stores_two {x y : Str} {px py pt p2 : Pos} {kt k2 : Nat} {vs : List Expr} {env : Env} (hk : env.scope.kind = .function) (hx : env.kindOf x = some .local) (hy : env.kindOf y = some .local) (hl : py.line = px.line) (hne : x ≠ y) (hv : vs.length = 2) (hs : vs.all noStar = true)
    (hf : vs.all (foldedForSure 8) = false) (hc : vs.all (constantsAlone 8) = false) : swappedStores [.Tuple [.Name x px, .Name y py] kt pt] (.Tuple vs k2 p2) env = pure (some [x, y]) := by
  have hb : env.blockKind = .function := by unfold Env.blockKind; rw [hk]; rfl
  have hne' : (y == x) = false := beq_eq_false_iff_ne.mpr (Ne.symm hne)
  unfold swappedStores
  simp [hb, hx, hy, hl, hv, any_star hs, hf, hc, Expr.pos, List.eraseDups, List.eraseDupsBy, List.eraseDupsBy.loop, hne']
  intro z hz hm
  have := List.all_eq_true.mp hs z hz
  cases z <;> first | (simp at hm; done) | (simp [noStar] at this)
theorem stores_three {x y z : Str} {px py pz pt p2 : Pos} {kt k2 : Nat} {vs : List Expr} {env : Env} (hk : env.scope.kind = .function) (hx : env.kindOf x = some .local) (hy : env.kindOf y = some .local) (hz : env.kindOf z = some .local) (hl : py.line = px.line) (hl2 : pz.line = px.line) (hne : x ≠ y) (hne2 : x ≠ z) (hne3 : y ≠ z) (hv : vs.length = 3) (hs : vs.all noStar = true)
    (hf : vs.all (foldedForSure 8) = false) (hc : vs.all (constantsAlone 8) = false) : swappedStores [.Tuple [.Name x px, .Name y py, .Name z pz] kt pt] (.Tuple vs k2 p2) env = pure (some [x, y, z]) := by
  have hb : env.blockKind = .function := by unfold Env.blockKind; rw [hk]; rfl
  have h1 : (y == x) = false := beq_eq_false_iff_ne.mpr (Ne.symm hne)
  have h2 : (z == x) = false := beq_eq_false_iff_ne.mpr (Ne.symm hne2)
  have h3 : (z == y) = false := beq_eq_false_iff_ne.mpr (Ne.symm hne3)
  unfold swappedStores
  simp [hb, hx, hy, hz, hl, hl2, hv, any_star hs, hf, hc, Expr.pos, List.eraseDups, List.eraseDupsBy, List.eraseDupsBy.loop, h1, h2, h3]
  intro z hz hm
  have := List.all_eq_true.mp hs z hz
  cases z <;> first | (simp at hm; done) | (simp [noStar] at this)
end VI

end

section
set_option maxHeartbeats 8000000
/-! ViK6: the checker is sound: statements. -/
namespace VI
open PySem L2 PyProof.Rows

theorem ps_to {Γ : Wd} {fld : String → Option String} {W : WX} {X : Cx} {prot : List Nat} {st : Stmt} {f g : Fr → Fl} (h : PS X st (tSt Γ fld W prot f)) (k : ∀ fr, g fr = f fr) : PS X st (tSt Γ fld W prot g) := by
  have : g = f := funext k
  rw [this]; exact h
theorem aug_plain {i : Expr} (h : plainIx i = true) : ∀ ov iv new, augStore i ov iv new = (do holding [new, ov, iv] (PySem.setItem ov iv new); release [new, ov, iv] []; pure .next) := by
  intro ov iv new
  cases i
  case Slice lo hi st p => cases st <;> first | rfl | (simp [plainIx] at h)
  all_goals rfl
theorem assign_plain {a i : Expr} {p : Pos} {env : Env} (h : plainIx i = true) : ∀ v, assign (.Subscript a i p) env v = (do
      let ov ← holding [v] (eval a env)
      let iv ← holding [v, ov] (eval i env)
      standAt p
      holding [v, ov, iv] (PySem.setItem ov iv v)
      release [v, ov, iv] []) := by
  intro v
  cases i
  case Slice lo hi st q => cases st <;> first | rfl | (simp [plainIx] at h)
  all_goals rfl
structure Cs (c : Cv) (Γ : Wd) (fld : String → Option String) (k : Nat) (S : Sc) (X : Cx) (W : WX) : Prop extends Ct c Γ fld k S X W where
  own : PassesOwn (model X.prog X.w) X.A X.env X.xe
  stk : X.stack = X.env :: X.outer
  frm : X.env.frame = some X.env.locals
  kind : X.env.scope.kind = .function
theorem swaps_sole {t v : Expr} {l : Nat} {env : Env} (h : noComp v = true) : swapsWithSole [t] v l env = pure false := by
  show swapsWith v (some t) l env = pure false
  exact swaps_no h
theorem swaps_lc {a : Expr} {gens : List Comprehension} {sc : Scope} {vp p : Pos} {x : Str} {l : Nat} {env : Env} (hk : env.scope.kind = .function) (hx : env.scope.names.lookup x = some .local) (hl : p.line = vp.line)
    (hs : (sc.names.any fun (n, k) => n == x && (k == .local || k == .cell)) = false) : swapsWith (.ListComp a gens sc vp) (some (.Name x p)) l env = pure true := by
  have hb : env.blockKind = .function := by unfold Env.blockKind; rw [hk]; rfl
  have hy : env.kindOf x = some .local := hx
  have hl2 : (p.line == (Expr.ListComp a gens sc vp).pos.line) = true := by rw [hl]; exact beq_self_eq_true _
  unfold swapsWith
  simp only [hb, hy, hs, hl2]
  rfl
theorem swaps_dc {k a : Expr} {gens : List Comprehension} {sc : Scope} {vp p : Pos} {x : Str} {l : Nat} {env : Env} (hk : env.scope.kind = .function) (hx : env.scope.names.lookup x = some .local) (hl : p.line = vp.line)
    (hs : (sc.names.any fun (n, k) => n == x && (k == .local || k == .cell)) = false) : swapsWith (.DictComp k a gens sc vp) (some (.Name x p)) l env = pure true := by
  have hb : env.blockKind = .function := by unfold Env.blockKind; rw [hk]; rfl
  have hy : env.kindOf x = some .local := hx
  have hl2 : (p.line == (Expr.DictComp k a gens sc vp).pos.line) = true := by rw [hl]; exact beq_self_eq_true _
  unfold swapsWith
  simp only [hb, hy, hs, hl2]
  rfl
theorem parName_ok {Q : Sc} {l i : Nat} {t : Expr} (h : parName Q l i t = true) : ∃ x p, t = .Name x p ∧ Q.N[i]? = some x ∧ Q.sc.names.lookup x = some .local ∧ p.line = l := by
  cases t <;> simp only [parName, Bool.false_eq_true] at h
  rename_i x p
  simp only [Bool.and_eq_true, decide_eq_true_eq] at h
  exact ⟨x, p, rfl, h.1.1, h.1.2, h.2⟩
theorem Ct.prot {c : Cv} {Γ : Wd} {fld : String → Option String} {k : Nat} {S : Sc} {X : Cx} {W : WX} (C : Ct c Γ fld k S X W) (p : List Nat) : Ct { c with prot := p } Γ fld k S X W :=
  { C with err := C.err, exc := C.exc, gb := C.gb, cl := C.cl }
theorem ckTe_ok {c : Cv} {Γ : Wd} {fld : String → Option String} {k : Nat} {S : Sc} {X : Cx} {W : WX} (C : Ct c Γ fld k S X W) {cs : List String} {te : Expr} (h : ckTe S cs te = true) : ∃ Ds, ClsL Γ X.mg cs Ds ∧ ClsE X te (Ds.map Value.ref) := by
  have nm : ∀ {t : String} {e : Expr} {ts : List String} {es : List Expr}, ckNs S (t :: ts) (e :: es) = true → ∃ y p D, e = .Name y p ∧ Γ.cls t = some D ∧ X.mg (Str.ofString t) = some (.ref D) ∧ Names X y (.ref D) ∧ ckNs S ts es = true := fun {t e ts es} h => by
    cases e <;> simp only [ckNs, Bool.false_eq_true] at h
    rename_i y p
    simp only [Bool.and_eq_true, decide_eq_true_eq, Bool.not_eq_true'] at h
    obtain ⟨⟨⟨⟨h1, h2⟩, h3⟩, h4⟩, h5⟩ := h
    subst h2
    rw [C.exc] at h4
    obtain ⟨el, hel⟩ := Option.isSome_iff_exists.mp h4
    obtain ⟨D, d1, d2⟩ := C.err.cls t el hel
    obtain ⟨b1, b2, b3⟩ := C.gl h1
    exact ⟨_, p, D, rfl, d1, d2, ⟨b1, b2, .inl d2⟩, h5⟩
  cases te <;> simp only [ckTe, Bool.false_eq_true] at h
  case Name y p =>
    simp only [Bool.and_eq_true, beq_iff_eq] at h
    match cs, h with
    | [t], h =>
      obtain ⟨y', p', D, e, d1, d2, n1, _⟩ := nm h.2
      cases e
      exact ⟨[D], .cons d1 d2 .nil, clsE_name n1⟩
  case Tuple ns kk tp =>
    simp only [Bool.and_eq_true, Bool.or_eq_true, beq_iff_eq] at h
    obtain ⟨hl, h⟩ := h
    match cs, ns, hl, h with
    | [t1, t2], [], _, h => simp [ckNs] at h
    | [t1, t2], e1 :: es, _, h =>
      obtain ⟨y1, p1, D1, rfl, d1, d2, n1, h⟩ := nm h
      match es, h with
      | e2 :: es, h =>
        obtain ⟨y2, p2, D2, rfl, d3, d4, n2, h⟩ := nm h
        match es, h with
        | [], _ => exact ⟨[D1, D2], .cons d1 d2 (.cons d3 d4 .nil), clsE_tup2 n1 n2⟩
    | [t1, t2, t3], [], _, h => simp [ckNs] at h
    | [t1, t2, t3], e1 :: es, _, h =>
      obtain ⟨y1, p1, D1, rfl, d1, d2, n1, h⟩ := nm h
      match es, h with
      | e2 :: es, h =>
        obtain ⟨y2, p2, D2, rfl, d3, d4, n2, h⟩ := nm h
        match es, h with
        | e3 :: es, h =>
          obtain ⟨y3, p3, D3, rfl, d5, d6, n3, h⟩ := nm h
          match es, h with
          | [], _ => exact ⟨[D1, D2, D3], .cons d1 d2 (.cons d3 d4 (.cons d5 d6 .nil)), clsE_tup3 n1 n2 n3⟩
    | [], _, hl, _ => simp at hl
    | [_], _, hl, _ => simp at hl
    | _ :: _ :: _ :: _ :: _, _, hl, _ => simp at hl
theorem ckSu_ok {c : Cv} {Γ : Wd} {fld : String → Option String} {k : Nat} {Q : Sc} {X : Cx} {W : WX} (C : Ct c Γ fld k Q X W) (p : List Nat) {i : Nat} {n : Str} {su : Ss} {b₀ : Stmt} {rest : List Stmt} (hi : Q.N[i]? = some n) (hl : Q.sc.names.lookup n = some .local) (hp : plainName n = true) (h : ckSu Q i n su b₀ rest = true) (a : Addr) (pn : List (Addr × Obj)) :
    PSs (X.suite a pn) (b₀ :: rest) (tSt Γ fld (fun _ _ _ _ => False) p (exs { c with prot := p } su)) := by
  unfold plainName at hp
  simp only [Bool.and_eq_true, Bool.not_eq_true'] at hp
  have fin : ∀ {st : Stmt} {s : S}, PS (X.suite a pn) st (tSt Γ fld (fun _ _ _ _ => False) p (ex { c with prot := p } s)) → PSs (X.suite a pn) [st] (tSt Γ fld (fun _ _ _ _ => False) p (exs { c with prot := p } (.cons s .nil))) := fun {st s} h => by
    have := pss_consD h (pss_nilD (X := X.suite a pn) (Γ := Γ) (fld := fld) (W := fun _ _ _ _ => False) (prot := p))
    have e : exs { c with prot := p } (.cons s .nil) = fun fr => (ex { c with prot := p } s fr).then fun fr => .nx fr := by
      funext fr; rw [exs]
      congr 1
    rw [e]; exact this
  unfold ckSu at h
  split at h
  · rename_i j i' y p1 n' p2 p3
    simp only [Bool.and_eq_true, decide_eq_true_eq] at h
    obtain ⟨⟨h1, rfl⟩, rfl⟩ := h
    obtain ⟨a1, a2, a3⟩ := C.st h1
    have hv : PE (X.suite a pn) (.Name n' p2) (tE Γ fld (fun _ _ _ _ => False) (fun fr => (Rv.plc i' []).norm fr)) := pe_v (X := X.suite a pn) (by show X.N[i']? = _; rw [C.N]; exact hi) (.inl (by show X.env.scope.names.lookup n' = _; rw [C.sc]; exact hl)) hp.1.1 hp.1.2
    refine fin (ps_to (ps_setD (X := X.suite a pn) C.nd a1 a2 hv rfl a3) fun fr => ?_)
    rw [ex, ev] <;> rfl
  · rename_i j y p1 k2 p2 p3
    obtain ⟨a1, a2, a3⟩ := C.st h
    have hv : PE (X.suite a pn) (.Constant .none k2 p2) (tE Γ fld (fun _ _ _ _ => False) (fun fr => .ok (.tmp .non) fr true)) := pe_k pe_non (fun F H => .non) rfl
    refine fin (ps_to (ps_setD (X := X.suite a pn) C.nd a1 a2 hv rfl a3) fun fr => ?_)
    rw [ex, ev] <;> rfl
  · cases h
mutual
theorem sndS {c : Cv} {Γ : Wd} {fld : String → Option String} {k : Nat} : ∀ (t : S) {Q : Sc} {X : Cx} {W : WX} {st : Stmt} (p : List Nat), ckS Q t st = true → Cs c Γ fld k Q X W → PS X st (tSt Γ fld W p (ex { c with prot := p } t))
  | .ex e, Q, X, W, st, p, h, C => by
    simp only [ckS] at h
    split at h
    · simp only [Bool.and_eq_true] at h
      exact ps_to (ps_exD (sndE e h.2 (C.toCt.prot p)) (swaps_no h.1)) fun fr => by rw [ex] <;> rfl
    · cases h
  | .ret e, Q, X, W, st, p, h, C => by
    simp only [ckS] at h
    split at h
    · exact ps_to (ps_retD (sndE e h (C.toCt.prot p))) fun fr => by rw [ex] <;> rfl
    · cases h
  | .never, Q, X, W, st, p, h, C => ps_to ps_neverD fun fr => by rw [ex]
  | .rais kx e, Q, X, W, st, p, h, C => by
    simp only [ckS] at h
    split at h
    · simp only [Bool.and_eq_true, decide_eq_true_eq] at h
      obtain ⟨⟨⟨⟨h1, h2⟩, h3⟩, h4⟩, h5⟩ := h
      obtain ⟨a1, a2, a3⟩ := C.gl h1
      rw [C.exc] at h3
      exact ps_to (ps_raisD (n := 0) (c := c) h2 C.err C.calm C.r2 C.tk a1 a2 (star_ns h4) (sndE e h5 (C.toCt.prot p)) h3) fun fr => by rw [ex] <;> rfl
    · cases h
  | .tryas body cs i suite, Q, X, W, st, p, h, C => by
    simp only [ckS] at h
    split at h
    · rename_i body' te n b₀ suite' p1 p2
      simp only [Bool.and_eq_true, decide_eq_true_eq, beq_iff_eq] at h
      obtain ⟨⟨⟨⟨⟨h1, h2⟩, h3⟩, h4⟩, h5⟩, h6⟩ := h
      obtain ⟨Ds, d1, d2⟩ := ckTe_ok C.toCt h4
      refine ps_to (ps_tryD (c := c) C.err C.stk C.frm C.nd (by rw [C.N]; exact h1) (by show X.env.scope.names.lookup n = _; rw [C.sc]; exact h2) d1 d2 C.tk (fun W' pn xe tk' ho => sndSs (k := k) body p h6 ?_) (fun a pn => ckSu_ok C.toCt p h1 h2 h3 h5 a pn)) fun fr => by rw [ex] <;> rfl
      exact { C with tk := tk', own := ho, err := C.err, exc := C.exc, gb := C.gb, cl := C.cl }
    · cases h
  | .retn, Q, X, W, st, p, h, C => by
    simp only [ckS] at h
    split at h
    · exact ps_to ps_retnD fun fr => by rw [ex]
    · cases h
  | .brk, Q, X, W, st, p, h, C => by
    simp only [ckS] at h
    split at h
    · exact ps_to ps_brkD fun fr => by rw [ex]
    · cases h
  | .cnt, Q, X, W, st, p, h, C => by
    simp only [ckS] at h
    split at h
    · exact ps_to ps_cntD fun fr => by rw [ex]
    · cases h
  | .pass, Q, X, W, st, p, h, C => by
    simp only [ckS] at h
    split at h
    · exact ps_to ps_passD fun fr => by rw [ex]
    · cases h
  | .setf _ _ _, Q, X, W, st, p, h, C => by simp [ckS] at h
  | .iff t a b, Q, X, W, st, p, h, C => by
    simp only [ckS] at h
    split at h
    · simp only [Bool.and_eq_true] at h
      exact ps_to (ps_iffD (sndC t h.1.1 (C.toCt.prot p)) (sndSs a p h.1.2 C) (sndSs b p h.2 C)) fun fr => by rw [ex] <;> rfl
    · cases h
  | .wh t body, Q, X, W, st, p, h, C => by
    simp only [ckS] at h
    split at h
    · simp only [Bool.and_eq_true] at h
      exact ps_to (ps_whD (n := c.W) C.own (sndC t h.1 (C.toCt.prot p)) (sndSs body p h.2 C)) fun fr => by rw [ex] <;> rfl
    · cases h
  | .asg tg e, Q, X, W, st, p, h, C => by
    simp only [ckS] at h
    split at h
    · rename_i x q v pos
      split at h
      · rename_i i
        simp only [Bool.and_eq_true, Bool.or_eq_true] at h
        obtain ⟨⟨h1, h2⟩, h3⟩ := h
        obtain ⟨a, b, d⟩ := C.toCt.st h1
        by_cases hn : noComp v = true
        · exact ps_to (ps_setD C.nd a b (sndE e h2 (C.toCt.prot p)) (swaps_no hn) d) fun fr => by rw [ex] <;> rfl
        · rcases h3 with (h3 | h3) | h3
          · exact absurd h3 hn
          · obtain ⟨h3, hnk⟩ := h3
            cases v <;> simp only [swapB, Bool.false_eq_true] at h3
            case DictComp k0 a0 gens sc0 vp =>
              simp only [Bool.and_eq_true, decide_eq_true_eq, Bool.not_eq_true'] at h3
              obtain ⟨⟨g1, g2⟩, g3⟩ := h3
              have hyl : X.env.scope.names.lookup x = some .local := by rw [C.toCt.sc]; exact g1
              cases e <;> simp only [ckE, Bool.false_eq_true] at h2
              case dc own tg2 it t kx e2 =>
                split at h2
                · rename_i k' a' tg' it' ifs' isa scope q2 heq
                  cases heq
                  simp only [Bool.and_eq_true, decide_eq_true_eq] at h2
                  obtain ⟨⟨⟨⟨⟨⟨⟨⟨⟨k1, k2⟩, k3⟩, k4⟩, k5⟩, k6⟩, k7⟩, k8⟩, k9⟩, k10⟩ := h2
                  subst k1
                  have C' := C.toCt.prot p
                  have ok : BlkOk X.N X.env.scope sc0 (ownOf Q own) := by rw [C.toCt.N, C.toCt.sc]; exact blkOk_by k2
                  have hsl : ∀ i ∈ slotsT tg2, i ∈ (ownOf Q own).map (·.2) := fun i m => by
                    rw [ownOf_snd]
                    have := List.all_eq_true.mp k4 i m
                    simpa using this
                  refine ps_to (ps_setDcD (own := ownOf Q own) C.calm C.nd a hyl (swaps_dc C.kind hyl g2 g3) (sndI it k6 C') ok (fun s H A cl fp => sndT (C'.inner s H sc0 A cl fp) tg2 k7) (fun s H A cl fp => sndCo t k8 (C'.inner s H sc0 A cl fp)) (fun s H A cl fp => sndE kx k9 (C'.inner s H sc0 A cl fp)) (fun s H A cl fp => sndE e2 k10 (C'.inner s H sc0 A cl fp)) (noSet_ok k5) (by rw [ownOf_snd]; exact k3) hsl) fun fr => ?_
                  rw [ex, ev, ownOf_snd] <;> rfl
                · cases h2
              case never =>
                exact ps_to ps_neverD fun fr => by rw [ex, ev] <;> rfl
            rename_i a0 gens sc0 vp
            simp only [Bool.and_eq_true, decide_eq_true_eq, Bool.not_eq_true'] at h3
            obtain ⟨⟨g1, g2⟩, g3⟩ := h3
            have hyl : X.env.scope.names.lookup x = some .local := by rw [C.toCt.sc]; exact g1
            cases e <;> simp only [ckE, Bool.false_eq_true] at h2
            case lc own tg2 it t e2 =>
              split at h2
              · rename_i a' tg' it' ifs' isa scope q2 heq
                cases heq
                simp only [Bool.and_eq_true, decide_eq_true_eq] at h2
                obtain ⟨⟨⟨⟨⟨⟨⟨⟨k1, k2⟩, k3⟩, k4⟩, k5⟩, k6⟩, k7⟩, k8⟩, k9⟩ := h2
                subst k1
                have k6 : ckI Q tg' it it' = true := by
                  rcases (Bool.or_eq_true _ _).mp k6 with k6 | k6
                  · exact k6
                  · cases it <;> first | (simp [ckK] at k6; done) | (simp [notKeys] at hnk)
                have C' := C.toCt.prot p
                have ok : BlkOk X.N X.env.scope sc0 (ownOf Q own) := by rw [C.toCt.N, C.toCt.sc]; exact blkOk_by k2
                have hsl : ∀ i ∈ slotsT tg2, i ∈ (ownOf Q own).map (·.2) := fun i m => by
                  rw [ownOf_snd]
                  have := List.all_eq_true.mp k4 i m
                  simpa using this
                refine ps_to (ps_setLcD (own := ownOf Q own) C.calm C.nd a hyl (swaps_lc C.kind hyl g2 g3) (sndI it k6 C') ok (fun s H A cl fp => sndT (C'.inner s H sc0 A cl fp) tg2 k7) (fun s H A cl fp => sndCo t k8 (C'.inner s H sc0 A cl fp)) (fun s H A cl fp => sndE e2 k9 (C'.inner s H sc0 A cl fp)) (noSet_ok k5) (by rw [ownOf_snd]; exact k3) hsl) fun fr => ?_
                rw [ex, ev, ownOf_snd] <;> rfl
              · cases h2
            case never =>
              exact ps_to ps_neverD fun fr => by rw [ex, ev] <;> rfl
          · have h3 : (X.env.scope.names.lookup x == some .local) = false := by rw [C.toCt.sc]; simpa using h3
            exact ps_to (ps_setD C.nd a b (sndE e h2 (C.toCt.prot p)) (swaps_nl h3) d) fun fr => by rw [ex] <;> rfl
      · cases h
    · rename_i ts kk q v pos
      simp only [Bool.and_eq_true] at h
      obtain ⟨⟨⟨h1, h2⟩, h3⟩, h4⟩ := h
      exact ps_to (ps_asgD (sndE e h3 (C.toCt.prot p)) (sndT C.toCt tg h2) (swaps_sole h1) (by
        cases v
        case Tuple vs k2 p2 =>
          simp only [Bool.or_eq_true] at h4
          rcases h4 with (h4 | h4) | h4
          · exact stores_len (by simpa only [Bool.or_eq_true] using h4)
          · exact stores_cell (by rw [C.toCt.sc]; exact h4)
          · exact stores_fold h4
        all_goals exact stores_no2 rfl) rfl) fun fr => by rw [ex] <;> rfl
    · cases h
  | .par is es, Q, X, W, st, p, h, C => by
    simp only [ckS] at h
    split at h
    · split at h
      · rename_i t1 t2 kt pt vs k2 pt2 pos _ i j
        simp only [Bool.and_eq_true, decide_eq_true_eq, Bool.not_eq_true'] at h
        obtain ⟨⟨⟨⟨⟨⟨⟨h1, h2⟩, h3⟩, h4⟩, h5⟩, h6⟩, h7⟩, h8⟩ := h
        obtain ⟨x, px, rfl, a1, a2, a3⟩ := parName_ok h1
        obtain ⟨y, py, rfl, b1, b2, b3⟩ := parName_ok h2
        match vs, h4 with
        | [v1, v2], h4 =>
          have hx : X.env.scope.names.lookup x = some .local := by rw [C.toCt.sc]; exact a2
          have hy : X.env.scope.names.lookup y = some .local := by rw [C.toCt.sc]; exact b2
          have nx : X.N[i]? = some x := by rw [C.toCt.N]; exact a1
          have ny : X.N[j]? = some y := by rw [C.toCt.N]; exact b1
          have hne : x ≠ y := fun e => h3 (by
            subst e
            have i1 := (List.getElem?_eq_some_iff.mp nx).1
            exact (List.getElem_inj (h := C.nd) (h₀ := i1) (h₁ := (List.getElem?_eq_some_iff.mp ny).1)).mp (by rw [(List.getElem?_eq_some_iff.mp nx).2, (List.getElem?_eq_some_iff.mp ny).2]))
          exact ps_to (ps_par2D C.calm C.nd nx ny h3 hx hy (sndEs es h8 (C.toCt.prot p)) (stores_two C.kind hx hy b3 hne rfl h5 h6 h7) rfl) fun fr => by rw [ex] <;> rfl
      · cases h
    · split at h
      · rename_i t1 t2 t3 kt pt vs k2 pt2 pos _ i j l
        simp only [Bool.and_eq_true, decide_eq_true_eq, Bool.not_eq_true'] at h
        obtain ⟨⟨⟨⟨⟨⟨⟨⟨⟨⟨h1, h2⟩, h2'⟩, h3⟩, h3'⟩, h3''⟩, h4⟩, h5⟩, h6⟩, h7⟩, h8⟩ := h
        obtain ⟨x, px, rfl, a1, a2, a3⟩ := parName_ok h1
        obtain ⟨y, py, rfl, b1, b2, b3⟩ := parName_ok h2
        obtain ⟨z, pz, rfl, d1, d2, d3⟩ := parName_ok h2'
        match vs, h4 with
        | [v1, v2, v3], h4 =>
          have hx : X.env.scope.names.lookup x = some .local := by rw [C.toCt.sc]; exact a2
          have hy : X.env.scope.names.lookup y = some .local := by rw [C.toCt.sc]; exact b2
          have hz : X.env.scope.names.lookup z = some .local := by rw [C.toCt.sc]; exact d2
          have nx : X.N[i]? = some x := by rw [C.toCt.N]; exact a1
          have ny : X.N[j]? = some y := by rw [C.toCt.N]; exact b1
          have nz : X.N[l]? = some z := by rw [C.toCt.N]; exact d1
          have ne : ∀ {m n : Nat} {u v : Str}, X.N[m]? = some u → X.N[n]? = some v → m ≠ n → u ≠ v := fun {m n u v} e1 e2 hmn e => hmn (by
            subst e
            have i1 := (List.getElem?_eq_some_iff.mp e1).1
            exact (List.getElem_inj (h := C.nd) (h₀ := i1) (h₁ := (List.getElem?_eq_some_iff.mp e2).1)).mp (by rw [(List.getElem?_eq_some_iff.mp e1).2, (List.getElem?_eq_some_iff.mp e2).2]))
          exact ps_to (ps_par3D C.calm C.nd nx ny nz h3 h3' h3'' hx hy hz (sndEs es h8 (C.toCt.prot p)) (stores_three C.kind hx hy hz b3 d3 (ne nx ny h3) (ne nx nz h3') (ne ny nz h3'') rfl h5 h6 h7) rfl) fun fr => by rw [ex] <;> rfl
      · cases h
    · cases h
  | .aug i o e, Q, X, W, st, p, h, C => by
    simp only [ckS] at h
    split at h
    · simp only [Bool.and_eq_true, decide_eq_true_eq] at h
      obtain ⟨⟨h1, h2⟩, h3⟩ := h
      subst h1
      obtain ⟨a, b, d⟩ := C.toCt.st h2
      exact ps_to (ps_augD (n := i) C.nd a b (sndE e h3 (C.toCt.prot p)) d) fun fr => by rw [ex] <;> rfl
    · cases h
  | .seti a i e, Q, X, W, st, p, h, C => by
    simp only [ckS] at h
    split at h
    · simp only [Bool.and_eq_true] at h
      obtain ⟨⟨⟨⟨h1, h2⟩, h3⟩, h4⟩, h5⟩ := h
      exact ps_to (ps_setiD C.toCt.room0 (sndE e h5 (C.toCt.prot p)) (sndE a h3 (C.toCt.prot p)) (sndE i h4 (C.toCt.prot p)) (swaps_sole h2) (stores_no rfl) rfl (assign_plain h1)) fun fr => by rw [ex] <;> rfl
    · cases h
  | .augi a i o e, Q, X, W, st, p, h, C => by
    simp only [ckS] at h
    split at h
    · simp only [Bool.and_eq_true, decide_eq_true_eq] at h
      obtain ⟨⟨⟨⟨h1, h2⟩, h3⟩, h4⟩, h5⟩ := h
      subst h1
      exact ps_to (ps_augiD C.K C.toCt.room0 (sndE a h3 (C.toCt.prot p)) (sndE i h4 (C.toCt.prot p)) (sndE e h5 (C.toCt.prot p)) (aug_plain h2)) fun fr => by rw [ex] <;> rfl
    · cases h
  | .for_ z tg it body, Q, X, W, st, p, h, C => by
    simp only [ckS] at h
    split at h
    · simp only [Bool.and_eq_true] at h
      obtain ⟨⟨⟨h1, h2⟩, h3⟩, h4⟩ := h
      exact ps_to (ps_forD (fb := fun p fr => exs { c with prot := p } body fr) C.own C.calm (sndI it h3 (C.toCt.prot p)) (fun q => sndT C.toCt tg h2) (fun q => sndSs body q h4 C) (noSet_ok h1)) fun fr => by rw [ex] <;> rfl
    · cases h
theorem sndSs {c : Cv} {Γ : Wd} {fld : String → Option String} {k : Nat} : ∀ (t : Ss) {Q : Sc} {X : Cx} {W : WX} {st : List Stmt} (p : List Nat), ckSs Q t st = true → Cs c Γ fld k Q X W → PSs X st (tSt Γ fld W p (exs { c with prot := p } t))
  | .nil, Q, X, W, st, p, h, C => by
    simp only [ckSs] at h
    split at h
    · have : exs { c with prot := p } .nil = fun fr => .nx fr := by funext fr; rw [exs]
      rw [this]; exact pss_nilD
    · cases h
  | .cons s ss, Q, X, W, st, p, h, C => by
    simp only [ckSs] at h
    split at h
    · simp only [Bool.and_eq_true] at h
      have : exs { c with prot := p } (.cons s ss) = fun fr => (ex { c with prot := p } s fr).then (exs { c with prot := p } ss) := by funext fr; rw [exs]
      rw [this]; exact pss_consD (sndS s p h.1 C) (sndSs ss p h.2 C)
    · cases h
end
end VI

end

section
/-! ViL: the end: the law's call. -/
namespace VI
open PySem L2 PyProof.Rows

section
variable {P : Program} {w : World} {K : PySem.W.Frag} {mg mb : Str → Option Value}
/-- the script as the only known object -/
theorem script_heap {a : Addr} {s : Shared} {us : List Value} {is : List Int} (hK : K.In s.heap)
    (hobj : s.heap.get? a = some { cls := .type "list", data := .seq us.toArray }) (hint : IntsAre us is) (hlen : is.length ≤ sizeLine) :
    ∃ H : Hp, Only H ∧ SqL K H a (is.map V.int) ∧ HOk P w H s.heap ∧ (∀ b, H b ≠ none → b = a) ∧ (H a ≠ none → K.lookup a = none) := by
  have hv := vals_ints hint
  have hl := hint.length
  cases q : K.lookup a with
  | some ob =>
    have q2 := hK a ob q
    rw [hobj] at q2
    cases q2
    refine ⟨fun _ => none, fun _ => .inl rfl, .inr ⟨_, us.toArray, _, q, rfl, rfl, rfl, ?_, by simpa using hv⟩, fun b u z => (by cases (show (none : Option HO) = some u from z)), fun _ z => (z rfl).elim, fun z => (z rfl).elim⟩
    rw [List.size_toArray, hl]; exact hlen
  | none =>
    refine ⟨fun b => if b = a then some (.frz { cls := .type "list", data := .seq us.toArray } (.lst (is.map V.int))) else none, fun b => ?_, .inl (.inr ⟨_, if_pos rfl⟩), fun b u z => ?_, fun b z => ?_, fun _ => rfl⟩
    · by_cases e : b = a
      · exact .inr ⟨_, _, if_pos e⟩
      · exact .inl (if_neg e)
    · by_cases e : b = a
      · subst e
        have z1 := (if_pos rfl).symm.trans z
        cases z1
        exact ⟨hobj, by rw [List.length_map]; exact hlen, us, _, hv, hobj⟩
      · have z1 := (if_neg e).symm.trans z
        cases z1
    · by_cases e : b = a
      · exact e
      · exact absurd (if_neg e) z
theorem law_callG {CX : CXT} {k : Nat} {fa a : Addr} {fd : FuncData} {x : Str} {sp : Sp} {s : Shared} {us : List Value} {is : List Int}
    (hK : K.In s.heap) (hm : s.heap.Ns mainGlobals mg) (hbn : s.heap.Ns builtinsNs mb) (hbe : ∀ y : Str, y ≠ "__name__" → mb y = bootBuiltins y) (hnl : s.heap.NoLimit) (hge : s.gens = #[])
    (hobj : s.heap.get? a = some { cls := .type "list", data := .seq us.toArray }) (hint : IntsAre us is) (hlen : is.length ≤ sizeLine) (hroom : Room k callerA)
    (FF : ∀ base : Heap, K.In base → base.Ns mainGlobals mg → FnG P w K mg base CX k fa fd [x] sp) (hbd : ∀ (s : Shared) (u : Value), BindsTo s fd ⟨[u], []⟩ [(x, u)])
    (hprom : ∀ H : Hp, Only H → SqL K H a (is.map V.int) → sp [.ref a] H (fun v _ => v = .bl true) fun _ _ _ => False)
    (hcx : ∀ H e s', CX [] H s (fun _ _ _ => False) e s' → False) :
    codeAny (model P w) callerA (.call (.ref fa) ⟨[.ref a], []⟩) (fun r s' => r = .ok (.ret (.bool true)) ∧ OldK s.heap s'.heap ∧ s'.os = s.os ∧ AllBare s'.gens) s := by
  obtain ⟨H, hO, hS, hok, hA, hKa⟩ := script_heap (P := P) (w := w) hK hobj hint hlen
  have free : ∀ {b : Addr} {o : Obj} {es : Array DictEntry} {ep : Nat}, s.heap.get? b = some o → o.data = .dict es ep → H b = none := fun {b o es ep} e d => by
    cases q : H b with
    | none => rfl
    | some u =>
      obtain rfl : b = a := hA b (by rw [q]; simp)
      rw [hobj] at e
      cases e
      cases (show Data.seq us.toArray _ = Data.dict es ep from d)
  have ns : ∀ {b : Addr} {m : Str → Option Value}, s.heap.Ns b m → (hidT s.heap H).Ns b m := fun {b m} ⟨o, es, ep, e, d, r⟩ => ⟨o, es, ep, hidT_get e (free e d), d, r⟩
  have kin : K.In (hidT s.heap H) := fun b o e => hidT_get (hK b o e) (by
    cases q : H b with
    | none => rfl
    | some u =>
      obtain rfl : b = a := hA b (by rw [q]; simp)
      rw [hKa (by rw [q]; simp)] at e
      cases e)
  obtain ⟨mc, l1, l2⟩ := hnl
  have md : Mod K mg (hidT s.heap H) := ⟨kin, ns hm, ⟨mb, ns hbn, hbe⟩, ⟨mc, ns l1, l2⟩⟩
  have e0 : Env0 P w K mg (hidT s.heap H) callerA [] s H := ⟨rfl, md, fun b o e => of_hidT e, Nat.le_of_eq (hidT_size _ _), trivial, fun b m => (List.not_mem_nil m).elim, hok, .of_eq hge⟩
  refine codeAny_mono ((FF _ kin (ns hm)).run callerA [] s H ⟨[.ref a], []⟩ [.ref a] [.ref a] _ _ hroom rfl e0 (hbd s (.ref a)) (.cons rfl .nil) (hprom H hO hS)) fun r s' h => ?_
  match r, h with
  | .error e, h => exact (hcx H e s' h).elim
  | .ok .next, h => exact False.elim h
  | .ok .brk, h => exact False.elim h
  | .ok .cont, h => exact False.elim h
  | .ok (.ret u), h =>
    obtain ⟨v, H', os, bare, un, hok', rv, (rfl : v = .bl true)⟩ := h
    obtain rfl : u = Value.bool true := rv
    refine ⟨rfl, OldK.of_keep fun b o e => ?_, os, bare⟩
    cases q : H b with
    | none => exact un.keep b o e q (fun m => (List.not_mem_nil m).elim) (by simp)
    | some t =>
      rcases hO b with z | ⟨ob, xs, z⟩
      · rw [q] at z; cases z
      · have k1 := (hok b _ z).1
        rw [e] at k1
        cases k1
        exact (hok' b _ (un.frzs b _ _ z)).1
end
/-- the law's walk -/
theorem walk_ofG {l : PySem.W.OpenLaw} {n k : Nat} {q : Program} {loose : List Str} {XP : (Str → Option Value) → Heap → Prop} {YP : World → Heap → Prop} {d : DefRec} {x : Str}
    (hn : l.most = some n) (hn2 : n ≤ sizeLine) (hdf : d.params.defaults = []) (hr : Room k callerA)
    (F : ∀ (w : World) (mg : Str → Option Value) (fa : Addr) (h : Heap), YP w h → h.Ns mainGlobals mg → mg d.name = some (.ref fa) →
      ∃ (K : PySem.W.Frag) (fd : FuncData) (sp : Sp), K.In h ∧ (∀ (s : Shared) (u : Value), BindsTo s fd ⟨[u], []⟩ [(x, u)]) ∧
        (∀ (H : Hp) (a : Addr) (ns : List Int), ns.length ≤ n → Only H → SqL K H a (ns.map V.int) → sp [.ref a] H (fun v _ => v = .bl true) fun _ _ _ => False) ∧
        ∀ base : Heap, K.In base → base.Ns mainGlobals mg → FnG l.prog w K mg base (L2.CX l.prog w) k fa fd [x] sp) :
    PySem.W.WalkO q loose XP YP l.row.toRowW d [] (fun f vs => PySem.call f vs) := by
  refine Att.attach_call hn hdf fun w s₀ s₁ mg mb fa o pm cd doc a vs ns G Y ho hd hcd hmg hobj hints hlen hg => ?_
  obtain ⟨K, fd, sp, h1, h2, h3, h4⟩ := F w mg fa _ Y G.T.g hmg
  exact law_callG h1 G.T.g G.T.b G.T.builtins G.T.nolimit hg hobj hints (Nat.le_trans hlen hn2) hr h4 h2 (fun H hO hS => h3 H a ns hlen hO hS) fun H e s' ⟨_, _, _, _, _, _, _, _, _, _, _, _, z⟩ => z
/-- the law's promise, from what it computes -/
theorem law_prom {K : PySem.W.Frag} {Γ : Wd} {fld : String → Option String} {call : List D → VI.CR} {a : Addr} {ns : List Int} {H : Hp} (hΓ : Γ.K = K) (htb : Γ.tb = []) (hO : Only H) (hS : SqL K H a (ns.map V.int)) (h : ∃ o, call [.scr (ns.map .int)] = .ok (.bl true) [o]) :
    spOf Γ fld 1 call [.ref a] H (fun v _ => v = .bl true) fun _ _ _ => False := by
  obtain ⟨o, e⟩ := h
  have intsR : ∀ F H : Hp, ∀ is : List Int, RpL Γ F H (is.map V.int) (is.map D.int) [] := fun F H is => by
    induction is with
    | nil => exact .nil
    | cons i is ih => exact .cons (.int i) ih
  have pur : ∀ is : List Int, pureL (is.map D.int) = true := fun is => by
    induction is with
    | nil => rfl
    | cons i is ih => simp only [List.map_cons, pureL, D.pure, ih, Bool.and_self]
  refine ⟨rfl, H, [.scr (ns.map .int)], [] ++ [], ⟨FLe.refl _, fun a vs e => e⟩, .cons (.scr (by rw [hΓ]; exact hS) (intsR H H ns) (pur ns)) .nil, by simp, by simp, fun p hp => (by rw [htb] at hp; cases hp), fun a ⟨q, hq⟩ => (by rw [htb] at hq; cases hq), ?_⟩
  rw [e]
  refine ⟨rfl, fun v F' H' R => ?_⟩
  obtain ⟨fq, r, _, _⟩ := R.own
  cases r with
  | cons r1 _ => cases r1; rfl

/-! ### facts behind the top -/
def obsV (n : Nat) (fa : List He.Fa) (fn : List He.DefD) (tb : PySem.W.Frag → Bool) (g : Addr → Option Obj) : Bool × He.AlD := (tb (He.frG g (PySem.sysModules :: He.asD g n)), He.obsD fa fn (He.frG g (PySem.sysModules :: He.asD g n)))
def hookV (n : Nat) (fa : List He.Fa) (fn : List He.DefD) (tb : PySem.W.Frag → Bool) : PySem.W.Hook where
  α := Bool × He.AlD
  obs s := obsV n fa fn tb s.heap.get?
  val _ := (true, He.valD fn)
  says _ h := ∃ K : PySem.W.Frag, K.In h ∧ He.SaysD fa fn K ∧ tb K = true
  of _ _ e := ⟨_, He.frG_in, congrArg (fun z : Bool × He.AlD => z.2) e, congrArg (fun z : Bool × He.AlD => z.1) e⟩
  keeps _ _ _ h k := by
    obtain ⟨K, a, b⟩ := h
    exact ⟨K, PySem.W.Frag.In.keeps a k, b⟩
theorem obsV_eq {n : Nat} {fa : List He.Fa} {fn : List He.DefD} {tb : PySem.W.Frag → Bool} {g : Addr → Option Obj} {s : Shared} (h : ∀ a, g a = s.heap.get? a) : obsV n fa fn tb g = (hookV n fa fn tb).obs s := by
  obtain rfl : g = s.heap.get? := funext h
  rfl
end VI

end

section
/-! ViM: all defs of a program keep their promises. -/
namespace VI
open PySem L2 PyProof.Rows

/-- a def: its name, its text, its slots, its parameters, its form; ks: the ways in which it is called with keywords -/
structure Dfn where
  nm : String
  st : Stmt
  N : List Str
  ps : List Str
  fn : Fn
  ks : List (Nat × List Str × List Nat)
def Dfn.x (d : Dfn) : Str := Str.ofString d.nm
def Dfn.D (d : Dfn) : He.DefD := ⟨(d.x, none), d.x, d.x, defArgs d.st, defBody d.st, defScope d.st, [], []⟩
def tabD (ds : List Dfn) : List (String × Nat) := ds.map fun d => (d.nm, d.ps.length)
def tabK (ds : List Dfn) : List (String × Nat × List Str × List Nat) := ds.flatMap fun d => d.ks.map fun k => (d.nm, k)
def Dfn.sc (ex : List Ecl) (tD : List (String × Nat)) (tK : List (String × Nat × List Str × List Nat)) (d : Dfn) : Sc := { N := d.N, sc := defScope d.st, blk := none, defs := tD, kws := tK, exc := ex }
structure Dfn.Ok (ex : List Ecl) (tD : List (String × Nat)) (tK : List (String × Nat × List Str × List Nat)) (d : Dfn) : Prop where
  scope : FnScope d.N d.ps (defScope d.st)
  np : d.fn.ps = d.ps.length
  nn : d.fn.n = d.N.length
  ck : ckSs (d.sc ex tD tK) d.fn.body (defBody d.st) = true
  bind : ∀ (kV doc pm : Value) (an : Option Addr) (cdv ct : Value) (us : List Value), us.length = d.ps.length → bindArgs (PySem.W.fnOf d.x d.x (defArgs d.st) (defBody d.st) (defScope d.st) .none kV doc pm an cdv ct) ⟨us, []⟩ = pure (d.ps.zip us)
  kbind : ∀ k ∈ d.ks, ∀ (kV doc pm : Value) (an : Option Addr) (cdv ct : Value) (us ws : List Value), us.length = k.1 → us.length + ws.length = k.2.2.length →
    bindArgs (PySem.W.fnOf d.x d.x (defArgs d.st) (defBody d.st) (defScope d.st) .none kV doc pm an cdv ct) ⟨us, k.2.1.zip ws⟩ = pure (d.ps.zip (pick k.2.2 (us ++ ws)))

abbrev FunT (K : PySem.W.Frag) (d : Dfn) (fd : FuncData) : Prop := FunD K d.x d.x (defArgs d.st) (defBody d.st) (defScope d.st) [] [] (He.ga K d.x) fd
def builtinNames : List Str := ["len", "tuple", "list", "sorted", "int", "bool", "str", "repr", "min", "max", "sum", "all", "any", "abs", "divmod", "dict", "isinstance", "range", "zip", "enumerate"]
/-- what the top has left -/
structure Left (ds : List Dfn) (p : Pg) (Γ : Wd) (K : PySem.W.Frag) (mg : Str → Option Value) : Prop where
  kk : Γ.K = K
  fd : ∀ d ∈ ds, ∃ fd, FunT K d fd
  gl : ∀ d ∈ ds, mg d.x = some (.ref (He.ga K d.x))
  bl : ∀ x ∈ builtinNames, mg x = none
  gb : ∀ y d, p.glob y = some d → ∃ u v, mg (Str.ofString y) = some u ∧ RelV v u ∧ (∀ F H, Rp Γ F H v d []) ∧ d.pure = true
  sm : ∃ om, K.lookup PySem.sysModules = some om
  oc : ∀ d C, Γ.ocl d ≠ some C
theorem lookup_tab : ∀ {ds : List Dfn} {f : String} {n : Nat}, (tabD ds).lookup f = some n → ∃ d ∈ ds, d.nm = f ∧ d.ps.length = n
  | [], _, _, h => by cases h
  | d :: ds, f, n, h => by
    have h' : (match f == d.nm with | true => some d.ps.length | false => (tabD ds).lookup f) = some n := h
    cases e : f == d.nm with
    | true =>
      rw [e] at h'
      exact ⟨d, List.mem_cons_self .., (eq_of_beq e).symm, Option.some.inj h'⟩
    | false =>
      rw [e] at h'
      obtain ⟨d', m, r⟩ := lookup_tab h'
      exact ⟨d', List.mem_cons_of_mem _ m, r⟩
theorem mem_tabK {ds : List Dfn} {f : String} {np : Nat} {ks : List Str} {pm : List Nat} (h : (f, np, ks, pm) ∈ tabK ds) : ∃ d ∈ ds, d.nm = f ∧ (np, ks, pm) ∈ d.ks := by
  obtain ⟨d, m, h2⟩ := List.mem_flatMap.mp h
  obtain ⟨k, m2, e⟩ := List.mem_map.mp h2
  cases e
  exact ⟨d, m, rfl, m2⟩
theorem none_of {K : PySem.W.Frag} {d : Dfn} {fd : FuncData} (F : FunT K d fd) : ∃ (oc : Value) (od : Option Addr) (kV doc pm : Value) (an : Option Addr) (cdv ct : Value) (osl : Array (Option Value)),
    fd = PySem.W.fnOf d.x d.x (defArgs d.st) (defBody d.st) (defScope d.st) .none kV doc pm an cdv ct ∧ K.lookup (He.ga K d.x) = some ⟨oc, od, .func fd, osl⟩ ∧ PySem.W.codeIn K cdv d.x = true := by
  obtain ⟨oc, od, dV, kV, doc, pm, an, cdv, ct, osl, e, lk, hcd, hD, hK⟩ := F.ex
  rcases hD with ⟨z, rfl⟩ | ⟨z, _⟩
  · exact ⟨oc, od, kV, doc, pm, an, cdv, ct, osl, e, lk, hcd⟩
  · exact absurd rfl z
section
variable {P : Program} {w : World} {K : PySem.W.Frag} {mg : Str → Option Value} {base : Heap} {Γ : Wd} {fld : String → Option String} {ds : List Dfn} {p : Pg} {W : Nat} {tD : List (String × Nat)} {tK : List (String × Nat × List Str × List Nat)}
theorem all_ok (hT : tD = tabD ds) (hK : tK = tabK ds) (L : Left ds p Γ K mg) (ok : ∀ d ∈ ds, d.Ok p.exc tD tK) (EF : ErrF p.exc Γ fld P w K mg base) (hl : ∀ d ∈ ds, p.defs.lookup d.nm = some d.fn) (one : ∀ d ∈ ds, ∀ d' ∈ ds, d.nm = d'.nm → d.ks = d'.ks ∧ d.ps = d'.ps ∧ d.st = d'.st) :
    ∀ (n : Nat) (d : Dfn), d ∈ ds → ∀ fd, FunT K d fd → FnG P w K mg base (L2.CX P w) (n + 3) (He.ga K d.x) fd d.ps (spOf Γ fld d.ps.length (callN p W n d.nm)) := by
  intro n
  induction n with
  | zero =>
    intro d m fd F
    exact ⟨fun vs H Q E h => h.1, fun A outer s H args us vs Q E hr hg e0 hb r ⟨_, F, ds, fp, _, _, _, _, _, _, z⟩ => False.elim z⟩
  | succ n ih =>
    intro d m fd F
    have O := ok d m
    have ec : callN p W (n + 1) d.nm = runF { call := callN p W n, glob := p.glob, W := W, prot := [], exc := p.exc, callT := callTN p W n } d.fn := by
      funext as
      show (match p.defs.lookup d.nm with
        | some fn => _
        | none => _) = _
      rw [hl d m]
      rfl
    rw [ec]
    obtain ⟨oc, od, kV, doc, pm, an, cdv, ct, osl, e, lk, hcd⟩ := none_of F
    refine def_ok (st := d.st) (x := d.x) (qual := d.x) (c := { call := callN p W n, glob := p.glob, W := W, prot := [], exc := p.exc, callT := _ }) ⟨⟨oc, od, kV, doc, pm, an, cdv, ct, osl, e, lk, hcd⟩, F.kp⟩ O.scope O.np O.nn fun cdv2 A outer s H E hr hg => ?_
    refine sndSs (c := { call := callN p W n, glob := p.glob, W := W, prot := [], exc := p.exc, callT := _ }) (k := n + 3) d.fn.body d.fn.prot O.ck ?_
    exact
      { N := rfl
        nd := O.scope.nd
        sc := rfl
        fn0 := fun _ x => rfl
        fn1 := fun s h => by cases h
        calm := rfl
        room := hr
        gd := hg
        K := L.kk
        tk := takes_of rfl rfl rfl rfl
        bl := L.bl
        gb := L.gb
        cl := fun f n' h => by
          have h : tD.lookup f = some n' := h
          rw [hT] at h
          obtain ⟨d', m', e1, e2⟩ := lookup_tab h
          obtain ⟨fd', F'⟩ := L.fd d' m'
          subst e1
          obtain ⟨oc', od', kV', doc', pm', an', cdv', ct', osl', e', lk', hcd'⟩ := none_of F'
          refine ⟨He.ga K d'.x, fd', d'.ps, e2, by rw [← e2]; exact ih d' m' fd' F', L.gl d' m', F'.kp, ?_, fun np ks pm2 hk s us ws _ l1 l2 => ?_⟩
          · rw [e']
            exact .all ((ok d' m').bind _ _ _ _ _ _)
          · have hk : (d'.nm, np, ks, pm2) ∈ tK := hk
            rw [hK] at hk
            obtain ⟨d2, m2, e3, hk2⟩ := mem_tabK hk
            obtain ⟨o1, o2, o3⟩ := one d2 m2 d' m' e3
            rw [o1] at hk2
            rw [e']
            exact .of_eq ((ok d' m').kbind _ hk2 _ _ _ _ _ _ us ws l1 l2)
        own := passes_of rfl
        stk := rfl
        frm := rfl
        sm := L.sm
        oc := L.oc
        r2 := hr.mono (by omega)
        err := EF
        exc := rfl
        kind := O.scope.kind }
end
end VI

end

section
/-! ViN: what the top leaves, from facts by names. -/
namespace VI
open PySem L2 PyProof.Rows

/-- a value of the module's own -/
inductive Ga where
  | int (i : Int)
  | str (s : String)
inductive Gv where
  | int (i : Int)
  | str (s : String)
  | tup (xs : List Ga)
def Ga.d : Ga → D
  | .int i => .int i
  | .str s => .str s.toList
def Gv.d : Gv → D
  | .int i => .int i
  | .str s => .str s.toList
  | .tup xs => .ktup (xs.map Ga.d)
def Ga.v : Ga → He.Dv
  | .int i => .int i
  | .str s => .str (sv s.toList)
def Gv.fa (x : Str) : Gv → List He.Fa
  | .int i => [.int x i]
  | .str s => [.str x (sv s.toList)]
  | .tup _ => [.glo x]
def Gv.tb (K : PySem.W.Frag) (x : Str) : Gv → Bool
  | .tup xs => He.tupB K x (xs.map Ga.v)
  | _ => true
theorem ga_rp {Γ : Wd} {K : PySem.W.Frag} {F H : Hp} : ∀ xs : List Ga, RpL Γ F H ((xs.map Ga.v).map (He.Dv.v K)) (xs.map Ga.d) []
  | [] => .nil
  | .int i :: xs => .cons (fp := []) (fq := []) (.int i) (ga_rp xs)
  | .str s :: xs => .cons (fp := []) (fq := []) (.str s.toList) (ga_rp xs)
theorem ga_pure : ∀ xs : List Ga, pureL (xs.map Ga.d) = true
  | [] => rfl
  | .int i :: xs => (by simp only [List.map_cons, pureL, ga_pure xs]; rfl)
  | .str s :: xs => (by simp only [List.map_cons, pureL, ga_pure xs]; rfl)
/-- the three families -/
inductive Fam where
  | value | lookup | arith
  deriving DecidableEq
def Fam.tail : Fam → List Value
  | .value => [.type "ValueError", .type "Exception", .type "BaseException", .type "object"]
  | .lookup => [.type "LookupError", .type "Exception", .type "BaseException", .type "object"]
  | .arith => [.type "ArithmeticError", .type "Exception", .type "BaseException", .type "object"]
def Fam.newId : Fam → String
  | .value => "ValueError.__new__"
  | .lookup => "LookupError.__new__"
  | .arith => "ArithmeticError.__new__"
theorem Fam.facts (f : Fam) : ∃ (B initId : String), ExcBaseFacts B f.newId initId f.tail ∧ PySem.StoreFacts B f.tail "object.__setattr__" "object" := by
  cases f
  · exact ⟨_, _, PySem.F.excBase_ValueError, PySem.F.store_ValueError⟩
  · exact ⟨_, _, PySem.F.excBase_LookupError, PySem.F.store_LookupError⟩
  · exact ⟨_, _, PySem.F.excBase_ArithmeticError, PySem.F.store_ArithmeticError⟩
/-- a class of errors that are raised: its name, its field, its family, its __init__ -/
structure Exd where
  nm : String
  fld : String
  fam : Fam
  st : Stmt
  b : Stmt
def Exd.x (d : Exd) : Str := Str.ofString d.nm
def Exd.f (d : Exd) : Str := Str.ofString d.fld
def Exd.D (d : Exd) : He.DefD := ⟨(d.x, some "__init__"), "__init__", d.x ++ ".__init__", defArgs d.st, defBody d.st, defScope d.st, [], []⟩
/-- what is looked at of it -/
def Exd.ok (K : PySem.W.Frag) (d : Exd) : Bool :=
  let C := He.ga K d.x
  let fI := He.ma K C "__init__"
  PySem.W.excInitIn K C d.fam.tail d.fam.newId && (PySem.W.excOver K C d.fam.tail && (He.eqO (PySem.W.findIn K (.ref C) "__setattr__") (some (some (.builtin "object.__setattr__"))) && (He.eqO (PySem.W.findIn K (.ref C) "__getattribute__") (some (some (.builtin "BaseException.__getattribute__"))) &&
  (He.eqO (PySem.W.findIn K (.ref C) "__getattr__") (some none) && (He.eqO (PySem.W.findIn K (.ref C) d.f) (some none) && (He.eqO (PySem.W.findIn K (.ref C) "__init__") (some (some (.ref fI))) && (decide (PySem.W.typeIn K (.ref fI) = some (.type "function")) && (PySem.W.keepIn K (.ref C) &&
  (decide (PySem.W.subIn K (.ref C) (.type "BaseException") = some true) && (decide (PySem.W.typeIn K (.ref C) = some (.type "type")) && (PySem.W.hasDictIn K C && (He.eqO (PySem.W.findIn K (.ref C) "__class__") (some (some (.builtin "object.__class__"))) &&
  (decide (PySem.W.specialIn K (.builtin "object.__class__") "__get__" = some (some (.builtin "getset_descriptor.__get__"))) && (decide (PySem.W.takesIn K (.builtin "object.__class__") = some true) && decide (PySem.W.mroIn K C (.type "object") = some true)))))))))))))))
theorem Exd.excG {K : PySem.W.Frag} {d : Exd} (h : d.ok K = true) : ExcG K (He.ga K d.x) (He.ma K (He.ga K d.x) "__init__") d.f ∧ ExcC K (He.ga K d.x) := by
  unfold Exd.ok at h
  simp only [Bool.and_eq_true, decide_eq_true_eq] at h
  obtain ⟨h1, h2, h3, h4, h5, h6, h7, h8, h9, h10, h11, h12, h13, h14, h15, h16⟩ := h
  obtain ⟨B, initId, e1, e2⟩ := d.fam.facts
  exact ⟨⟨⟨B, _, initId, _, e1, e2, h1, h2⟩, He.eqO_ok h3, He.eqO_ok h4, He.eqO_ok h5, He.eqO_ok h6, He.eqO_ok h7, h8, h9, h10, h11, h12⟩, ⟨He.eqO_ok h4, He.eqO_ok h5, h10, h12, He.eqO_ok h13, h14, h15, h16⟩⟩
structure Exd.Ok (d : Exd) : Prop where
  scope : FnScope ["self", d.f] ["self", d.f] (defScope d.st)
  body : defBody d.st = [d.b]
  text : initText "self" d.f d.b = true
  dbg : (d.f == ("__debug__" : Str)) = false ∧ (d.f == ("__classdict__" : Str)) = false
  bind : ∀ (kV doc pm : Value) (an : Option Addr) (cdv ct : Value) (us : List Value), us.length = 2 → bindArgs (PySem.W.fnOf "__init__" (d.x ++ ".__init__") (defArgs d.st) (defBody d.st) (defScope d.st) .none kV doc pm an cdv ct) ⟨us, []⟩ = pure ([("self" : Str), d.f].zip us)
/-- what is derived from what, looked at -/
def subOk (K : PySem.W.Frag) (ex : List Ecl) : Bool := ex.all fun e => e.fld == "" || ex.all fun t => match subE ex e.nm t.nm with
  | some b => decide (PySem.W.exmOne K (.ref (He.ga K (Str.ofString e.nm))) (.ref (He.ga K (Str.ofString t.nm))) = some b) && decide (PySem.W.kitOne K (.ref (He.ga K (Str.ofString e.nm))) (.ref (He.ga K (Str.ofString t.nm))) = some b)
  | none => true
structure Txt where
  ds : List Dfn
  gl : List (String × Gv)
  xs : List Exd := []
  ex : List Ecl := []
def Txt.pg (t : Txt) : Pg := { defs := t.ds.map fun d => (d.nm, d.fn), glob := fun y => (t.gl.lookup y).map Gv.d, exc := t.ex }
def Txt.fa (t : Txt) : List He.Fa := t.ds.map (fun d => He.Fa.glo d.x) ++ (builtinNames.map He.Fa.free ++ (t.gl.flatMap (fun g => g.2.fa (Str.ofString g.1)) ++ t.ex.map fun e => He.Fa.glo (Str.ofString e.nm)))
def Txt.fn (t : Txt) : List He.DefD := t.ds.map Dfn.D ++ t.xs.map Exd.D
def Txt.tb (t : Txt) (K : PySem.W.Frag) : Bool := (t.gl.all fun g => g.2.tb K (Str.ofString g.1)) && ((K.lookup PySem.sysModules).isSome && (t.xs.all (fun d => d.ok K) && subOk K t.ex))
theorem says_mem {fa : List He.Fa} {fn : List He.DefD} {K : PySem.W.Frag} (c : He.SaysD fa fn K) {f : He.Fa} (h : f ∈ fa) : f.ok K = true := by
  obtain ⟨i, hi⟩ := List.mem_iff_getElem?.mp h
  exact He.SaysD.fact c i hi
theorem lookup_mem {β : Type} : ∀ {l : List (String × β)} {y : String} {v : β}, l.lookup y = some v → (y, v) ∈ l
  | [], _, _, h => by cases h
  | (x, u) :: l, y, v, h => by
    rw [List.lookup_cons] at h
    cases e : y == x with
    | true =>
      rw [e] at h
      obtain rfl : u = v := Option.some.inj h
      rw [eq_of_beq e]
      exact List.mem_cons_self ..
    | false =>
      rw [e] at h
      exact List.mem_cons_of_mem _ (lookup_mem h)
theorem left_of {t : Txt} {K : PySem.W.Frag} {h : Heap} {mg : Str → Option Value} {Γ : Wd} (kk : Γ.K = K) (ko : ∀ d C, Γ.ocl d ≠ some C) (X : K.In h) (G : h.Ns mainGlobals mg) (c : He.SaysD t.fa t.fn K) (b : t.tb K = true) : Left t.ds t.pg Γ K mg where
  kk := kk
  oc := ko
  sm := Option.isSome_iff_exists.mp (Bool.and_eq_true_iff.mp (Bool.and_eq_true_iff.mp b).2).1
  fd d m := by
    obtain ⟨i, hi⟩ := List.mem_iff_getElem?.mp m
    have e : t.fn[i]? = some d.D := by
      have hl : i < t.ds.length := (List.getElem?_eq_some_iff.mp hi).1
      show (t.ds.map Dfn.D ++ t.xs.map Exd.D)[i]? = _
      rw [List.getElem?_append_left (by simpa using hl), List.getElem?_map, hi]; rfl
    obtain ⟨fd, F⟩ := c.def_ i e
    exact ⟨fd, F⟩
  gl d m := He.glo_ok X G (says_mem c (List.mem_append_left _ (List.mem_map.mpr ⟨d, m, rfl⟩)))
  bl x m := He.free_ok X G (says_mem c (List.mem_append_right _ (List.mem_append_left _ (List.mem_map.mpr ⟨x, m, rfl⟩))))
  gb y d e := by
    have e : (t.gl.lookup y).map Gv.d = some d := e
    cases q : t.gl.lookup y with
    | none => rw [q] at e; cases e
    | some g =>
      rw [q] at e
      obtain rfl : g.d = d := Option.some.inj e
      have m := lookup_mem q
      have fact : ∀ f ∈ g.fa (Str.ofString y), f.ok K = true := fun f hf => says_mem c (List.mem_append_right _ (List.mem_append_right _ (List.mem_append_left _ (List.mem_flatMap.mpr ⟨_, m, hf⟩))))
      have tb : g.tb K (Str.ofString y) = true := List.all_eq_true.mp (Bool.and_eq_true_iff.mp b).1 _ m
      cases g with
      | int i =>
        obtain ⟨tk, hk⟩ := He.int_ok X G (fact _ (List.mem_singleton.mpr rfl))
        exact ⟨_, .int i, hk, ⟨tk, rfl⟩, fun F H => .int i, rfl⟩
      | str s =>
        obtain ⟨tk, hk⟩ := He.str_ok X G (fact _ (List.mem_singleton.mpr rfl))
        exact ⟨_, .str (sv s.toList), hk, ⟨tk, rfl⟩, fun F H => .str s.toList, rfl⟩
      | tup xs =>
        have hk := He.glo_ok X G (fact _ (List.mem_singleton.mpr rfl))
        have ht : He.tupB K (Str.ofString y) (xs.map Ga.v) = true := tb
        refine ⟨_, .ref (He.ga K (Str.ofString y)), hk, rfl, fun F H => .ktup ?_ (ga_rp (K := K) xs) (ga_pure xs), by simpa [Gv.d, D.pure] using ga_pure xs⟩
        rw [kk]
        rcases He.tupB_ok ht (fun _ => none) with z | z
        · rcases z with z | ⟨_, z⟩ <;> cases z
        · exact z
theorem eclOf_mem {ex : List Ecl} {k : String} {e : Ecl} (h : eclOf ex k = some e) : e ∈ ex ∧ e.nm = k :=
  ⟨List.mem_of_find?_eq_some h, by have := List.find?_some h; simpa using this⟩
def clsOf (ex : List Ecl) (K : PySem.W.Frag) (t : String) : Option Addr := (eclOf ex t).map fun _ => He.ga K (Str.ofString t)
theorem clsOf_eq {ex : List Ecl} {K : PySem.W.Frag} {t : String} {C : Addr} (h : clsOf ex K t = some C) : C = He.ga K (Str.ofString t) := by
  unfold clsOf at h
  cases e : eclOf ex t with
  | none => rw [e] at h; cases h
  | some x => rw [e] at h; cases h; rfl
theorem init_fun {K : PySem.W.Frag} {d : Exd} {fd : FuncData} (F : FunD K d.D.name d.D.qual d.D.params d.D.body d.D.scope (d.D.dvs K) (d.D.kws K) (He.fAd K d.D.at_) fd) : L2.Fun K "__init__" (d.x ++ ".__init__") d.st (He.ma K (He.ga K d.x) "__init__") fd ∧
    ∃ (kV doc pm : Value) (an : Option Addr) (cdv ct : Value), fd = PySem.W.fnOf "__init__" (d.x ++ ".__init__") (defArgs d.st) (defBody d.st) (defScope d.st) .none kV doc pm an cdv ct := by
  obtain ⟨oc, od, dV, kV, doc, pm, an, cdv, ct, osl, e, lk, hcd, hD, hK⟩ := F.ex
  rcases hD with ⟨z, rfl⟩ | ⟨z, _⟩
  · exact ⟨⟨⟨oc, od, kV, doc, pm, an, cdv, ct, osl, e, lk, hcd⟩, F.kp⟩, kV, doc, pm, an, cdv, ct, e⟩
  · exact absurd rfl z
theorem err_of {P : Program} {w : World} {base : Heap} {t : Txt} {K : PySem.W.Frag} {h : Heap} {mg : Str → Option Value} {Γ : Wd} (hc : Γ.cls = clsOf t.ex K) (X : K.In h) (G : h.Ns mainGlobals mg) (c : He.SaysD t.fa t.fn K) (b : t.tb K = true)
    (ok : ∀ d ∈ t.xs, d.Ok) (hx : ∀ e ∈ t.ex, e.fld ≠ "" → ∃ d ∈ t.xs, d.nm = e.nm ∧ d.fld = e.fld) : ErrF t.ex Γ (fldE t.ex) P w K mg base where
  cls k e he := by
    obtain ⟨m, rfl⟩ := eclOf_mem he
    refine ⟨He.ga K (Str.ofString e.nm), by rw [hc, clsOf, he]; rfl, ?_⟩
    exact He.glo_ok X G (says_mem c (List.mem_append_right _ (List.mem_append_right _ (List.mem_append_right _ (List.mem_map.mpr ⟨e, m, rfl⟩)))))
  inv k fl h := h
  mkr k fl hf := by
    refine ⟨hf, ?_⟩
    unfold fldE at hf
    cases he : eclOf t.ex k with
    | none => rw [he] at hf; cases hf
    | some e =>
      rw [he] at hf
      simp only at hf
      split at hf
      · cases hf
      · rename_i hne
        cases hf
        obtain ⟨m, rfl⟩ := eclOf_mem he
        obtain ⟨d, dm, d1, d2⟩ := hx e m hne
        have tb := List.all_eq_true.mp (Bool.and_eq_true_iff.mp (Bool.and_eq_true_iff.mp (Bool.and_eq_true_iff.mp b).2).2).1 d dm
        obtain ⟨g1, g2⟩ := Exd.excG tb
        obtain ⟨i, hi⟩ := List.mem_iff_getElem?.mp dm
        have ei : t.fn[t.ds.length + i]? = some d.D := by
          show (t.ds.map Dfn.D ++ t.xs.map Exd.D)[t.ds.length + i]? = _
          rw [List.getElem?_append_right (by simp), List.length_map, Nat.add_sub_cancel_left, List.getElem?_map, hi]; rfl
        obtain ⟨fd, F⟩ := c.def_ (t.ds.length + i) ei
        obtain ⟨F', kV, doc, pm, an, cdv, ct, efd⟩ := init_fun F
        have O := ok d dm
        have ex' : d.x = Str.ofString e.nm := congrArg Str.ofString d1
        have ef' : d.f = Str.ofString e.fld := congrArg Str.ofString d2
        rw [ex', ef'] at g1
        rw [ex'] at g2
        refine ⟨He.ga K (Str.ofString e.nm), _, "self", fd, by rw [hc, clsOf, he]; rfl, g1, fun CX => ?_, ?_, g2⟩
        · have := init_ok (P := P) (w := w) (mg := mg) (base := base) (CX := CX) F' O.scope O.body O.text (by decide) (by decide) O.dbg.1 O.dbg.2
          rw [ef', ex'] at this
          exact this
        · have := L2.Binds.all (K := K) (ps := [("self" : Str), d.f]) (fun us hl => O.bind kV doc pm an cdv ct us hl)
          rw [← efd, ef'] at this
          exact this
  sub k s bb C D fl hf hs hC hD := by
    rw [hc] at hC hD
    rw [clsOf_eq hC, clsOf_eq hD]
    unfold fldE at hf
    cases he : eclOf t.ex k with
    | none => rw [he] at hf; cases hf
    | some e =>
      rw [he] at hf
      simp only at hf
      split at hf
      · cases hf
      · rename_i hne
        obtain ⟨m, rfl⟩ := eclOf_mem he
        obtain ⟨e2, he2⟩ := subE_ecl hs
        obtain ⟨m2, rfl⟩ := eclOf_mem he2
        have tb := (Bool.and_eq_true_iff.mp (Bool.and_eq_true_iff.mp (Bool.and_eq_true_iff.mp b).2).2).2
        unfold subOk at tb
        have t1 := List.all_eq_true.mp tb e m
        have hb : (e.fld == "") = false := by simpa using hne
        rw [hb, Bool.false_or] at t1
        have t2 := List.all_eq_true.mp t1 e2 m2
        rw [hs] at t2
        simpa using t2
theorem inj_nodup {α β : Type} {f : α → β} : ∀ {l : List α}, (l.map f).Nodup → ∀ a ∈ l, ∀ b ∈ l, f a = f b → a = b
  | [], _, _, m, _, _, _ => by cases m
  | x :: l, h, a, ma, b, mb, e => by
    obtain ⟨h1, h2⟩ := List.nodup_cons.mp h
    rcases List.mem_cons.mp ma with ra | na
    · rcases List.mem_cons.mp mb with rb | nb
      · rw [ra, rb]
      · exact (h1 (List.mem_map.mpr ⟨b, nb, by rw [← e, ra]⟩)).elim
    · rcases List.mem_cons.mp mb with rb | nb
      · exact (h1 (List.mem_map.mpr ⟨a, na, by rw [e, rb]⟩)).elim
      · exact inj_nodup h2 a na b nb e
theorem end_of {P : Program} {w : World} {t : Txt} {d : Dfn} {pg : Pg} {tD : List (String × Nat)} {tK : List (String × Nat × List Str × List Nat)} {k W : Nat} {x : Str} {mg : Str → Option Value} {fa : Addr} {h : Heap} {K : PySem.W.Frag}
    (hpg : t.pg = pg) (ok : ∀ d ∈ t.ds, d.Ok t.ex tD tK) (okx : ∀ d ∈ t.xs, d.Ok) (hexc : ∀ e ∈ t.ex, e.fld ≠ "" → ∃ d ∈ t.xs, d.nm = e.nm ∧ d.fld = e.fld) (lk : ∀ d ∈ t.ds, t.pg.defs.lookup d.nm = some d.fn) (nd : (t.ds.map Dfn.nm).Nodup) (hT : tD = tabD t.ds) (hK : tK = tabK t.ds) (m : d ∈ t.ds) (hx : d.nm = "law") (hps : d.ps = [x])
    (KX : K.In h) (G : h.Ns mainGlobals mg) (c : He.SaysD t.fa t.fn K) (tb : t.tb K = true) (hmg : mg ("law" : Str) = some (.ref fa))
    (law : ∀ ns : List Int, ns.length ≤ 63 → ∃ o, callN pg W k "law" [.scr (ns.map .int)] = .ok (.bl true) [o]) :
    ∃ (K : PySem.W.Frag) (fd : FuncData) (sp : Sp), K.In h ∧ (∀ (s : Shared) (u : Value), BindsTo s fd ⟨[u], []⟩ [(x, u)]) ∧
        (∀ (H : Hp) (a : Addr) (ns : List Int), ns.length ≤ 63 → Only H → SqL K H a (ns.map V.int) → sp [.ref a] H (fun v _ => v = .bl true) fun _ _ _ => False) ∧
        ∀ base : Heap, K.In base → base.Ns mainGlobals mg → FnG P w K mg base (L2.CX P w) (k + 3) fa fd [x] sp := by
  have L := left_of (t := t) (mg := mg) (Γ := ⟨K, clsOf t.ex K, fun _ => none, []⟩) rfl (fun _ _ z => by cases z) KX G c tb
  obtain ⟨fd, F⟩ := L.fd d m
  have ex : d.x = ("law" : Str) := congrArg Str.ofString hx
  have ea := L.gl d m
  rw [ex, hmg] at ea
  obtain rfl : fa = He.ga K d.x := by rw [ex]; cases ea; rfl
  subst hpg
  obtain ⟨oc, od, kV, doc, pm, an, cdv, ct, osl, e, lk2, hcd⟩ := none_of F
  refine ⟨K, fd, spOf ⟨K, clsOf t.ex K, fun _ => none, []⟩ (fldE t.ex) 1 (callN t.pg W k "law"), KX, fun s u => ?_, fun H a ns hn hO hS => law_prom rfl rfl hO hS (law ns hn), fun base kin ns => ?_⟩
  · have := (ok d m).bind kV doc pm an cdv ct [u] (by rw [hps]; rfl)
    rw [e]
    rw [hps] at this
    exact .of_eq this
  · have LB := left_of (t := t) (mg := mg) (Γ := ⟨K, clsOf t.ex K, fun _ => none, []⟩) rfl (fun _ _ z => by cases z) kin ns c tb
    have EF := err_of (P := P) (w := w) (base := base) (Γ := ⟨K, clsOf t.ex K, fun _ => none, []⟩) rfl kin ns c tb okx hexc
    have := all_ok (P := P) (w := w) (base := base) (W := W) (fld := fldE t.ex) hT hK LB ok EF lk (fun d1 m1 d2 m2 q => by rw [inj_nodup nd d1 m1 d2 m2 q]; exact ⟨rfl, rfl, rfl⟩) k d m fd F
    rw [hps, hx] at this
    exact this
end VI

end

section
set_option maxRecDepth 100000
namespace SW
open VI
-- def is_integer
def f_is_integer : Fn :=
  { ps := 1, n := 1, prot := [0], body := (
    .cons (.ret (.and (.isi (.v 0) ["int"]) (.notv (.isi (.v 0) ["bool"])))) .nil) }
-- end
-- def is_number
def f_is_number : Fn :=
  { ps := 1, n := 2, prot := [0], body := (
    .cons (.iff (.or (.not (.e (.isi (.v 0) ["tuple"]))) (.or (.cmp .ne (.bi .len (.cons (.v 0) .nil)) (.i 5)) (.not (.e (.bi .all (.cons (.lc [1] (.n 1) (.e (.v 0)) .none (.call "is_integer" (.cons (.v 1) .nil))) .nil)))))) (
     .cons (.ret (.tt false)) (.nil)) .nil) (
    .cons (.iff (.not (.chain .le .le (.i 0) (.sub (.v 0) (.i 4)) (.g "MAX_DENOMINATOR"))) (
     .cons (.ret (.tt false)) (.nil)) .nil) (
    .cons (.ret (.or (.cmp .eq (.sub (.v 0) (.i 4)) (.i 0)) (.bi .any (.cons (.lc [1] (.n 1) (.e (.slc (.v 0) .none (.some (.i 4)))) .none (.cmp .eq (.bin .mod (.v 1) (.i 2)) (.i 1))) .nil)))) .nil))) }
-- end
-- def need_number
def f_need_number : Fn :=
  { ps := 1, n := 1, prot := [0], body := (
    .cons (.iff (.not (.e (.call "is_number" (.cons (.v 0) .nil)))) (
     .cons (.rais "BadNumber" (.s "expected a tuple of four coefficients and an exponent, in lowest form")) (.nil)) .nil) .nil) }
-- end
-- def reduced
def f_reduced_t1 : C :=
  (.and (.cmp .gt (.v 1) (.i 0)) (.e (.bi .all (.cons (.lc [2] (.n 2) (.e (.v 0)) .none (.cmp .eq (.bin .mod (.v 2) (.i 2)) (.i 0))) .nil))))
def f_reduced_w1 : Ss :=
  (
    .cons (.asg (.n 0) (.lc [2] (.n 2) (.e (.v 0)) .none (.bin .fdiv (.v 2) (.i 2)))) (
    .cons (.asg (.n 1) (.bin .sub (.v 1) (.i 1))) (.nil)))
def f_reduced : Fn :=
  { ps := 2, n := 3, prot := [], body := (
    .cons (.wh f_reduced_t1 f_reduced_w1) (
    .cons (.ret (.bin .add (.bi .tuple (.cons (.v 0) .nil)) (.tup (.cons (.v 1) .nil)))) .nil)) }
-- end
-- def sum_of
def f_sum_of : Fn :=
  { ps := 2, n := 8, prot := [0, 1], body := (
    .cons (.asg (.n 2) (.bi .max (.cons (.sub (.v 0) (.i 4)) (.cons (.sub (.v 1) (.i 4)) .nil)))) (
    .cons (.asg (.n 3) (.lc [5] (.n 5) (.e (.slc (.v 0) .none (.some (.i 4)))) .none (.bin .shl (.v 5) (.bin .sub (.v 2) (.sub (.v 0) (.i 4)))))) (
    .cons (.asg (.n 4) (.lc [5] (.n 5) (.e (.slc (.v 1) .none (.some (.i 4)))) .none (.bin .shl (.v 5) (.bin .sub (.v 2) (.sub (.v 1) (.i 4)))))) (
    .cons (.ret (.call "reduced" (.cons (.lc [6, 7] (.t (.cons (.n 6) (.cons (.n 7) .nil))) (.zip (.v 3) (.v 4)) .none (.bin .add (.v 6) (.v 7))) (.cons (.v 2) .nil)))) .nil)))) }
-- end
-- def product_of
def f_product_of_b1 : Ss :=
  (
    .cons (.asg (.n 5) (.ifx (.cmp .lt (.bin .add (.v 3) (.v 4)) (.i 4)) (.i 1) (.neg (.i 1)))) (
    .cons (.augi (.v 2) (.bin .mod (.bin .add (.v 3) (.v 4)) (.i 4)) .add (.bin .mul (.bin .mul (.v 5) (.sub (.v 0) (.v 3))) (.sub (.v 1) (.v 4)))) (.nil)))
def f_product_of_b2 : Ss :=
  (
    .cons (.for_ false (.n 4) (.rng (.cons (.i 4) .nil)) f_product_of_b1) (.nil))
def f_product_of : Fn :=
  { ps := 2, n := 6, prot := [0, 1], body := (
    .cons (.asg (.n 2) (.lst (.cons (.i 0) (.cons (.i 0) (.cons (.i 0) (.cons (.i 0) .nil)))))) (
    .cons (.for_ false (.n 3) (.rng (.cons (.i 4) .nil)) f_product_of_b2) (
    .cons (.ret (.call "reduced" (.cons (.v 2) (.cons (.bin .add (.sub (.v 0) (.i 4)) (.sub (.v 1) (.i 4))) .nil)))) .nil))) }
-- end
-- def add
def f_add : Fn :=
  { ps := 2, n := 2, prot := [0, 1], body := (
    .cons (.ex (.call "need_number" (.cons (.v 0) .nil))) (
    .cons (.ex (.call "need_number" (.cons (.v 1) .nil))) (
    .cons (.ret (.call "sum_of" (.cons (.v 0) (.cons (.v 1) .nil)))) .nil))) }
-- end
-- def multiply
def f_multiply : Fn :=
  { ps := 2, n := 2, prot := [0, 1], body := (
    .cons (.ex (.call "need_number" (.cons (.v 0) .nil))) (
    .cons (.ex (.call "need_number" (.cons (.v 1) .nil))) (
    .cons (.ret (.call "product_of" (.cons (.v 0) (.cons (.v 1) .nil)))) .nil))) }
-- end
-- def conjugated
def f_conjugated : Fn :=
  { ps := 1, n := 1, prot := [0], body := (
    .cons (.ex (.call "need_number" (.cons (.v 0) .nil))) (
    .cons (.ret (.tup (.cons (.sub (.v 0) (.i 0)) (.cons (.bin .sub (.i 0) (.sub (.v 0) (.i 3))) (.cons (.bin .sub (.i 0) (.sub (.v 0) (.i 2))) (.cons (.bin .sub (.i 0) (.sub (.v 0) (.i 1))) (.cons (.sub (.v 0) (.i 4)) .nil))))))) .nil)) }
-- end
-- def is_scalar
def f_is_scalar : Fn :=
  { ps := 1, n := 2, prot := [0], body := (
    .cons (.iff (.cmp .is (.v 0) .non) (
     .cons (.ret (.tt true)) (.nil)) .nil) (
    .cons (.iff (.or (.not (.e (.isi (.v 0) ["tuple"]))) (.or (.cmp .ne (.bi .len (.cons (.v 0) .nil)) (.i 2)) (.not (.e (.bi .all (.cons (.lc [1] (.n 1) (.e (.v 0)) .none (.call "is_integer" (.cons (.v 1) .nil))) .nil)))))) (
     .cons (.ret (.tt false)) (.nil)) .nil) (
    .cons (.ret (.and (.chain .le .le (.neg (.g "MAX_POWER")) (.sub (.v 0) (.i 0)) (.g "MAX_POWER")) (.chain .le .le (.i 0) (.sub (.v 0) (.i 1)) (.i 7)))) .nil))) }
-- end
-- def value_of
def f_value_of_b1 : Ss :=
  (
    .cons (.asg (.n 3) (.bin .add (.lst (.cons (.bin .sub (.i 0) (.sub (.v 3) (.i 3))) .nil)) (.slc (.v 3) .none (.some (.i 3))))) (.nil))
def f_value_of_r1 : Ss :=
  (
    .cons (.for_ false (.n 4) (.rng (.cons (.sub (.v 0) (.i 1)) .nil)) f_value_of_b1) (
    .cons (.iff (.cmp .lt (.v 1) (.i 0)) (
     .cons (.ret (.bin .add (.bi .tuple (.cons (.v 3) .nil)) (.tup (.cons (.bin .sub (.i 0) (.v 1)) .nil)))) (.nil)) .nil) (
    .cons (.ret (.bin .add (.bi .tuple (.cons (.lc [5] (.n 5) (.e (.v 3)) .none (.bin .shl (.v 5) (.v 1))) .nil)) (.tup (.cons (.i 0) .nil)))) .nil)))
def f_value_of : Fn :=
  { ps := 1, n := 6, prot := [0], body := (
    .cons (.iff (.cmp .is (.v 0) .non) (
     .cons (.ret (.g "ZERO")) (.nil)) .nil) (
    .cons (.asg (.t (.cons (.n 1) (.cons (.n 2) .nil))) (.bi .divmod (.cons (.sub (.v 0) (.i 0)) (.cons (.i 2) .nil)))) (
    .cons (.asg (.n 3) (.ifx (.cmp .eq (.v 2) (.i 1)) (.lst (.cons (.i 0) (.cons (.i 1) (.cons (.i 0) (.cons (.neg (.i 1)) .nil))))) (.lst (.cons (.i 1) (.cons (.i 0) (.cons (.i 0) (.cons (.i 0) .nil))))))) f_value_of_r1))) }
-- end
-- def scalar_value
def f_scalar_value : Fn :=
  { ps := 1, n := 1, prot := [0], body := (
    .cons (.iff (.not (.e (.call "is_scalar" (.cons (.v 0) .nil)))) (
     .cons (.rais "BadScalar" (.s "expected None or a pair of exponents")) (.nil)) .nil) (
    .cons (.ret (.call "value_of" (.cons (.v 0) .nil))) .nil)) }
-- end
-- def begun
def f_begun_b1 : Ss :=
  (
    .cons (.iff (.cmp .lt (.v 2) (.bin .pow (.i 10) (.i 18))) (
     .cons (.seti (.v 1) (.s "small") (.bin .add (.bin .add (.bin .mul (.sub (.v 1) (.s "small")) (.bin .pow (.i 10) (.i 18))) (.bin .mod (.v 2) (.bin .pow (.i 10) (.i 18)))) (.i 1))) (
     .cons (.seti (.v 1) (.s "small") (.bin .mod (.sub (.v 1) (.s "small")) (.bin .mul (.bin .sub (.bin .pow (.i 2) (.i 61)) (.i 1)) (.bin .sub (.bin .pow (.i 2) (.i 31)) (.i 1))))) (.nil))) .nil) (.nil))
def f_begun : Fn :=
  { ps := 1, n := 3, prot := [0], body := (
    .cons (.asg (.n 1) (.dic (.cons (.s "great") (.lc [2] (.n 2) (.e (.v 0)) (.some (.cmp .ge (.v 2) (.bin .pow (.i 10) (.i 18)))) (.v 2)) (.cons (.s "small") (.i 0) (.cons (.s "at") (.i 0) .nil))))) (
    .cons (.for_ false (.n 2) (.e (.v 0)) f_begun_b1) (
    .cons (.ret (.mv 1)) .nil))) }
-- end
-- def draw
def f_draw_r1 : Ss :=
  (
    .cons (.asg (.n 5) (.lst (.cons (.i 2147483647) (.cons (.i 2147483629) (.cons (.i 2147483587) (.cons (.i 2147483579) (.cons (.i 2147483563) (.cons (.i 2147483549) (.cons (.i 2147483543) (.cons (.i 2147483497) .nil)))))))))) (
    .cons (.asg (.n 6) (.bin .mod (.bin .add (.bin .add (.sub (.v 0) (.s "small")) (.bin .mul (.i 7919) (.v 2))) (.i 17)) (.sub (.v 5) (.bin .mod (.v 2) (.i 8))))) (
    .cons (.asg (.n 6) (.bin .mod (.bin .add (.bin .mul (.v 6) (.bin .add (.i 48271) (.bin .mul (.i 2) (.v 2)))) (.bin .mul (.i 104729) (.v 2))) (.sub (.v 5) (.bin .mod (.v 2) (.i 8))))) (
    .cons (.ret (.bin .mod (.bin .fdiv (.bin .mod (.bin .mul (.bin .mul (.v 6) (.v 6)) (.v 6)) (.sub (.v 5) (.bin .mod (.v 2) (.i 8)))) (.i 7)) (.v 1))) .nil))))
def f_draw : Fn :=
  { ps := 2, n := 7, prot := [0, 1], body := (
    .cons (.asg (.n 2) (.sub (.v 0) (.s "at"))) (
    .cons (.seti (.v 0) (.s "at") (.bin .add (.v 2) (.i 1))) (
    .cons (.iff (.cmp .ne (.sub (.v 0) (.s "great")) (.lst .nil)) (
     .cons (.asg (.n 3) (.bin .mod (.v 2) (.bi .len (.cons (.sub (.v 0) (.s "great")) .nil)))) (
     .cons (.asg (.n 4) (.sub (.sub (.v 0) (.s "great")) (.v 3))) (
     .cons (.iff (.cmp .gt (.v 4) (.i 0)) (
      .cons (.seti (.sub (.v 0) (.s "great")) (.v 3) (.bin .fdiv (.v 4) (.v 1))) (
      .cons (.ret (.bin .mod (.v 4) (.v 1))) (.nil))) .nil) (.nil)))) .nil) f_draw_r1))) }
-- end
-- def is_node_name
def f_is_node_name : Fn :=
  { ps := 1, n := 2, prot := [0], body := (
    .cons (.iff (.or (.not (.e (.isi (.v 0) ["str"]))) (.not (.chain .le .le (.i 1) (.bi .len (.cons (.v 0) .nil)) (.g "MAX_NAME")))) (
     .cons (.ret (.tt false)) (.nil)) .nil) (
    .cons (.ret (.bi .all (.cons (.lc [1] (.n 1) (.e (.v 0)) .none (.cmp .isin (.v 1) (.g "LETTERS"))) .nil))) .nil)) }
-- end
-- def is_node
def f_is_node : Fn :=
  { ps := 1, n := 1, prot := [0], body := (
    .cons (.iff (.or (.not (.e (.isi (.v 0) ["tuple"]))) (.or (.cmp .ne (.bi .len (.cons (.v 0) .nil)) (.i 3)) (.not (.e (.call "is_node_name" (.cons (.sub (.v 0) (.i 0)) .nil)))))) (
     .cons (.ret (.tt false)) (.nil)) .nil) (
    .cons (.iff (.or (.not (.e (.isi (.sub (.v 0) (.i 1)) ["str"]))) (.cmp .notin (.sub (.v 0) (.i 1)) (.g "COLORS"))) (
     .cons (.ret (.tt false)) (.nil)) .nil) (
    .cons (.ret (.and (.call "is_integer" (.cons (.sub (.v 0) (.i 2)) .nil)) (.chain .le .le (.i 0) (.sub (.v 0) (.i 2)) (.i 3)))) .nil))) }
-- end
-- def is_edge
def f_is_edge : Fn :=
  { ps := 1, n := 2, prot := [0], body := (
    .cons (.iff (.or (.not (.e (.isi (.v 0) ["tuple"]))) (.or (.cmp .ne (.bi .len (.cons (.v 0) .nil)) (.i 3)) (.not (.e (.bi .all (.cons (.lc [1] (.n 1) (.e (.v 0)) .none (.isi (.v 1) ["str"])) .nil)))))) (
     .cons (.ret (.tt false)) (.nil)) .nil) (
    .cons (.ret (.and (.cmp .le (.sub (.v 0) (.i 0)) (.sub (.v 0) (.i 1))) (.cmp .isin (.sub (.v 0) (.i 2)) (.g "MODES")))) .nil)) }
-- end
-- def port_names
def f_port_names : Fn :=
  { ps := 1, n := 2, prot := [0], body := (
    .cons (.ret (.lc [1] (.n 1) (.rng (.cons (.v 0) .nil)) .none (.bi .str (.cons (.v 1) .nil)))) .nil) }
-- end
-- def nodes_problem
def f_nodes_problem : Fn :=
  { ps := 1, n := 3, prot := [0], body := (
    .cons (.iff (.or (.not (.e (.isi (.v 0) ["tuple"]))) (.cmp .gt (.bi .len (.cons (.v 0) .nil)) (.g "MAX_NODES"))) (
     .cons (.ret (.s "the nodes are not a tuple of at most 80 items")) (.nil)) .nil) (
    .cons (.iff (.not (.e (.bi .all (.cons (.lc [1] (.n 1) (.e (.v 0)) .none (.call "is_node" (.cons (.v 1) .nil))) .nil)))) (
     .cons (.ret (.s "a node is not a triple of a name, a color and a phase")) (.nil)) .nil) (
    .cons (.iff (.not (.e (.bi .all (.cons (.lc [1, 2] (.t (.cons (.n 1) (.cons (.n 2) .nil))) (.zip (.v 0) (.slc (.v 0) (.some (.i 1)) .none)) .none (.cmp .lt (.sub (.v 1) (.i 0)) (.sub (.v 2) (.i 0)))) .nil)))) (
     .cons (.ret (.s "the node names are not in ascending order without duplicates")) (.nil)) .nil) (
    .cons (.ret .non) .nil)))) }
-- end
-- def edges_problem
def f_edges_problem_b1 : Ss :=
  (
    .cons (.iff (.cmp .isin (.v 6) (.v 3)) (
     .cons (.augi (.v 3) (.v 6) .add (.i 1)) (.nil)) (
     .cons (.iff (.cmp .notin (.v 6) (.v 4)) (
      .cons (.ret (.s "an edge has an end that is neither a node nor a port")) (.nil)) .nil) (.nil))) (.nil))
def f_edges_problem_b2 : Ss :=
  (
    .cons (.for_ false (.n 6) (.e (.slc (.v 5) .none (.some (.i 2)))) f_edges_problem_b1) (.nil))
def f_edges_problem : Fn :=
  { ps := 3, n := 10, prot := [0, 1, 2], body := (
    .cons (.iff (.or (.not (.e (.isi (.v 2) ["tuple"]))) (.cmp .gt (.bi .len (.cons (.v 2) .nil)) (.g "MAX_EDGES"))) (
     .cons (.ret (.s "the edges are not a tuple of at most 1,500 items")) (.nil)) .nil) (
    .cons (.iff (.not (.e (.bi .all (.cons (.lc [5] (.n 5) (.e (.v 2)) .none (.call "is_edge" (.cons (.v 5) .nil))) .nil)))) (
     .cons (.ret (.s "an edge is not a triple of two names in ascending order and a mode")) (.nil)) .nil) (
    .cons (.iff (.not (.e (.bi .all (.cons (.lc [5, 9] (.t (.cons (.n 5) (.cons (.n 9) .nil))) (.zip (.v 2) (.slc (.v 2) (.some (.i 1)) .none)) .none (.cmp .le (.v 5) (.v 9))) .nil)))) (
     .cons (.ret (.s "the edges are not in ascending order")) (.nil)) .nil) (
    .cons (.asg (.n 3) (.dc [7] (.n 7) (.e (.call "port_names" (.cons (.v 0) .nil))) .none (.v 7) (.i 0))) (
    .cons (.asg (.n 4) (.dc [8] (.n 8) (.e (.v 1)) .none (.sub (.v 8) (.i 0)) (.tt true))) (
    .cons (.for_ false (.n 5) (.e (.v 2)) f_edges_problem_b2) (
    .cons (.iff (.not (.e (.bi .all (.cons (.lc [7] (.n 7) (.keys 3) .none (.cmp .eq (.sub (.v 3) (.v 7)) (.i 1))) .nil)))) (
     .cons (.ret (.s "a port does not have exactly one edge")) (.nil)) .nil) (
    .cons (.ret .non) .nil)))))))) }
-- end
-- def problem_of
def f_problem_of : Fn :=
  { ps := 1, n := 6, prot := [0], body := (
    .cons (.iff (.or (.not (.e (.isi (.v 0) ["tuple"]))) (.cmp .ne (.bi .len (.cons (.v 0) .nil)) (.i 4))) (
     .cons (.ret (.s "a diagram is a tuple of four items")) (.nil)) .nil) (
    .cons (.asg (.t (.cons (.n 1) (.cons (.n 2) (.cons (.n 3) (.cons (.n 4) .nil))))) (.v 0)) (
    .cons (.iff (.or (.not (.e (.call "is_integer" (.cons (.v 1) .nil)))) (.not (.chain .le .le (.i 0) (.v 1) (.g "MAX_PORTS")))) (
     .cons (.ret (.s "the number of ports is not an integer from 0 to 8")) (.nil)) .nil) (
    .cons (.asg (.n 5) (.call "nodes_problem" (.cons (.v 2) .nil))) (
    .cons (.iff (.cmp .is (.v 5) .non) (
     .cons (.asg (.n 5) (.call "edges_problem" (.cons (.v 1) (.cons (.v 2) (.cons (.v 3) .nil))))) (.nil)) .nil) (
    .cons (.iff (.and (.cmp .is (.v 5) .non) (.not (.e (.call "is_scalar" (.cons (.v 4) .nil))))) (
     .cons (.asg (.n 5) (.s "the last item is not a scalar")) (.nil)) .nil) (
    .cons (.ret (.mv 5)) .nil))))))) }
-- end
-- def is_diagram
def f_is_diagram : Fn :=
  { ps := 1, n := 1, prot := [0], body := (
    .cons (.ret (.cmp .is (.call "problem_of" (.cons (.v 0) .nil)) .non)) .nil) }
-- end
-- def need_diagram
def f_need_diagram : Fn :=
  { ps := 1, n := 2, prot := [0], body := (
    .cons (.asg (.n 1) (.call "problem_of" (.cons (.v 0) .nil))) (
    .cons (.iff (.cmp .isnot (.v 1) .non) (
     .cons (.rais "BadDiagram" (.v 1)) (.nil)) .nil) .nil)) }
-- end
-- def red_names
def f_red_names : Fn :=
  { ps := 1, n := 2, prot := [0], body := (
    .cons (.ret (.dc [1] (.n 1) (.e (.v 0)) (.some (.cmp .eq (.sub (.v 1) (.i 1)) (.s "red"))) (.sub (.v 1) (.i 0)) (.tt true))) .nil) }
-- end
-- def parity_of
def f_parity_of : Fn :=
  { ps := 2, n := 2, prot := [0, 1], body := (
    .cons (.ret (.bin .mod (.bin .add (.bin .add (.bi .int (.cons (.cmp .isin (.sub (.v 0) (.i 0)) (.v 1)) .nil)) (.bi .int (.cons (.cmp .isin (.sub (.v 0) (.i 1)) (.v 1)) .nil))) (.bi .int (.cons (.cmp .eq (.sub (.v 0) (.i 2)) (.s "crossed")) .nil))) (.i 2))) .nil) }
-- end
-- def edge_parity
def f_edge_parity : Fn :=
  { ps := 2, n := 2, prot := [0, 1], body := (
    .cons (.ex (.call "need_diagram" (.cons (.v 0) .nil))) (
    .cons (.iff (.cmp .notin (.v 1) (.sub (.v 0) (.i 2))) (
     .cons (.rais "NoEdge" (.v 1)) (.nil)) .nil) (
    .cons (.ret (.call "parity_of" (.cons (.v 1) (.cons (.call "red_names" (.cons (.sub (.v 0) (.i 1)) .nil)) .nil)))) .nil))) }
-- end
-- def names
def f_names : Fn :=
  { ps := 2, n := 8, prot := [0, 1], body := (
    .cons (.asg (.t (.cons (.n 2) (.cons (.n 3) (.cons (.n 4) .nil)))) (.tup (.cons (.s "abcdefghijklmnopqrstuvwxyz") (.cons (.call "_law_draw" (.cons (.v 0) (.cons (.i 26) .nil))) (.cons (.call "_law_draw" (.cons (.v 0) (.cons (.i 8) .nil))) .nil))))) (
    .cons (.asg (.n 5) (.mr .join (.s "") (.cons (.lc [7] (.n 7) (.rng (.cons (.v 4) .nil)) .none (.sub (.v 2) (.call "_law_draw" (.cons (.v 0) (.cons (.i 26) .nil))))) .nil))) (
    .cons (.asg (.n 6) (.sub (.lst (.cons (.i 1) (.cons (.i 3) (.cons (.i 5) (.cons (.i 7) (.cons (.i 9) (.cons (.i 11) (.cons (.i 15) (.cons (.i 17) .nil))))))))) (.call "_law_draw" (.cons (.v 0) (.cons (.i 8) .nil))))) (
    .cons (.ret (.lc [7] (.n 7) (.rng (.cons (.v 1) .nil)) .none (.bin .add (.v 5) (.sub (.v 2) (.bin .mod (.bin .add (.v 3) (.bin .mul (.v 6) (.v 7))) (.i 26)))))) .nil)))) }
-- end
-- def ledge
def f_ledge : Fn :=
  { ps := 2, n := 2, prot := [0, 1], body := (
    .cons (.ret (.bin .add (.bi .tuple (.cons (.bi .sorted (.cons (.v 1) .nil)) .nil)) (.tup (.cons (.sub (.lst (.cons (.s "crossed") (.cons (.s "plain") .nil))) (.call "_law_draw" (.cons (.v 0) (.cons (.i 2) .nil)))) .nil)))) .nil) }
-- end
-- def ldiagram
def f_ldiagram_t1 : C :=
  (.cmp .ne (.v 4) (.lst .nil))
def f_ldiagram_w1 : Ss :=
  (
    .cons (.asg (.n 6) (.mw .pop (.v 4) (.cons (.call "_law_draw" (.cons (.v 0) (.cons (.bi .len (.cons (.v 4) .nil)) .nil))) .nil))) (
    .cons (.iff (.and (.cmp .ne (.v 4) (.lst .nil)) (.or (.cmp .eq (.v 2) (.lst .nil)) (.cmp .eq (.call "_law_draw" (.cons (.v 0) (.cons (.i 4) .nil))) (.i 0)))) (
     .cons (.ex (.mw .append (.v 5) (.cons (.call "_law_edge" (.cons (.v 0) (.cons (.lst (.cons (.v 6) (.cons (.mw .pop (.v 4) (.cons (.call "_law_draw" (.cons (.v 0) (.cons (.bi .len (.cons (.v 4) .nil)) .nil))) .nil)) .nil))) .nil))) .nil))) (.nil)) (
     .cons (.ex (.mw .append (.v 5) (.cons (.call "_law_edge" (.cons (.v 0) (.cons (.lst (.cons (.v 6) (.cons (.sub (.v 2) (.call "_law_draw" (.cons (.v 0) (.cons (.bi .len (.cons (.v 2) .nil)) .nil)))) .nil))) .nil))) .nil))) (.nil))) (.nil)))
def f_ldiagram_b1 : Ss :=
  (
    .cons (.ex (.mw .append (.v 5) (.cons (.call "_law_edge" (.cons (.v 0) (.cons (.lst (.cons (.sub (.v 2) (.call "_law_draw" (.cons (.v 0) (.cons (.bi .len (.cons (.v 2) .nil)) .nil)))) (.cons (.sub (.v 2) (.call "_law_draw" (.cons (.v 0) (.cons (.bi .len (.cons (.v 2) .nil)) .nil)))) .nil))) .nil))) .nil))) (
    .cons (.asg (.n 5) (.bin .add (.v 5) (.bin .mul (.slc (.v 5) (.some (.neg (.i 1))) .none) (.bi .int (.cons (.cmp .eq (.call "_law_draw" (.cons (.v 0) (.cons (.i 4) .nil))) (.i 0)) .nil))))) (.nil)))
def f_ldiagram_r1 : Ss :=
  (
    .cons (.for_ true (.n 7) (.rng (.cons (.ifx (.cmp .ne (.v 2) (.lst .nil)) (.call "_law_draw" (.cons (.v 0) (.cons (.i 9) .nil))) (.i 0)) .nil)) f_ldiagram_b1) (
    .cons (.ret (.tup (.cons (.v 1) (.cons (.bi .tuple (.cons (.v 3) .nil)) (.cons (.bi .tuple (.cons (.bi .sorted (.cons (.v 5) .nil)) .nil)) (.cons (.sub (.lst (.cons .non (.cons (.tup (.cons (.i 0) (.cons (.i 0) .nil))) (.cons (.tup (.cons (.i 3) (.cons (.i 5) .nil))) .nil)))) (.call "_law_draw" (.cons (.v 0) (.cons (.i 3) .nil)))) .nil)))))) .nil))
def f_ldiagram_r2 : Ss :=
  (
    .cons (.wh f_ldiagram_t1 f_ldiagram_w1) f_ldiagram_r1)
def f_ldiagram : Fn :=
  { ps := 1, n := 10, prot := [0], body := (
    .cons (.par [1, 2] (.cons (.call "_law_draw" (.cons (.v 0) (.cons (.i 9) .nil))) (.cons (.bi .sorted (.cons (.call "_law_names" (.cons (.v 0) (.cons (.call "_law_draw" (.cons (.v 0) (.cons (.i 7) .nil))) .nil))) .nil)) .nil))) (
    .cons (.asg (.n 1) (.ifx (.cmp .ne (.v 2) (.lst .nil)) (.v 1) (.bin .mul (.i 2) (.bin .fdiv (.v 1) (.i 2))))) (
    .cons (.asg (.n 3) (.lc [8] (.n 8) (.e (.v 2)) .none (.tup (.cons (.v 8) (.cons (.sub (.lst (.cons (.s "green") (.cons (.s "red") .nil))) (.call "_law_draw" (.cons (.v 0) (.cons (.i 2) .nil)))) (.cons (.call "_law_draw" (.cons (.v 0) (.cons (.i 4) .nil))) .nil)))))) (
    .cons (.par [4, 5] (.cons (.lc [9] (.n 9) (.rng (.cons (.v 1) .nil)) .none (.bi .str (.cons (.v 9) .nil))) (.cons (.lst .nil) .nil))) f_ldiagram_r2)))) }
-- end
end SW

end

section
set_option maxRecDepth 100000
namespace L02
open VI
def f__law_coefficient : Fn :=
  { ps := 1, n := 4, prot := [0], body := (
    .cons (.par [1, 2, 3] (.cons (.call "_law_draw" (.cons (.v 0) (.cons (.i 5) .nil))) (.cons (.call "_law_draw" (.cons (.v 0) (.cons (.i 20) .nil))) (.cons (.call "_law_draw" (.cons (.v 0) (.cons (.bin .pow (.i 10) (.i 15)) .nil))) .nil)))) (
    .cons (.ret (.sub (.lst (.cons (.i 0) (.cons (.v 2) (.cons (.bin .sub (.i 0) (.v 2)) (.cons (.bin .add (.bin .pow (.i 10) (.i 60)) (.v 3)) (.cons (.bin .sub (.i 0) (.v 3)) .nil)))))) (.v 1))) .nil)) }
def f__law_candidate : Fn :=
  { ps := 1, n := 6, prot := [0], body := (
    .cons (.asg (.t (.cons (.n 1) (.cons (.n 2) (.cons (.n 3) .nil)))) (.tup (.cons (.bin .add (.i 1) (.call "_law_draw" (.cons (.v 0) (.cons (.i 2) .nil)))) (.cons (.call "_law_draw" (.cons (.v 0) (.cons (.i 6) .nil))) (.cons (.call "_law_draw" (.cons (.v 0) (.cons (.i 30) .nil))) .nil))))) (
    .cons (.asg (.n 4) (.lc [5] (.n 5) (.rng (.cons (.i 4) .nil)) .none (.bin .mul (.v 1) (.call "_law_coefficient" (.cons (.v 0) .nil))))) (
    .cons (.ret (.bi .tuple (.cons (.bin .add (.v 4) (.lst (.cons (.sub (.lst (.cons (.i 0) (.cons (.i 0) (.cons (.i 1) (.cons (.v 3) (.cons (.i 4000) (.cons (.i 4001) .nil))))))) (.v 2)) .nil))) .nil))) .nil))) }
def f__law_scalar : Fn :=
  { ps := 1, n := 4, prot := [0], body := (
    .cons (.par [1, 2, 3] (.cons (.call "_law_draw" (.cons (.v 0) (.cons (.i 8) .nil))) (.cons (.call "_law_draw" (.cons (.v 0) (.cons (.i 10) .nil))) (.cons (.call "_law_draw" (.cons (.v 0) (.cons (.i 2001) .nil))) .nil)))) (
    .cons (.ret (.tup (.cons (.sub (.lst (.cons (.i 0) (.cons (.i 2000) (.cons (.i 2001) (.cons (.bin .sub (.i 0) (.i 2000)) (.cons (.bin .sub (.i 0) (.i 2001)) (.cons (.v 3) (.cons (.bin .sub (.i 0) (.v 3)) (.cons (.v 2) .nil))))))))) (.v 1)) (.cons (.v 2) .nil)))) .nil)) }
def f__law_odd_item : Fn :=
  { ps := 1, n := 2, prot := [0], body := (
    .cons (.asg (.n 1) (.lst (.cons .non (.cons (.tt true) (.cons (.tt false) (.cons (.s "0") (.cons (.s "") (.cons (.tup .nil) (.cons (.tup (.cons (.i 1) .nil)) (.cons (.lst .nil) (.cons (.dnew false) (.cons (.bin .pow (.i 10) (.i 40)) (.cons (.bin .sub (.i 0) (.i 1)) (.cons (.i 8) (.cons (.tup (.cons (.s "a") .nil)) (.cons (.lst (.cons (.i 1) .nil)) .nil)))))))))))))))) (
    .cons (.ret (.sub (.v 1) (.call "_law_draw" (.cons (.v 0) (.cons (.bi .len (.cons (.v 1) .nil)) .nil))))) .nil)) }
def f__law_bent : Fn :=
  { ps := 2, n := 6, prot := [0, 1], body := (
    .cons (.par [2, 3, 4] (.cons (.call "_law_draw" (.cons (.v 0) (.cons (.i 6) .nil))) (.cons (.bin .mod (.call "_law_draw" (.cons (.v 0) (.cons (.i 5) .nil))) (.bi .len (.cons (.v 1) .nil))) (.cons (.call "_law_odd_item" (.cons (.v 0) .nil)) .nil)))) (
    .cons (.asg (.n 5) (.lst (.cons (.bin .add (.bin .add (.slc (.v 1) .none (.some (.v 3))) (.tup (.cons (.v 4) .nil))) (.slc (.v 1) (.some (.bin .add (.v 3) (.i 1))) .none)) (.cons (.bin .add (.slc (.v 1) .none (.some (.v 3))) (.slc (.v 1) (.some (.bin .add (.v 3) (.i 1))) .none)) (.cons (.bin .add (.v 1) (.tup (.cons (.v 4) .nil))) (.cons (.bi .list (.cons (.v 1) .nil)) (.cons (.v 4) .nil))))))) (
    .cons (.ret (.sub (.bin .add (.v 5) (.lst (.cons (.rsl (.v 1)) .nil))) (.v 2))) .nil))) }
def f__law_is_number : Fn :=
  { ps := 1, n := 2, prot := [0], body := (
    .cons (.iff (.or (.not (.e (.isi (.v 0) ["tuple"]))) (.cmp .ne (.bi .len (.cons (.v 0) .nil)) (.i 5))) (
     .cons (.ret (.tt false)) (.nil)) .nil) (
    .cons (.iff (.or (.cmp .ne (.lc [1] (.n 1) (.e (.v 0)) (.some (.not (.e (.call "_law_is_integer" (.cons (.v 1) .nil))))) (.v 1)) (.lst .nil)) (.or (.cmp .lt (.sub (.v 0) (.i 4)) (.i 0)) (.cmp .gt (.sub (.v 0) (.i 4)) (.i 4000)))) (
     .cons (.ret (.tt false)) (.nil)) .nil) (
    .cons (.ret (.or (.cmp .eq (.sub (.v 0) (.i 4)) (.i 0)) (.cmp .ne (.lc [1] (.n 1) (.e (.slc (.v 0) .none (.some (.i 4)))) (.some (.cmp .eq (.bin .mod (.v 1) (.i 2)) (.i 1))) (.v 1)) (.lst .nil)))) .nil))) }
def f__law_is_scalar : Fn :=
  { ps := 1, n := 2, prot := [0], body := (
    .cons (.iff (.cmp .is (.v 0) .non) (
     .cons (.ret (.tt true)) (.nil)) .nil) (
    .cons (.iff (.or (.not (.e (.isi (.v 0) ["tuple"]))) (.or (.cmp .ne (.bi .len (.cons (.v 0) .nil)) (.i 2)) (.cmp .ne (.lc [1] (.n 1) (.e (.v 0)) (.some (.not (.e (.call "_law_is_integer" (.cons (.v 1) .nil))))) (.v 1)) (.lst .nil)))) (
     .cons (.ret (.tt false)) (.nil)) .nil) (
    .cons (.ret (.and (.inr (.sub (.v 0) (.i 0)) (.cons (.bin .sub (.i 0) (.i 2000)) (.cons (.i 2001) .nil))) (.inr (.sub (.v 0) (.i 1)) (.cons (.i 8) .nil)))) .nil))) }
def f_law_b1 : Ss :=
  (
    .cons (.par [4, 5] (.cons (.call "_law_candidate" (.cons (.v 1) .nil)) (.cons (.call "_law_scalar" (.cons (.v 1) .nil)) .nil))) (
    .cons (.asg (.n 2) (.bin .add (.v 2) (.lst (.cons (.v 4) (.cons (.v 5) (.cons (.call "_law_bent" (.cons (.v 1) (.cons (.v 4) .nil))) (.cons (.call "_law_bent" (.cons (.v 1) (.cons (.v 5) .nil))) (.cons (.call "_law_odd_item" (.cons (.v 1) .nil)) .nil)))))))) (.nil)))
def f_law_b2 : Ss :=
  (
    .cons (.asg (.n 7) (.bi .repr (.cons (.v 6) .nil))) (
    .cons (.asg (.n 8) (.lst (.cons (.call "is_number" (.cons (.v 6) .nil)) (.cons (.callk "is_number" [0] (.cons (.v 6) .nil)) (.cons (.call "is_scalar" (.cons (.v 6) .nil)) (.cons (.callk "is_scalar" [0] (.cons (.v 6) .nil)) .nil)))))) (
    .cons (.asg (.n 9) (.bin .add (.bin .mul (.lst (.cons (.call "_law_is_number" (.cons (.v 6) .nil)) .nil)) (.i 2)) (.bin .mul (.lst (.cons (.call "_law_is_scalar" (.cons (.v 6) .nil)) .nil)) (.i 2)))) (
    .cons (.iff (.or (.cmp .ne (.bi .repr (.cons (.v 8) .nil)) (.bi .repr (.cons (.v 9) .nil))) (.cmp .ne (.bi .repr (.cons (.v 6) .nil)) (.v 7))) (
     .cons (.ret (.tt false)) (.nil)) .nil) (.nil)))))
def f_law : Fn :=
  { ps := 1, n := 10, prot := [0], body := (
    .cons (.asg (.n 1) (.call "_law_begun" (.cons (.v 0) .nil))) (
    .cons (.asg (.n 2) (.lst (.cons (.tup (.cons (.i 0) (.cons (.i 0) (.cons (.i 0) (.cons (.i 0) (.cons (.i 0) .nil)))))) (.cons (.tup (.cons (.i 0) (.cons (.i 0) (.cons (.i 0) (.cons (.i 0) (.cons (.i 1) .nil)))))) (.cons (.tup (.cons (.i 2) (.cons (.i 0) (.cons (.i 0) (.cons (.i 0) (.cons (.i 1) .nil)))))) (.cons (.tup (.cons (.i 2) (.cons (.i 0) (.cons (.i 0) (.cons (.i 1) (.cons (.i 1) .nil)))))) (.cons (.tup (.cons (.i 0) (.cons (.i 0) (.cons (.i 0) (.cons (.i 0) (.cons (.tt true) .nil)))))) (.cons (.tup (.cons (.i 1) (.cons (.i 0) (.cons (.i 0) (.cons (.i 0) (.cons (.i 4000) .nil)))))) .nil)))))))) (
    .cons (.asg (.n 2) (.bin .add (.v 2) (.lst (.cons (.tup (.cons (.i 2000) (.cons (.i 7) .nil))) (.cons (.tup (.cons (.bin .sub (.i 0) (.i 2000)) (.cons (.i 0) .nil))) (.cons (.tup (.cons (.i 2001) (.cons (.i 7) .nil))) (.cons (.tup (.cons (.i 2000) (.cons (.i 8) .nil))) (.cons (.tup (.cons (.i 0) (.cons (.bin .sub (.i 0) (.i 1)) .nil))) (.cons (.tup (.cons (.tt true) (.cons (.i 0) .nil))) (.cons (.tup (.cons (.i 0) (.cons (.tt false) .nil))) (.cons .non (.cons (.i 0) (.cons (.tup .nil) .nil))))))))))))) (
    .cons (.for_ false (.n 3) (.rng (.cons (.i 12) .nil)) f_law_b1) (
    .cons (.for_ false (.n 6) (.e (.v 2)) f_law_b2) (
    .cons (.ret (.tt true)) .nil)))))) }
def globs : List (String × Gv) := [("MAX_POWER", (.int 2000)), ("MAX_DENOMINATOR", (.int 4000))]
def exs : List Ecl := []
def pg : Pg := { defs := [("is_integer", SW.f_is_integer), ("is_number", SW.f_is_number), ("is_scalar", SW.f_is_scalar), ("_law_begun", SW.f_begun), ("_law_draw", SW.f_draw), ("_law_coefficient", f__law_coefficient), ("_law_candidate", f__law_candidate), ("_law_scalar", f__law_scalar), ("_law_odd_item", f__law_odd_item), ("_law_bent", f__law_bent), ("_law_is_integer", SW.f_is_integer), ("_law_is_number", f__law_is_number), ("_law_is_scalar", f__law_is_scalar), ("law", f_law)], glob := fun y => (globs.lookup y).map Gv.d, exc := exs }
end L02

end

section
/-! ViW: the evaluator by rewriting. -/
namespace VI

/-! ### how results follow one another -/
def Rs.unq {α : Type} : Rs α → Rs α
  | .ok a fr _ => .ok a fr false
  | x => x
@[simp] theorem unq_ok {α : Type} (a : α) (fr : Fr) (q : Bool) : (Rs.ok a fr q).unq = .ok a fr false := (rfl)
@[simp] theorem bind_true {α β : Type} (a : α) (fr : Fr) (f : α → Fr → Rs β) : Rs.bind (.ok a fr true) f = f a fr := by
  unfold Rs.bind; cases e : f a fr <;> simp [e]
@[simp] theorem bind_false {α β : Type} (a : α) (fr : Fr) (f : α → Fr → Rs β) : Rs.bind (.ok a fr false) f = (f a fr).unq := by
  unfold Rs.bind Rs.unq; cases e : f a fr <;> simp [e]
@[simp] theorem bind_ex {α β : Type} (c : String) (a : D) (fr : Fr) (f : α → Fr → Rs β) : Rs.bind (.ex c a fr) f = .ex c a fr := (rfl)
@[simp] theorem bind_no {α β : Type} (f : α → Fr → Rs β) : Rs.bind .no f = .no := (rfl)
theorem bind_cg {α β : Type} {x y : Rs α} {f : α → Fr → Rs β} (h : x = y) : Rs.bind x f = Rs.bind y f := by rw [h]
@[simp] theorem bindD_tmp {α β : Type} (d : D) (x : Rs α) (f : α → Fr → Rs β) : Rs.bindD (.tmp d) x f = Rs.bind x f := by
  unfold Rs.bindD; cases x <;> simp [Rv.deep]
@[simp] theorem bindD_nil {α β : Type} (i : Nat) (x : Rs α) (f : α → Fr → Rs β) : Rs.bindD (.plc i []) x f = Rs.bind x f := by
  unfold Rs.bindD; cases x <;> simp [Rv.deep]
@[simp] theorem bindD_true {α β : Type} (r : Rv) (a : α) (fr : Fr) (f : α → Fr → Rs β) : Rs.bindD r (.ok a fr true) f = f a fr := by
  unfold Rs.bindD; simp
theorem bindD_cg {α β : Type} {r : Rv} {x y : Rs α} {f : α → Fr → Rs β} (h : x = y) : Rs.bindD r x f = Rs.bindD r y f := by rw [h]
@[simp] theorem fl_ok {α : Type} (a : α) (fr : Fr) (q : Bool) (f : α → Fr → Fl) : Rs.fl (.ok a fr q) f = f a fr := (rfl)
@[simp] theorem fl_ex {α : Type} (c : String) (a : D) (fr : Fr) (f : α → Fr → Fl) : Rs.fl (.ex c a fr) f = .ex c a fr := (rfl)
theorem fl_cg {α : Type} {x y : Rs α} {f : α → Fr → Fl} (h : x = y) : Rs.fl x f = Rs.fl y f := by rw [h]
@[simp] theorem then_nx (fr : Fr) (f : Fr → Fl) : Fl.then (.nx fr) f = f fr := (rfl)
@[simp] theorem then_rt (d : D) (fr : Fr) (f : Fr → Fl) : Fl.then (.rt d fr) f = .rt d fr := (rfl)
@[simp] theorem then_bk (fr : Fr) (f : Fr → Fl) : Fl.then (.bk fr) f = .bk fr := (rfl)
@[simp] theorem then_ct (fr : Fr) (f : Fr → Fl) : Fl.then (.ct fr) f = .ct fr := (rfl)
@[simp] theorem then_ex (c : String) (d : D) (fr : Fr) (f : Fr → Fl) : Fl.then (.ex c d fr) f = .ex c d fr := (rfl)
theorem then_cg {x y : Fl} {f : Fr → Fl} (h : x = y) : Fl.then x f = Fl.then y f := by rw [h]
@[simp] theorem done_none (xs : List D) (x : Fl) : Fl.done ⟨xs, none⟩ x = x := by cases x <;> rfl
@[simp] theorem wdone_none (xs : List D) (fr : Fr) : Wk.done ⟨xs, none⟩ fr = fr := (rfl)
@[simp] theorem wdone_some (xs : List D) (i : Nat) (d : D) (fr : Fr) : Wk.done ⟨xs, some (i, d)⟩ fr = fr.set i (some d) := (rfl)
@[simp] theorem prot_none (xs : List D) : Wk.prot ⟨xs, none⟩ = [] := (rfl)
@[simp] theorem prot_some (xs : List D) (i : Nat) (d : D) : Wk.prot ⟨xs, some (i, d)⟩ = [i] := (rfl)

/-! ### slots, places -/
@[simp] theorem slot_0 (o : Option D) (fr : Fr) : slot (o :: fr) 0 = o := by cases o <;> rfl
@[simp] theorem slot_s (o : Option D) (fr : Fr) (n : Nat) : slot (o :: fr) (n + 1) = slot fr n := (rfl)
@[simp] theorem slot_nil (n : Nat) : slot [] n = none := by cases n <;> rfl
@[simp] theorem val_tmp (d : D) (fr : Fr) : (Rv.tmp d).val fr = some d := (rfl)
@[simp] theorem val_plc (x : Nat) (p : List Sp1) (fr : Fr) : (Rv.plc x p).val fr = match slot fr x with | some d => d.get p | none => none := (rfl)
@[simp] theorem get_nil (d : D) : d.get [] = some d := by cases d <;> rfl
@[simp] theorem get_cons (d : D) (p : Sp1) (ps : List Sp1) : d.get (p :: ps) = match d.step p with | some e => e.get ps | none => none := by cases d <;> rfl
@[simp] theorem put_nil (d x : D) : d.put [] x = x := by cases d <;> rfl
@[simp] theorem put_cons (d : D) (p : Sp1) (ps : List Sp1) (x : D) : d.put (p :: ps) x = match d.step p with | some e => d.put1 p (e.put ps x) | none => d := by cases d <;> rfl
@[simp] theorem norm_tmp (d : D) (fr : Fr) : (Rv.tmp d).norm fr = .ok (.tmp d) fr true := (rfl)
@[simp] theorem norm_plc (x : Nat) (p : List Sp1) (fr : Fr) : (Rv.plc x p).norm fr = match (Rv.plc x p).val fr with
    | some d => if d.pure then .ok (.tmp d) fr true else .ok (.plc x p) fr true
    | none => .no := (rfl)
@[simp] theorem own_tmp (d : D) (fr : Fr) : (Rv.tmp d).own fr = .ok d fr true := (rfl)
@[simp] theorem own_plc (x : Nat) (p : List Sp1) (fr : Fr) : (Rv.plc x p).own fr = match (Rv.plc x p).val fr with
    | some d => if d.pure then (if p.isEmpty then .ok d fr true else .no) else freeze x p fr
    | none => .no := (rfl)
@[simp] theorem view_tmp (d : D) (fr : Fr) : (Rv.tmp d).view fr = if d.cpure then .ok d fr true else if d.frz.pure then .ok d.frz fr true else .no := (rfl)
@[simp] theorem view_plc (x : Nat) (p : List Sp1) (fr : Fr) : (Rv.plc x p).view fr = match (Rv.plc x p).val fr with
    | some d => if d.pure && !p.isEmpty then .no else if d.cpure then .ok d fr true else freeze x p fr
    | none => .no := (rfl)
@[simp] theorem look_tmp (d : D) (fr : Fr) : (Rv.tmp d).look fr = .ok d fr true := (rfl)
@[simp] theorem look_plc (x : Nat) (p : List Sp1) (fr : Fr) : (Rv.plc x p).look fr = match (Rv.plc x p).val fr with
    | some d => if d.pure && !p.isEmpty then .no else .ok d fr true
    | none => .no := (rfl)
@[simp] theorem freeze_def (x : Nat) (p : List Sp1) (fr : Fr) : freeze x p fr = match slot fr x with
  | some d => match d.get p with
    | some e => if e.frz.pure then .ok e.frz (fr.set x (some (d.put p e.frz))) false else .no
    | none => .no
  | none => .no := (rfl)
@[simp] theorem deep_tmp (d : D) : (Rv.tmp d).deep = false := (rfl)
@[simp] theorem deep_nil (x : Nat) : (Rv.plc x []).deep = false := (rfl)
@[simp] theorem deep_cons (x : Nat) (p : Sp1) (ps : List Sp1) : (Rv.plc x (p :: ps)).deep = true := (rfl)

/-! ### what is pure -/
@[simp] theorem pure_non : D.non.pure = true := (rfl)
@[simp] theorem pure_bl (b : Bool) : (D.bl b).pure = true := (rfl)
@[simp] theorem pure_int (i : Int) : (D.int i).pure = true := (rfl)
@[simp] theorem pure_str (s : List Char) : (D.str s).pure = true := (rfl)
@[simp] theorem pure_rep (p : PySem.PyData) : (D.rep p).pure = true := (rfl)
@[simp] theorem pure_tup (xs : List D) : (D.tup xs).pure = pureL xs := by rw [D.pure]
@[simp] theorem pure_ktup (xs : List D) : (D.ktup xs).pure = pureL xs := by rw [D.pure]
@[simp] theorem pure_scr (xs : List D) : (D.scr xs).pure = pureL xs := by rw [D.pure]
@[simp] theorem pure_lst (m : Bool) (xs : List D) : (D.lst m xs).pure = (!m && pureL xs) := by rw [D.pure]
@[simp] theorem pure_dic (m t : Bool) (ks vs : List D) : (D.dic m t ks vs).pure = (!m && pureL vs) := by rw [D.pure]
@[simp] theorem pure_obj (c : String) (ns : List String) (vs : List D) : (D.obj c ns vs).pure = false := by rw [D.pure]
@[simp] theorem pureL_nil : pureL [] = true := (rfl)
@[simp] theorem pureL_cons (d : D) (ds : List D) : pureL (d :: ds) = (d.pure && pureL ds) := by rw [pureL]
theorem pureL_iff {ds : List D} : pureL ds = true ↔ ∀ d ∈ ds, d.pure = true := by
  induction ds with
  | nil => simp
  | cons d ds ih => simp [ih]
@[simp] theorem pureL_app (xs ys : List D) : pureL (xs ++ ys) = (pureL xs && pureL ys) := by
  induction xs with
  | nil => simp
  | cons x xs ih => simp [ih, Bool.and_assoc]
@[simp] theorem pureL_ints (is : List Int) : pureL (is.map D.int) = true := by
  induction is with
  | nil => rfl
  | cons i is ih => simp [ih]
@[simp] theorem pureL_map {α : Type} (f : α → D) (h : ∀ a, (f a).pure = true) (l : List α) : pureL (l.map f) = true := pureL_iff.mpr fun d m => by
  obtain ⟨a, _, rfl⟩ := List.mem_map.mp m
  exact h a
@[simp] theorem cpure_non : D.non.cpure = true := (rfl)
@[simp] theorem cpure_bl (b : Bool) : (D.bl b).cpure = true := (rfl)
@[simp] theorem cpure_int (i : Int) : (D.int i).cpure = true := (rfl)
@[simp] theorem cpure_str (s : List Char) : (D.str s).cpure = true := (rfl)
@[simp] theorem cpure_rep (p : PySem.PyData) : (D.rep p).cpure = true := (rfl)
@[simp] theorem cpure_tup (xs : List D) : (D.tup xs).cpure = pureL xs := (rfl)
@[simp] theorem cpure_ktup (xs : List D) : (D.ktup xs).cpure = pureL xs := (rfl)
@[simp] theorem cpure_lst (m : Bool) (xs : List D) : (D.lst m xs).cpure = pureL xs := (rfl)
@[simp] theorem cpure_scr (xs : List D) : (D.scr xs).cpure = pureL xs := (rfl)
@[simp] theorem cpure_dic (m t : Bool) (ks vs : List D) : (D.dic m t ks vs).cpure = pureL vs := (rfl)
@[simp] theorem cpure_obj (c : String) (ns : List String) (vs : List D) : (D.obj c ns vs).cpure = false := (rfl)
@[simp] theorem frz_non : D.non.frz = .non := (rfl)
@[simp] theorem frz_bl (b : Bool) : (D.bl b).frz = .bl b := (rfl)
@[simp] theorem frz_int (i : Int) : (D.int i).frz = .int i := (rfl)
@[simp] theorem frz_str (s : List Char) : (D.str s).frz = .str s := (rfl)
@[simp] theorem frz_rep (p : PySem.PyData) : (D.rep p).frz = .rep p := (rfl)
@[simp] theorem frz_tup (xs : List D) : (D.tup xs).frz = .tup (frzL xs) := by rw [D.frz]
@[simp] theorem frz_ktup (xs : List D) : (D.ktup xs).frz = .ktup xs := by rw [D.frz]
@[simp] theorem frz_scr (xs : List D) : (D.scr xs).frz = .scr xs := by rw [D.frz]
@[simp] theorem frz_lst (m : Bool) (xs : List D) : (D.lst m xs).frz = .lst false (frzL xs) := by rw [D.frz]
@[simp] theorem frz_dic (m t : Bool) (ks vs : List D) : (D.dic m t ks vs).frz = .dic false t ks (frzL vs) := by rw [D.frz]
@[simp] theorem frzL_nil : frzL [] = [] := (rfl)
@[simp] theorem frzL_cons (d : D) (ds : List D) : frzL (d :: ds) = d.frz :: frzL ds := by rw [frzL]
@[simp] theorem frzL_ints (is : List Int) : frzL (is.map D.int) = is.map D.int := by
  induction is with
  | nil => rfl
  | cons i is ih => simp [ih]
@[simp] theorem frzL_app (xs ys : List D) : frzL (xs ++ ys) = frzL xs ++ frzL ys := by
  induction xs with
  | nil => simp
  | cons x xs ih => simp [ih]

/-! ### steps into data -/
@[simp] theorem step_tup (xs : List D) (n : Nat) : (D.tup xs).step (.ix n) = xs[n]? := (rfl)
@[simp] theorem step_lst (m : Bool) (xs : List D) (n : Nat) : (D.lst m xs).step (.ix n) = xs[n]? := (rfl)
@[simp] theorem step_scr (xs : List D) (n : Nat) : (D.scr xs).step (.ix n) = xs[n]? := (rfl)
@[simp] theorem step_ktup (xs : List D) (n : Nat) : (D.ktup xs).step (.ix n) = xs[n]? := (rfl)
@[simp] theorem step_dic (m t : Bool) (ks vs : List D) (k : D) : (D.dic m t ks vs).step (.ky k) = dfind k ks vs := (rfl)
@[simp] theorem step_obj (c : String) (ns : List String) (vs : List D) (f : String) : (D.obj c ns vs).step (.fd f) = ofind f ns vs := (rfl)
@[simp] theorem put1_lst (m : Bool) (xs : List D) (n : Nat) (x : D) : (D.lst m xs).put1 (.ix n) x = .lst m (xs.set n x) := (rfl)
@[simp] theorem put1_tup (xs : List D) (n : Nat) (x : D) : (D.tup xs).put1 (.ix n) x = .tup (xs.set n x) := (rfl)
@[simp] theorem put1_dic (m t : Bool) (ks vs : List D) (k x : D) : (D.dic m t ks vs).put1 (.ky k) x = .dic m t ks (dset1 k x ks vs) := (rfl)
@[simp] theorem put1_obj (c : String) (ns : List String) (vs : List D) (f : String) (x : D) : (D.obj c ns vs).put1 (.fd f) x = .obj c ns (oputV f x ns vs) := (rfl)
@[simp] theorem dfind_cons (k k' v : D) (ks vs : List D) : dfind k (k' :: ks) (v :: vs) = if keq k' k then some v else dfind k ks vs := (rfl)
@[simp] theorem dfind_nil (k : D) (vs : List D) : dfind k [] vs = none := (rfl)
@[simp] theorem dset1_cons (k x k' v : D) (ks vs : List D) : dset1 k x (k' :: ks) (v :: vs) = if keq k' k then x :: vs else v :: dset1 k x ks vs := (rfl)
@[simp] theorem dputV_cons (k x k' v : D) (ks vs : List D) : dputV k x (k' :: ks) (v :: vs) = if keq k' k then x :: vs else v :: dputV k x ks vs := (rfl)
@[simp] theorem dputV_nil (k x : D) (vs : List D) : dputV k x [] vs = [x] := by cases vs <;> rfl
@[simp] theorem dputK_cons (k k' : D) (ks : List D) : dputK k (k' :: ks) = if keq k' k then k' :: ks else k' :: dputK k ks := (rfl)
@[simp] theorem dputK_nil (k : D) : dputK k [] = [k] := (rfl)
@[simp] theorem keq_str (x y : List Char) : keq (.str x) (.str y) = decide (x = y) := (rfl)
@[simp] theorem keq_int (x y : Int) : keq (.int x) (.int y) = decide (x = y) := (rfl)
@[simp] theorem kOk_str (s : List Char) (t : Bool) : kOk (.str s) t = !t := by cases t <;> rfl
@[simp] theorem kOk_int (s : Int) (t : Bool) : kOk (.int s) t = !t := by cases t <;> rfl
@[simp] theorem scal_str (s : List Char) : (D.str s).scal = true := (rfl)
@[simp] theorem scal_int (s : Int) : (D.int s).scal = true := (rfl)
@[simp] theorem subV_tup (xs : List D) (i : Int) : subV (.tup xs) (.int i) = (ixOf xs.length i).map .ix := (rfl)
@[simp] theorem subV_lst (m : Bool) (xs : List D) (i : Int) : subV (.lst m xs) (.int i) = (ixOf xs.length i).map .ix := (rfl)
@[simp] theorem subV_scr (xs : List D) (i : Int) : subV (.scr xs) (.int i) = (ixOf xs.length i).map .ix := (rfl)
@[simp] theorem subV_ktup (xs : List D) (i : Int) : subV (.ktup xs) (.int i) = (ixOf xs.length i).map .ix := (rfl)
@[simp] theorem subV_dic (m t : Bool) (ks vs : List D) (k : D) : subV (.dic m t ks vs) k = if kOk k t then some (.ky k) else none := by cases k <;> rfl
theorem ixOf_nat {n : Nat} {i : Int} (h0 : 0 ≤ i) (h1 : i < n) : ixOf n i = some i.toNat := by simp [ixOf, h0, h1]
@[simp] theorem ixOf_lit (n k : Nat) (h : k < n) : ixOf n (k : Int) = some k := by
  rw [ixOf_nat (by omega) (by omega)]; rfl
@[simp] theorem partR_def (r : Rv) (s : Sp1) (e : D) : partR r s e = if e.pure then .tmp e else match r with
  | .tmp _ => .tmp e
  | .plc x p => .plc x (p ++ [s]) := (rfl)
@[simp] theorem subR_str (r : Rv) (s : List Char) (i : Int) (fr : Fr) : subR r (.str s) (.int i) fr = match strAt s i with
    | some e => .ok (.tmp e) fr true
    | none => .no := (rfl)
@[simp] theorem subR_tup (r : Rv) (xs : List D) (k : D) (fr : Fr) : subR r (.tup xs) k fr = match subV (.tup xs) k with
    | some s => (match (D.tup xs).step s with
      | some e => .ok (partR r s e) fr true
      | none => .no)
    | none => .no := by cases k <;> rfl
@[simp] theorem subR_lst (r : Rv) (m : Bool) (xs : List D) (k : D) (fr : Fr) : subR r (.lst m xs) k fr = match subV (.lst m xs) k with
    | some s => (match (D.lst m xs).step s with
      | some e => .ok (partR r s e) fr true
      | none => .no)
    | none => .no := by cases k <;> rfl
@[simp] theorem subR_scr (r : Rv) (xs : List D) (k : D) (fr : Fr) : subR r (.scr xs) k fr = match subV (.scr xs) k with
    | some s => (match (D.scr xs).step s with
      | some e => .ok (partR r s e) fr true
      | none => .no)
    | none => .no := by cases k <;> rfl
@[simp] theorem subR_ktup (r : Rv) (xs : List D) (k : D) (fr : Fr) : subR r (.ktup xs) k fr = match subV (.ktup xs) k with
    | some s => (match (D.ktup xs).step s with
      | some e => .ok (partR r s e) fr true
      | none => .no)
    | none => .no := by cases k <;> rfl
@[simp] theorem subR_dic (r : Rv) (m t : Bool) (ks vs : List D) (k : D) (fr : Fr) : subR r (.dic m t ks vs) k fr = match subV (.dic m t ks vs) k with
    | some s => (match (D.dic m t ks vs).step s with
      | some e => .ok (partR r s e) fr true
      | none => .no)
    | none => .no := by cases k <;> rfl
end VI

end

section
/-! ViX: operators by rewriting. -/
namespace VI
section
variable (i j : Int) (x y : List Char) (m m' : Bool) (xs ys : List D)
@[simp] theorem cmp_lt_int : dCmp .lt (.int i) (.int j) = some (decide (i < j)) := (rfl)
@[simp] theorem cmp_le_int : dCmp .le (.int i) (.int j) = some (decide (i ≤ j)) := (rfl)
@[simp] theorem cmp_gt_int : dCmp .gt (.int i) (.int j) = some (decide (j < i)) := (rfl)
@[simp] theorem cmp_ge_int : dCmp .ge (.int i) (.int j) = some (decide (j ≤ i)) := (rfl)
@[simp] theorem cmp_lt_str : dCmp .lt (.str x) (.str y) = some (strLt x y) := (rfl)
@[simp] theorem cmp_le_str : dCmp .le (.str x) (.str y) = some (!strLt y x) := (rfl)
@[simp] theorem cmp_gt_str : dCmp .gt (.str x) (.str y) = some (strLt y x) := (rfl)
theorem cmp_eq {a b : D} (h : lev 8 a = true) (h' : lev 8 b = true) : dCmp .eq a b = some (peq a b) := by
  cases a <;> first | (simp [lev] at h; done) | (cases b <;> first | (simp [lev] at h'; done) | (simp only [dCmp, h, h', Bool.and_self, if_true]))
theorem cmp_ne {a b : D} (h : lev 8 a = true) (h' : lev 8 b = true) : dCmp .ne a b = some (!peq a b) := by
  cases a <;> first | (simp [lev] at h; done) | (cases b <;> first | (simp [lev] at h'; done) | (simp only [dCmp, h, h', Bool.and_self, if_true]))
@[simp] theorem cmp_eq_int : dCmp .eq (.int i) (.int j) = some (decide (i = j)) := by rw [cmp_eq rfl rfl, peq]; rfl
@[simp] theorem cmp_ne_int : dCmp .ne (.int i) (.int j) = some (!decide (i = j)) := by rw [cmp_ne rfl rfl, peq]; rfl
@[simp] theorem cmp_eq_str : dCmp .eq (.str x) (.str y) = some (decide (x = y)) := by rw [cmp_eq rfl rfl, peq]
@[simp] theorem cmp_ne_str : dCmp .ne (.str x) (.str y) = some (!decide (x = y)) := by rw [cmp_ne rfl rfl, peq]
@[simp] theorem cmp_eq_rep (a b : PySem.PyData) : dCmp .eq (.rep a) (.rep b) = some (decide (a.shown = b.shown)) := (rfl)
@[simp] theorem cmp_ne_rep (a b : PySem.PyData) : dCmp .ne (.rep a) (.rep b) = some (!decide (a.shown = b.shown)) := (rfl)
theorem cmp_is (a : D) (h : a.seen = true) : dCmp .is a .non = some (match a with | .non => true | _ => false) := by cases a <;> first | rfl | (simp [D.seen] at h)
theorem cmp_isnot (a : D) (h : a.seen = true) : dCmp .isnot a .non = some (match a with | .non => false | _ => true) := by cases a <;> first | rfl | (simp [D.seen] at h)
@[simp] theorem is_non : dCmp .is .non .non = some true := (rfl)
@[simp] theorem is_tup : dCmp .is (.tup xs) .non = some false := (rfl)
@[simp] theorem is_lst : dCmp .is (.lst m xs) .non = some false := (rfl)
@[simp] theorem is_int : dCmp .is (.int i) .non = some false := (rfl)
@[simp] theorem is_str : dCmp .is (.str x) .non = some false := (rfl)
@[simp] theorem isnot_non : dCmp .isnot .non .non = some false := (rfl)
@[simp] theorem isnot_tup : dCmp .isnot (.tup xs) .non = some true := (rfl)
@[simp] theorem isnot_lst : dCmp .isnot (.lst m xs) .non = some true := (rfl)
@[simp] theorem isnot_int : dCmp .isnot (.int i) .non = some true := (rfl)
@[simp] theorem isnot_str : dCmp .isnot (.str x) .non = some true := (rfl)
@[simp] theorem is_bl (b : Bool) : dCmp .is (.bl b) .non = some false := (rfl)
@[simp] theorem isnot_bl (b : Bool) : dCmp .isnot (.bl b) .non = some true := (rfl)
@[simp] theorem is_dic  : dCmp .is (.dic m m' xs ys) .non = some false := (rfl)
@[simp] theorem isnot_dic  : dCmp .isnot (.dic m m' xs ys) .non = some true := (rfl)
@[simp] theorem is_rep (p : PySem.PyData) : dCmp .is (.rep p) .non = some false := (rfl)
@[simp] theorem isnot_rep (p : PySem.PyData) : dCmp .isnot (.rep p) .non = some true := (rfl)
@[simp] theorem is_scr  : dCmp .is (.scr xs) .non = some false := (rfl)
@[simp] theorem isnot_scr  : dCmp .isnot (.scr xs) .non = some true := (rfl)
@[simp] theorem is_ktup  : dCmp .is (.ktup xs) .non = some false := (rfl)
@[simp] theorem isnot_ktup  : dCmp .isnot (.ktup xs) .non = some true := (rfl)
@[simp] theorem is_exn (k f : String) (a : D) : dCmp .is (.exn k f a) .non = some false := (rfl)
@[simp] theorem isnot_exn (k f : String) (a : D) : dCmp .isnot (.exn k f a) .non = some true := (rfl)
@[simp] theorem add_int : dBin .add (.int i) (.int j) = some (.int (i + j)) := (rfl)
@[simp] theorem sub_int : dBin .sub (.int i) (.int j) = some (.int (i - j)) := (rfl)
@[simp] theorem mul_int : dBin .mul (.int i) (.int j) = if mulOk i j then some (.int (i * j)) else none := (rfl)
@[simp] theorem fdiv_int : dBin .fdiv (.int i) (.int j) = if divOk j then some (.int (i / j)) else none := (rfl)
@[simp] theorem mod_int : dBin .mod (.int i) (.int j) = if decide (0 < j) then some (.int (i % j)) else none := (rfl)
@[simp] theorem pow_int : dBin .pow (.int i) (.int j) = if powOk i j then some (.int (i ^ j.toNat)) else none := (rfl)
@[simp] theorem shl_int : dBin .shl (.int i) (.int j) = if shlOk i j then some (.int (i * 2 ^ j.toNat)) else none := (rfl)
@[simp] theorem shr_int : dBin .shr (.int i) (.int j) = if decide (0 ≤ j) then some (.int (i / 2 ^ j.toNat)) else none := (rfl)
@[simp] theorem add_str : dBin .add (.str x) (.str y) = if x.length + y.length ≤ line then some (.str (x ++ y)) else none := (rfl)
@[simp] theorem add_tup : dBin .add (.tup xs) (.tup ys) = if xs.length + ys.length ≤ line then some (.tup (xs ++ ys)) else none := (rfl)
@[simp] theorem add_lst : dBin .add (.lst m xs) (.lst m' ys) = if xs.length + ys.length ≤ line then some (.lst true (xs ++ ys)) else none := (rfl)
@[simp] theorem mul_lst : dBin .mul (.lst m xs) (.int i) = if decide (0 ≤ i) && decide (i ≤ 1000000) && decide (xs.length * i.toNat ≤ line) then some (.lst true (List.replicate i.toNat xs).flatten) else none := (rfl)
theorem mul_ok {i j : Int} (h : i.natAbs < 2 ^ 64 ∨ j.natAbs < 2 ^ 64) : mulOk i j = true := by
  simp only [mulOk, Bool.or_eq_true, decide_eq_true_eq]; exact .inl h
theorem callN_s (p : Pg) (W n : Nat) (f : String) (ds : List D) (fn : Fn) (h : p.defs.lookup f = some fn) : callN p W (n+1) f ds = runF { call := callN p W n, glob := p.glob, W := W, prot := [], exc := p.exc, callT := callTN p W n } fn ds := by
  show (match p.defs.lookup f with | some fn => runF { call := callN p W n, glob := p.glob, W := W, prot := [], exc := p.exc, callT := callTN p W n } fn ds | none => _) = _
  rw [h]
@[simp] theorem truth_bl (b : Bool) : (D.bl b).truth = some b := (rfl)
@[simp] theorem truth_int : (D.int i).truth = some (decide (i ≠ 0)) := (rfl)
@[simp] theorem truth_non : D.non.truth = some false := (rfl)
@[simp] theorem truth_lst : (D.lst m xs).truth = some (!xs.isEmpty) := (rfl)
@[simp] theorem truth_tup : (D.tup xs).truth = some (!xs.isEmpty) := (rfl)
@[simp] theorem lenD_tup : lenD (.tup xs) = some xs.length := (rfl)
@[simp] theorem lenD_lst : lenD (.lst m xs) = some xs.length := (rfl)
@[simp] theorem lenD_scr : lenD (.scr xs) = some xs.length := (rfl)
@[simp] theorem lenD_ktup : lenD (.ktup xs) = some xs.length := (rfl)
@[simp] theorem line_le (n : Nat) (h : n ≤ 1000) : n ≤ line := Nat.le_trans h (by decide)
theorem lc_cg {turn : D → Fr → Rs (Option D)} {xs ys : List D} {fr fr' : Fr} (h : xs = ys) (h' : fr = fr') : lcLoop turn xs fr = lcLoop turn ys fr' := by rw [h, h']
theorem for_cg {turn : D → Fr → Fl} {xs ys : List D} {fr fr' : Fr} (h : xs = ys) (h' : fr = fr') : forLoop turn xs fr = forLoop turn ys fr' := by rw [h, h']
@[simp] theorem noEx_ok {α : Type} (a : α) (fr : Fr) (q : Bool) : noEx (.ok a fr q) = .ok a fr q := (rfl)
@[simp] theorem lc_nil (turn : D → Fr → Rs (Option D)) (fr : Fr) : lcLoop turn [] fr = .ok [] fr true := (rfl)
/-- a comprehension whose turns change nothing -/
theorem lc_map {turn : D → Fr → Rs (Option D)} {fr : Fr} (g : D → Option D) : ∀ {xs : List D}, (∀ x ∈ xs, turn x fr = .ok (g x) fr true) → lcLoop turn xs fr = .ok (xs.filterMap g) fr true
  | [], _ => rfl
  | x :: xs, h => by
    unfold lcLoop
    rw [h x (List.mem_cons_self ..), bind_true, lc_map g fun y m => h y (List.mem_cons_of_mem _ m), bind_true]
    cases e : g x <;> simp [e]
end
end VI

end

section
/-! ViX2: the evaluator by rewriting: what follows has a name, so that it is not looked into before its time. -/
namespace VI

def kOpt (o : Option D) (fr : Fr) : Rs Rv := match o with
  | some d => .ok (.tmp d) fr true
  | none => .no
@[simp] theorem kOpt_eq0 (d : D) (fr : Fr) : kOpt (some d) fr = .ok (.tmp d) fr true := (by first | exact (rfl) | (simp [kOpt]))
@[simp] theorem kOpt_eq1 (fr : Fr) : kOpt none fr = .no := (by first | exact (rfl) | (simp [kOpt]))
@[simp] theorem kOpt_ite (p : Prop) [Decidable p] (a b : Option D) (fr : Fr) : kOpt (if p then a else b) fr = if p then kOpt a fr else kOpt b fr := by split <;> rfl
def kOb (o : Option Bool) (fr : Fr) : Rs Bool := match o with
  | some d => .ok d fr true
  | none => .no
@[simp] theorem kOb_eq0 (d : Bool) (fr : Fr) : kOb (some d) fr = .ok d fr true := (by first | exact (rfl) | (simp [kOb]))
@[simp] theorem kOb_eq1 (fr : Fr) : kOb none fr = .no := (by first | exact (rfl) | (simp [kOb]))
def kOp2 (r : Rv) (x : Rs Rv) : Rs (Rv × Rv) := match x with
  | .ok r1 fr q => if r.deep && !q then .no else .ok (r, r1) fr q
  | .ex e x fr => .ex e x fr
  | .no => .no
@[simp] theorem kOp2_eq0 (r r1 : Rv) (fr : Fr) (q : Bool) : kOp2 r (.ok r1 fr q) = if r.deep && !q then .no else .ok (r, r1) fr q := (by first | exact (rfl) | (simp [kOp2]))
@[simp] theorem kOp2_eq1 (r : Rv) (e : String) (x : D) (fr : Fr) : kOp2 r (.ex e x fr) = .ex e x fr := (by first | exact (rfl) | (simp [kOp2]))
def kOp (b : Fr → Rs Rv) (r : Rv) (fr : Fr) : Rs (Rv × Rv) := kOp2 r (b fr)
@[simp] theorem kOp_eq (b : Fr → Rs Rv) (r : Rv) (fr : Fr) : kOp b r fr = kOp2 r (b fr) := (rfl)
def kBin3 (o : O2) (x : D) (y : D) (fr : Fr) : Rs Rv := kOpt (dBin o x y) fr
@[simp] theorem kBin3_eq (o : O2) (x : D) (y : D) (fr : Fr) : kBin3 o x y fr = kOpt (dBin o x y) fr := (rfl)
def kBin2 (o : O2) (r : Rv) (x : D) (fr : Fr) : Rs Rv := (r.view fr).bind (kBin3 o x)
@[simp] theorem kBin2_eq (o : O2) (r : Rv) (x : D) (fr : Fr) : kBin2 o r x fr = (r.view fr).bind (kBin3 o x) := (rfl)
def kBin (o : O2) (r : Rv × Rv) (fr : Fr) : Rs Rv := (r.1.view fr).bind (kBin2 o r.2)
@[simp] theorem kBin_eq (o : O2) (r : Rv × Rv) (fr : Fr) : kBin o r fr = (r.1.view fr).bind (kBin2 o r.2) := (rfl)
def kNeg (r : Rv) (fr : Fr) : Rs Rv := match r with
  | .tmp (.int i) => .ok (.tmp (.int (-i))) fr true
  | _ => .no
@[simp] theorem kNeg_eq0 (i : Int) (fr : Fr) : kNeg (.tmp (.int i)) fr = .ok (.tmp (.int (-i))) fr true := (by first | exact (rfl) | (simp [kNeg]))
def kBl (b : Bool) (fr : Fr) : Rs Rv := .ok (.tmp (.bl b)) fr true
@[simp] theorem kBl_eq (b : Bool) (fr : Fr) : kBl b fr = .ok (.tmp (.bl b)) fr true := (rfl)
def kCmp3 (o : CO) (x : D) (y : D) (fr : Fr) : Rs Bool := kOb (dCmp o x y) fr
@[simp] theorem kCmp3_eq (o : CO) (x : D) (y : D) (fr : Fr) : kCmp3 o x y fr = kOb (dCmp o x y) fr := (rfl)
def kCmp2 (o : CO) (r : Rv) (x : D) (fr : Fr) : Rs Bool := (r.look fr).bind (kCmp3 o x)
@[simp] theorem kCmp2_eq (o : CO) (r : Rv) (x : D) (fr : Fr) : kCmp2 o r x fr = (r.look fr).bind (kCmp3 o x) := (rfl)
def kCmp (o : CO) (r : Rv × Rv) (fr : Fr) : Rs Bool := (r.1.look fr).bind (kCmp2 o r.2)
@[simp] theorem kCmp_eq (o : CO) (r : Rv × Rv) (fr : Fr) : kCmp o r fr = (r.1.look fr).bind (kCmp2 o r.2) := (rfl)
def kCh6 (o : CO) (y : D) (z : D) (fr : Fr) : Rs Bool := kOb (dCmp o y z) fr
@[simp] theorem kCh6_eq (o : CO) (y : D) (z : D) (fr : Fr) : kCh6 o y z fr = kOb (dCmp o y z) fr := (rfl)
def kCh5 (o : CO) (y : D) (r : Rv) (fr : Fr) : Rs Bool := (r.look fr).bind (kCh6 o y)
@[simp] theorem kCh5_eq (o : CO) (y : D) (r : Rv) (fr : Fr) : kCh5 o y r fr = (r.look fr).bind (kCh6 o y) := (rfl)
def kCh4 (o : CO) (d : Fr → Rs Rv) (y : D) (b : Option Bool) (fr : Fr) : Rs Bool := match b with
  | some true => (d fr).bind (kCh5 o y)
  | some false => .ok false fr true
  | none => .no
@[simp] theorem kCh4_eq0 (o : CO) (d : Fr → Rs Rv) (y : D) (b : Bool) (fr : Fr) : kCh4 o d y (some b) fr = if b then (d fr).bind (kCh5 o y) else .ok false fr true := (by cases b <;> rfl)
def kCh3 (o : CO) (p : CO) (d : Fr → Rs Rv) (x : D) (y : D) (fr : Fr) : Rs Bool := if y.pure then kCh4 p d y (dCmp o x y) fr else .no
@[simp] theorem kCh3_eq (o : CO) (p : CO) (d : Fr → Rs Rv) (x : D) (y : D) (fr : Fr) : kCh3 o p d x y fr = if y.pure then kCh4 p d y (dCmp o x y) fr else .no := (rfl)
def kCh2 (o : CO) (p : CO) (d : Fr → Rs Rv) (r : Rv) (x : D) (fr : Fr) : Rs Bool := (r.look fr).bind (kCh3 o p d x)
@[simp] theorem kCh2_eq (o : CO) (p : CO) (d : Fr → Rs Rv) (r : Rv) (x : D) (fr : Fr) : kCh2 o p d r x fr = (r.look fr).bind (kCh3 o p d x) := (rfl)
def kCh (o : CO) (p : CO) (d : Fr → Rs Rv) (r : Rv × Rv) (fr : Fr) : Rs Bool := (r.1.look fr).bind (kCh2 o p d r.2)
@[simp] theorem kCh_eq (o : CO) (p : CO) (d : Fr → Rs Rv) (r : Rv × Rv) (fr : Fr) : kCh o p d r fr = (r.1.look fr).bind (kCh2 o p d r.2) := (rfl)
def kNot (r : Rv) (fr : Fr) : Rs Rv := match r with
  | .tmp (.bl b) => .ok (.tmp (.bl (!b))) fr true
  | _ => .no
@[simp] theorem kNot_eq0 (b : Bool) (fr : Fr) : kNot (.tmp (.bl b)) fr = .ok (.tmp (.bl (!b))) fr true := (by first | exact (rfl) | (simp [kNot]))
def kAnd (x : Fr → Rs Rv) (r : Rv) (fr : Fr) : Rs Rv := andK r (x fr) fr
@[simp] theorem kAnd_eq0 (x : Fr → Rs Rv) (b : Bool) (fr : Fr) : kAnd x (.tmp (.bl b)) fr = if b then x fr else .ok (.tmp (.bl false)) fr true := (by cases b <;> rfl)
def kOr (x : Fr → Rs Rv) (r : Rv) (fr : Fr) : Rs Rv := orK r (x fr) fr
@[simp] theorem kOr_eq0 (x : Fr → Rs Rv) (b : Bool) (fr : Fr) : kOr x (.tmp (.bl b)) fr = if b then .ok (.tmp (.bl true)) fr true else x fr := (by cases b <;> rfl)
def kIf (x : Fr → Rs Rv) (y : Fr → Rs Rv) (k : Bool) (fr : Fr) : Rs Rv := if k then x fr else y fr
@[simp] theorem kIf_eq (x : Fr → Rs Rv) (y : Fr → Rs Rv) (k : Bool) (fr : Fr) : kIf x y k fr = if k then x fr else y fr := (rfl)
def kTup2 (ds : List D) (fr : Fr) : Rs Rv := if ds.length ≤ line then .ok (.tmp (.tup ds)) fr true else .no
@[simp] theorem kTup2_eq (ds : List D) (fr : Fr) : kTup2 ds fr = if ds.length ≤ line then .ok (.tmp (.tup ds)) fr true else .no := (rfl)
def kTup (rs : List Rv) (fr : Fr) : Rs Rv := (owns rs fr).bind kTup2
@[simp] theorem kTup_eq (rs : List Rv) (fr : Fr) : kTup rs fr = (owns rs fr).bind kTup2 := (rfl)
def kLst2 (ds : List D) (fr : Fr) : Rs Rv := if ds.length ≤ line then .ok (.tmp (.lst true ds)) fr true else .no
@[simp] theorem kLst2_eq (ds : List D) (fr : Fr) : kLst2 ds fr = if ds.length ≤ line then .ok (.tmp (.lst true ds)) fr true else .no := (rfl)
def kLst (rs : List Rv) (fr : Fr) : Rs Rv := (owns rs fr).bind kLst2
@[simp] theorem kLst_eq (rs : List Rv) (fr : Fr) : kLst rs fr = (owns rs fr).bind kLst2 := (rfl)
def kDic (p : List D × List D) (fr : Fr) : Rs Rv := .ok (.tmp (.dic true false p.1 p.2)) fr true
@[simp] theorem kDic_eq (p : List D × List D) (fr : Fr) : kDic p fr = .ok (.tmp (.dic true false p.1 p.2)) fr true := (rfl)
def kSub3 (r : Rv) (d : D) (k : D) (fr : Fr) : Rs Rv := subR r d k fr
@[simp] theorem kSub3_eq (r : Rv) (d : D) (k : D) (fr : Fr) : kSub3 r d k fr = subR r d k fr := (rfl)
def kSub2 (r : Rv × Rv) (d : D) (fr : Fr) : Rs Rv := (r.2.look fr).bind (kSub3 r.1 d)
@[simp] theorem kSub2_eq (r : Rv × Rv) (d : D) (fr : Fr) : kSub2 r d fr = (r.2.look fr).bind (kSub3 r.1 d) := (rfl)
def kSub (r : Rv × Rv) (fr : Fr) : Rs Rv := (r.1.look fr).bind (kSub2 r)
@[simp] theorem kSub_eq (r : Rv × Rv) (fr : Fr) : kSub r fr = (r.1.look fr).bind (kSub2 r) := (rfl)
def kSlc3 (lh : Option Int × Option Int) (d : D) (fr : Fr) : Rs Rv := kOpt (sliceV d lh.1 lh.2) fr
@[simp] theorem kSlc3_eq (lh : Option Int × Option Int) (d : D) (fr : Fr) : kSlc3 lh d fr = kOpt (sliceV d lh.1 lh.2) fr := (rfl)
def kSlc2 (r : Rv) (lh : Option Int × Option Int) (fr : Fr) : Rs Rv := (r.view fr).bind (kSlc3 lh)
@[simp] theorem kSlc2_eq (r : Rv) (lh : Option Int × Option Int) (fr : Fr) : kSlc2 r lh fr = (r.view fr).bind (kSlc3 lh) := (rfl)
def kSl2 (l : Option Int) (h : Option Int) (fr : Fr) : Rs (Option Int × Option Int) := .ok (l, h) fr true
@[simp] theorem kSl2_eq (l : Option Int) (h : Option Int) (fr : Fr) : kSl2 l h fr = .ok (l, h) fr true := (rfl)
def kSl (hi : Fr → Rs (Option Int)) (l : Option Int) (fr : Fr) : Rs (Option Int × Option Int) := (hi fr).bind (kSl2 l)
@[simp] theorem kSl_eq (hi : Fr → Rs (Option Int)) (l : Option Int) (fr : Fr) : kSl hi l fr = (hi fr).bind (kSl2 l) := (rfl)
@[simp] theorem sl2_eq (lo hi : Fr → Rs (Option Int)) (fr : Fr) : sl2 lo hi fr = (lo fr).bind (kSl hi) := (rfl)
def kSlc (lo : Fr → Rs (Option Int)) (hi : Fr → Rs (Option Int)) (r : Rv) (fr : Fr) : Rs Rv := (sl2 lo hi fr).bindD r (kSlc2 r)
@[simp] theorem kSlc_eq (lo : Fr → Rs (Option Int)) (hi : Fr → Rs (Option Int)) (r : Rv) (fr : Fr) : kSlc lo hi r fr = (sl2 lo hi fr).bindD r (kSlc2 r) := (rfl)
def kRsl2 (d : D) (fr : Fr) : Rs Rv := match d with
  | .lst _ xs => .ok (.tmp (.lst true xs.reverse)) fr true
  | .scr xs => .ok (.tmp (.lst true xs.reverse)) fr true
  | .tup xs => .ok (.tmp (.tup xs.reverse)) fr true
  | _ => .no
@[simp] theorem kRsl2_eq0 (xs : List D) (fr : Fr) : kRsl2 (.tup xs) fr = .ok (.tmp (.tup xs.reverse)) fr true := (by first | exact (rfl) | (simp [kRsl2]))
@[simp] theorem kRsl2_eq1 (m : Bool) (xs : List D) (fr : Fr) : kRsl2 (.lst m xs) fr = .ok (.tmp (.lst true xs.reverse)) fr true := (by first | exact (rfl) | (simp [kRsl2]))
@[simp] theorem kRsl2_eq2 (xs : List D) (fr : Fr) : kRsl2 (.scr xs) fr = .ok (.tmp (.lst true xs.reverse)) fr true := (by first | exact (rfl) | (simp [kRsl2]))
def kRsl (r : Rv) (fr : Fr) : Rs Rv := (r.view fr).bind kRsl2
@[simp] theorem kRsl_eq (r : Rv) (fr : Fr) : kRsl r fr = (r.view fr).bind kRsl2 := (rfl)
def kCall2 (ds : List D) (xs : List (Option Nat)) (fr : Fr) (x : CR) : Rs Rv := match x with
  | .ok r outs => if outs.length = ds.length then .ok (.tmp r) (backs xs outs fr) (xs.all (·.isNone) && pureL ds) else .no
  | .ex e a outs => if outs.length = ds.length then .ex e a (backs xs outs fr) else .no
  | .no => .no
@[simp] theorem kCall2_eq0 (ds : List D) (xs : List (Option Nat)) (fr : Fr) (r : D) (outs : List (Option D)) : kCall2 ds xs fr (.ok r outs) = if outs.length = ds.length then .ok (.tmp r) (backs xs outs fr) (xs.all (·.isNone) && pureL ds) else .no := (by first | exact (rfl) | (simp [kCall2]))
@[simp] theorem kCall2_eq1 (ds : List D) (xs : List (Option Nat)) (fr : Fr) (e : String) (a : D) (outs : List (Option D)) : kCall2 ds xs fr (.ex e a outs) = if outs.length = ds.length then .ex e a (backs xs outs fr) else .no := (by first | exact (rfl) | (simp [kCall2]))
def kCall (c : Cv) (f : String) (x : Option (List D × List (Option Nat) × Fr)) : Rs Rv := match x with
  | some (ds, xs, fr) => kCall2 ds xs fr (c.call f ds)
  | none => .no
@[simp] theorem kCall_eq0 (c : Cv) (f : String) (ds : List D) (xs : List (Option Nat)) (fr : Fr) : kCall c f (some (ds, xs, fr)) = kCall2 ds xs fr (c.call f ds) := (by first | exact (rfl) | (simp [kCall]))
@[simp] theorem doCall_eq (c : Cv) (f : String) (rs : List Rv) (fr : Fr) : doCall c f rs fr = kCall c f (args rs fr) := by
  unfold doCall kCall kCall2
  rfl
def kCallk (c : Cv) (f : String) (p : List Nat) (rs : List Rv) (fr : Fr) : Rs Rv := if rs.length = p.length ∧ p.isPerm (List.range p.length) = true then doCall c f (pick p rs) fr else .no
@[simp] theorem kCallk_eq (c : Cv) (f : String) (p : List Nat) (rs : List Rv) (fr : Fr) : kCallk c f p rs fr = if rs.length = p.length ∧ p.isPerm (List.range p.length) = true then doCall c f (pick p rs) fr else .no := (rfl)
def kLen2 (d : D) (fr : Fr) : Rs Rv := kOpt ((lenD d).map fun n => .int n) fr
@[simp] theorem kLen2_eq (d : D) (fr : Fr) : kLen2 d fr = kOpt ((lenD d).map fun n => .int n) fr := (rfl)
def kLen (rs : List Rv) (fr : Fr) : Rs Rv := match rs with
  | [r] => (r.look fr).bind kLen2
  | _ => .no
@[simp] theorem kLen_eq0 (r : Rv) (fr : Fr) : kLen [r] fr = (r.look fr).bind kLen2 := (by first | exact (rfl) | (simp [kLen]))
def kBi2 (f : BI) (ds : List D) (fr : Fr) : Rs Rv := kOpt (biV f ds) fr
@[simp] theorem kBi2_eq (f : BI) (ds : List D) (fr : Fr) : kBi2 f ds fr = kOpt (biV f ds) fr := (rfl)
def kBi (f : BI) (rs : List Rv) (fr : Fr) : Rs Rv := (views rs fr).bind (kBi2 f)
@[simp] theorem kBi_eq (f : BI) (rs : List Rv) (fr : Fr) : kBi f rs fr = (views rs fr).bind (kBi2 f) := (rfl)
def kIsi2 (ex : List Ecl) (ts : List String) (d : D) (fr : Fr) : Rs Rv := kOpt ((isAnyX ex ts d).map .bl) fr
@[simp] theorem kIsi2_eq (ex : List Ecl) (ts : List String) (d : D) (fr : Fr) : kIsi2 ex ts d fr = kOpt ((isAnyX ex ts d).map .bl) fr := (rfl)
def kIsi (ex : List Ecl) (ts : List String) (r : Rv) (fr : Fr) : Rs Rv := (r.look fr).bind (kIsi2 ex ts)
@[simp] theorem kIsi_eq (ex : List Ecl) (ts : List String) (r : Rv) (fr : Fr) : kIsi ex ts r fr = (r.look fr).bind (kIsi2 ex ts) := (rfl)
@[simp] theorem kInr_1 (i hi : Int) (fr : Fr) : kInr i [.tmp (.int hi)] fr = .ok (.tmp (.bl (decide (0 ≤ i ∧ i < hi)))) fr true := (rfl)
@[simp] theorem kInr_2 (i lo hi : Int) (fr : Fr) : kInr i [.tmp (.int lo), .tmp (.int hi)] fr = .ok (.tmp (.bl (decide (lo ≤ i ∧ i < hi)))) fr true := (rfl)
def kInrA (x : Fr → Rs (List Rv)) (r : Rv) (fr : Fr) : Rs Rv := match r with
  | .tmp (.int i) => (x fr).bind (kInr i)
  | _ => .no
@[simp] theorem kInrA_eq0 (x : Fr → Rs (List Rv)) (i : Int) (fr : Fr) : kInrA x (.tmp (.int i)) fr = (x fr).bind (kInr i) := (by first | exact (rfl) | (simp [kInrA]))
def kFld2 (ex : List Ecl) (f : String) (r : Rv) (d : D) (fr : Fr) : Rs Rv := match d with
  | .obj _ ns vs => match ofind f ns vs with
    | some e => .ok (partR r (.fd f) e) fr true
    | none => .no
  | .exn k g x => if g = f ∧ fldE ex k = some g then .ok (.tmp x) fr true else .no
  | _ => .no
@[simp] theorem kFld2_eq0 (ex : List Ecl) (f : String) (r : Rv) (k g : String) (x : D) (fr : Fr) : kFld2 ex f r (.exn k g x) fr = if g = f ∧ fldE ex k = some g then .ok (.tmp x) fr true else .no := (by first | exact (rfl) | (simp [kFld2]))
def kFld (ex : List Ecl) (f : String) (r : Rv) (fr : Fr) : Rs Rv := (r.look fr).bind (kFld2 ex f r)
@[simp] theorem kFld_eq (ex : List Ecl) (f : String) (r : Rv) (fr : Fr) : kFld ex f r fr = (r.look fr).bind (kFld2 ex f r) := (rfl)
def kTu4 (own : List Nat) (d : D) (fr : Fr) : Rs (Option D) := .ok (some d) (hideAll fr own) true
@[simp] theorem kTu4_eq (own : List Nat) (d : D) (fr : Fr) : kTu4 own d fr = .ok (some d) (hideAll fr own) true := (rfl)
def kTu3 (own : List Nat) (r : Rv) (fr : Fr) : Rs (Option D) := (r.own fr).bind (kTu4 own)
@[simp] theorem kTu3_eq (own : List Nat) (r : Rv) (fr : Fr) : kTu3 own r fr = (r.own fr).bind (kTu4 own) := (rfl)
def kTu2 (e : Fr → Rs Rv) (own : List Nat) (b : Bool) (fr : Fr) : Rs (Option D) := if b then (e fr).bind (kTu3 own) else .ok none (hideAll fr own) true
@[simp] theorem kTu2_eq (e : Fr → Rs Rv) (own : List Nat) (b : Bool) (fr : Fr) : kTu2 e own b fr = if b then (e fr).bind (kTu3 own) else .ok none (hideAll fr own) true := (rfl)
def kTu (t : Fr → Rs Bool) (e : Fr → Rs Rv) (own : List Nat) (x : Option Fr) : Rs (Option D) := match x with
  | some fr => (t fr).bind (kTu2 e own)
  | none => .no
@[simp] theorem kTu_eq0 (t : Fr → Rs Bool) (e : Fr → Rs Rv) (own : List Nat) (fr : Fr) : kTu t e own (some fr) = (t fr).bind (kTu2 e own) := (by first | exact (rfl) | (simp [kTu]))
def lcT (t : Fr → Rs Bool) (e : Fr → Rs Rv) (own : List Nat) (tg : T) (x : D) (fr : Fr) : Rs (Option D) := kTu t e own (setT [] tg x (hideAll fr own))
def kLc2 (w : Wk) (fr0 : Fr) (own : List Nat) (ds : List D) (fr : Fr) : Rs Rv := if ds.length ≤ line then .ok (.tmp (.lst true ds)) (w.done (backAll fr0 fr own)) true else .no
@[simp] theorem kLc2_eq (w : Wk) (fr0 : Fr) (own : List Nat) (ds : List D) (fr : Fr) : kLc2 w fr0 own ds fr = if ds.length ≤ line then .ok (.tmp (.lst true ds)) (w.done (backAll fr0 fr own)) true else .no := (rfl)
def kLc (t : Fr → Rs Bool) (e : Fr → Rs Rv) (own : List Nat) (tg : T) (w : Wk) (fr : Fr) : Rs Rv := (noEx (lcLoop (lcT t e own tg) w.items (hideAll fr own))).bind (kLc2 w fr own)
@[simp] theorem kLc_eq (t : Fr → Rs Bool) (e : Fr → Rs Rv) (own : List Nat) (tg : T) (w : Wk) (fr : Fr) : kLc t e own tg w fr = (noEx (lcLoop (lcT t e own tg) w.items (hideAll fr own))).bind (kLc2 w fr own) := (rfl)
def kMr4 (m : MR) (t : Option String) (d : D) (ds : List D) (fr : Fr) : Rs Rv := mrDo m t d ds fr
@[simp] theorem kMr4_eq (m : MR) (t : Option String) (d : D) (ds : List D) (fr : Fr) : kMr4 m t d ds fr = mrDo m t d ds fr := (rfl)
def kMr3 (m : MR) (t : Option String) (rs : List Rv) (d : D) (fr : Fr) : Rs Rv := (views rs fr).bind (kMr4 m t d)
@[simp] theorem kMr3_eq (m : MR) (t : Option String) (rs : List Rv) (d : D) (fr : Fr) : kMr3 m t rs d fr = (views rs fr).bind (kMr4 m t d) := (rfl)
def kMr2 (m : MR) (t : Option String) (r : Rv) (rs : List Rv) (fr : Fr) : Rs Rv := (r.look fr).bind (kMr3 m t rs)
@[simp] theorem kMr2_eq (m : MR) (t : Option String) (r : Rv) (rs : List Rv) (fr : Fr) : kMr2 m t r rs fr = (r.look fr).bind (kMr3 m t rs) := (rfl)
def kMr1 (m : MR) (x : Fr → Rs (List Rv)) (r : Rv) (d : D) (fr : Fr) : Rs Rv := if (mrT m d).isSome then (x fr).bindD r (kMr2 m (mrT m d) r) else .no
@[simp] theorem kMr1_eq (m : MR) (x : Fr → Rs (List Rv)) (r : Rv) (d : D) (fr : Fr) : kMr1 m x r d fr = if (mrT m d).isSome then (x fr).bindD r (kMr2 m (mrT m d) r) else .no := (rfl)
def kMr (m : MR) (x : Fr → Rs (List Rv)) (r : Rv) (fr : Fr) : Rs Rv := (r.look fr).bind (kMr1 m x r)
@[simp] theorem kMr_eq (m : MR) (x : Fr → Rs (List Rv)) (r : Rv) (fr : Fr) : kMr m x r fr = (r.look fr).bind (kMr1 m x r) := (rfl)
def kMw3 (m : MW) (t : Option String) (r : Rv) (ds : List D) (fr : Fr) : Rs Rv := mwDo m t r ds fr
@[simp] theorem kMw3_eq (m : MW) (t : Option String) (r : Rv) (ds : List D) (fr : Fr) : kMw3 m t r ds fr = mwDo m t r ds fr := (rfl)
def kMw2 (m : MW) (t : Option String) (r : Rv) (rs : List Rv) (fr : Fr) : Rs Rv := (owns rs fr).bind (kMw3 m t r)
@[simp] theorem kMw2_eq (m : MW) (t : Option String) (r : Rv) (rs : List Rv) (fr : Fr) : kMw2 m t r rs fr = (owns rs fr).bind (kMw3 m t r) := (rfl)
def kMw1 (m : MW) (x : Fr → Rs (List Rv)) (r : Rv) (d : D) (fr : Fr) : Rs Rv := if (mwT m d).isSome then (x fr).bindD r (kMw2 m (mwT m d) r) else .no
@[simp] theorem kMw1_eq (m : MW) (x : Fr → Rs (List Rv)) (r : Rv) (d : D) (fr : Fr) : kMw1 m x r d fr = if (mwT m d).isSome then (x fr).bindD r (kMw2 m (mwT m d) r) else .no := (rfl)
def kMw (m : MW) (x : Fr → Rs (List Rv)) (r : Rv) (fr : Fr) : Rs Rv := (r.look fr).bind (kMw1 m x r)
@[simp] theorem kMw_eq (m : MW) (x : Fr → Rs (List Rv)) (r : Rv) (fr : Fr) : kMw m x r fr = (r.look fr).bind (kMw1 m x r) := (rfl)
def kTd6 (own : List Nat) (k : D) (d : D) (fr : Fr) : Rs (Option (D × D)) := .ok (some (k, d)) (hideAll fr own) true
@[simp] theorem kTd6_eq (own : List Nat) (k : D) (d : D) (fr : Fr) : kTd6 own k d fr = .ok (some (k, d)) (hideAll fr own) true := (rfl)
def kTd5 (own : List Nat) (k : D) (r : Rv) (fr : Fr) : Rs (Option (D × D)) := (r.own fr).bind (kTd6 own k)
@[simp] theorem kTd5_eq (own : List Nat) (k : D) (r : Rv) (fr : Fr) : kTd5 own k r fr = (r.own fr).bind (kTd6 own k) := (rfl)
def kTd4 (e : Fr → Rs Rv) (own : List Nat) (k : D) (fr : Fr) : Rs (Option (D × D)) := (e fr).bind (kTd5 own k)
@[simp] theorem kTd4_eq (e : Fr → Rs Rv) (own : List Nat) (k : D) (fr : Fr) : kTd4 e own k fr = (e fr).bind (kTd5 own k) := (rfl)
def kTd3 (e : Fr → Rs Rv) (own : List Nat) (r : Rv) (fr : Fr) : Rs (Option (D × D)) := (r.own fr).bind (kTd4 e own)
@[simp] theorem kTd3_eq (e : Fr → Rs Rv) (own : List Nat) (r : Rv) (fr : Fr) : kTd3 e own r fr = (r.own fr).bind (kTd4 e own) := (rfl)
def kTd2 (k : Fr → Rs Rv) (e : Fr → Rs Rv) (own : List Nat) (b : Bool) (fr : Fr) : Rs (Option (D × D)) := if b then (k fr).bind (kTd3 e own) else .ok none (hideAll fr own) true
@[simp] theorem kTd2_eq (k : Fr → Rs Rv) (e : Fr → Rs Rv) (own : List Nat) (b : Bool) (fr : Fr) : kTd2 k e own b fr = if b then (k fr).bind (kTd3 e own) else .ok none (hideAll fr own) true := (rfl)
def kTd (t : Fr → Rs Bool) (k : Fr → Rs Rv) (e : Fr → Rs Rv) (own : List Nat) (x : Option Fr) : Rs (Option (D × D)) := match x with
  | some fr => (t fr).bind (kTd2 k e own)
  | none => .no
@[simp] theorem kTd_eq0 (t : Fr → Rs Bool) (k e : Fr → Rs Rv) (own : List Nat) (fr : Fr) : kTd t k e own (some fr) = (t fr).bind (kTd2 k e own) := (by first | exact (rfl) | (simp [kTd]))
def dcT (t : Fr → Rs Bool) (k e : Fr → Rs Rv) (own : List Nat) (tg : T) (x : D) (fr : Fr) : Rs (Option (D × D)) := kTd t k e own (setT [] tg x (hideAll fr own))
def kDc2 (w : Wk) (fr0 : Fr) (own : List Nat) (p : List D × List D) (fr : Fr) : Rs Rv := .ok (.tmp (.dic true false p.1 p.2)) (w.done (backAll fr0 fr own)) true
@[simp] theorem kDc2_eq (w : Wk) (fr0 : Fr) (own : List Nat) (p : List D × List D) (fr : Fr) : kDc2 w fr0 own p fr = .ok (.tmp (.dic true false p.1 p.2)) (w.done (backAll fr0 fr own)) true := (rfl)
def kDc (t : Fr → Rs Bool) (k : Fr → Rs Rv) (e : Fr → Rs Rv) (own : List Nat) (tg : T) (w : Wk) (fr : Fr) : Rs Rv := (noEx (dcLoop (dcT t k e own tg) w.items [] [] (hideAll fr own))).bind (kDc2 w fr own)
@[simp] theorem kDc_eq (t : Fr → Rs Bool) (k : Fr → Rs Rv) (e : Fr → Rs Rv) (own : List Nat) (tg : T) (w : Wk) (fr : Fr) : kDc t k e own tg w fr = (noEx (dcLoop (dcT t k e own tg) w.items [] [] (hideAll fr own))).bind (kDc2 w fr own) := (rfl)
def kEs2 (r : Rv) (x : Rs (List Rv)) : Rs (List Rv) := match x with
  | .ok rs fr q => if r.deep && !q then .no else .ok (r :: rs) fr q
  | .ex e x fr => .ex e x fr
  | .no => .no
@[simp] theorem kEs2_eq0 (r : Rv) (rs : List Rv) (fr : Fr) (q : Bool) : kEs2 r (.ok rs fr q) = if r.deep && !q then .no else .ok (r :: rs) fr q := (by first | exact (rfl) | (simp [kEs2]))
@[simp] theorem kEs2_eq1 (r : Rv) (e : String) (x : D) (fr : Fr) : kEs2 r (.ex e x fr) = .ex e x fr := (by first | exact (rfl) | (simp [kEs2]))
def kEs (x : Fr → Rs (List Rv)) (r : Rv) (fr : Fr) : Rs (List Rv) := kEs2 r (x fr)
@[simp] theorem kEs_eq (x : Fr → Rs (List Rv)) (r : Rv) (fr : Fr) : kEs x r fr = kEs2 r (x fr) := (rfl)
def kOwns2 (d : D) (ds : List D) (fr : Fr) : Rs (List D) := .ok (d :: ds) fr true
@[simp] theorem kOwns2_eq (d : D) (ds : List D) (fr : Fr) : kOwns2 d ds fr = .ok (d :: ds) fr true := (rfl)
def kOwns (rs : List Rv) (d : D) (fr : Fr) : Rs (List D) := (owns rs fr).bind (kOwns2 d)
@[simp] theorem kOwns_eq (rs : List Rv) (d : D) (fr : Fr) : kOwns rs d fr = (owns rs fr).bind (kOwns2 d) := (rfl)
def kViews (rs : List Rv) (d : D) (fr : Fr) : Rs (List D) := (views rs fr).bind (kOwns2 d)
@[simp] theorem kViews_eq (rs : List Rv) (d : D) (fr : Fr) : kViews rs d fr = (views rs fr).bind (kOwns2 d) := (rfl)
@[simp] theorem owns_nil (fr : Fr) : owns [] fr = .ok [] fr true := (rfl)
@[simp] theorem owns_cons (r : Rv) (rs : List Rv) (fr : Fr) : owns (r :: rs) fr = (r.own fr).bind (kOwns rs) := (rfl)
@[simp] theorem views_nil (fr : Fr) : views [] fr = .ok [] fr true := (rfl)
@[simp] theorem views_cons (r : Rv) (rs : List Rv) (fr : Fr) : views (r :: rs) fr = (r.view fr).bind (kViews rs) := (rfl)
def kKv (f : List D → List D → Fr → Rs (List D × List D)) (ks : List D) (vs : List D) (k : D) (d : D) (fr : Fr) : Rs (List D × List D) := if k.scal then f (dputK k ks) (dputV k d ks vs) fr else .no
@[simp] theorem kKv_eq (f : List D → List D → Fr → Rs (List D × List D)) (ks : List D) (vs : List D) (k : D) (d : D) (fr : Fr) : kKv f ks vs k d fr = if k.scal then f (dputK k ks) (dputV k d ks vs) fr else .no := (rfl)
def kKv3 (f : List D → List D → Fr → Rs (List D × List D)) (ks : List D) (vs : List D) (k : D) (r : Rv) (fr : Fr) : Rs (List D × List D) := (r.own fr).bind (kKv f ks vs k)
@[simp] theorem kKv3_eq (f : List D → List D → Fr → Rs (List D × List D)) (ks : List D) (vs : List D) (k : D) (r : Rv) (fr : Fr) : kKv3 f ks vs k r fr = (r.own fr).bind (kKv f ks vs k) := (rfl)
def kKv2 (f : List D → List D → Fr → Rs (List D × List D)) (e : Fr → Rs Rv) (ks : List D) (vs : List D) (k : D) (fr : Fr) : Rs (List D × List D) := (e fr).bind (kKv3 f ks vs k)
@[simp] theorem kKv2_eq (f : List D → List D → Fr → Rs (List D × List D)) (e : Fr → Rs Rv) (ks : List D) (vs : List D) (k : D) (fr : Fr) : kKv2 f e ks vs k fr = (e fr).bind (kKv3 f ks vs k) := (rfl)
def kKv1 (f : List D → List D → Fr → Rs (List D × List D)) (e : Fr → Rs Rv) (ks : List D) (vs : List D) (r : Rv) (fr : Fr) : Rs (List D × List D) := (r.own fr).bind (kKv2 f e ks vs)
@[simp] theorem kKv1_eq (f : List D → List D → Fr → Rs (List D × List D)) (e : Fr → Rs Rv) (ks : List D) (vs : List D) (r : Rv) (fr : Fr) : kKv1 f e ks vs r fr = (r.own fr).bind (kKv2 f e ks vs) := (rfl)
def kEo (r : Rv) (fr : Fr) : Rs (Option Int) := match r with
  | .tmp (.int i) => .ok (some i) fr true
  | _ => .no
@[simp] theorem kEo_eq0 (i : Int) (fr : Fr) : kEo (.tmp (.int i)) fr = .ok (some i) fr true := (by first | exact (rfl) | (simp [kEo]))
def kTr (d : D) (fr : Fr) : Rs Bool := kOb d.truth fr
@[simp] theorem kTr_eq (d : D) (fr : Fr) : kTr d fr = kOb d.truth fr := (rfl)
@[simp] theorem truthR_eq (r : Rv) (fr : Fr) : truthR r fr = (r.look fr).bind kTr := (rfl)
def kNotC (b : Bool) (fr : Fr) : Rs Bool := .ok (!b) fr true
@[simp] theorem kNotC_eq (b : Bool) (fr : Fr) : kNotC b fr = .ok (!b) fr true := (rfl)
def kAndC (x : Fr → Rs Bool) (k : Bool) (fr : Fr) : Rs Bool := if k then x fr else .ok false fr true
@[simp] theorem kAndC_eq (x : Fr → Rs Bool) (k : Bool) (fr : Fr) : kAndC x k fr = if k then x fr else .ok false fr true := (rfl)
def kOrC (x : Fr → Rs Bool) (k : Bool) (fr : Fr) : Rs Bool := if k then .ok true fr true else x fr
@[simp] theorem kOrC_eq (x : Fr → Rs Bool) (k : Bool) (fr : Fr) : kOrC x k fr = if k then .ok true fr true else x fr := (rfl)
def kW (r : Rv) (d : D) (x : Option (List D)) (fr : Fr) : Rs Wk := match x with
  | some xs => walk2 r d xs fr
  | none => .no
@[simp] theorem kW_eq0 (r : Rv) (d : D) (xs : List D) (fr : Fr) : kW r d (some xs) fr = walk2 r d xs fr := (by first | exact (rfl) | (simp [kW]))
def kWk (r : Rv) (f : D → Option (List D)) (d : D) (fr : Fr) : Rs Wk := kW r d (f d) fr
@[simp] theorem kWk_eq (r : Rv) (f : D → Option (List D)) (d : D) (fr : Fr) : kWk r f d fr = kW r d (f d) fr := (rfl)
@[simp] theorem walked_eq (r : Rv) (f : D → Option (List D)) (fr : Fr) : walked r f fr = (r.view fr).bind (kWk r f) := (rfl)
@[simp] theorem walk2_tmp (e d : D) (xs : List D) (fr : Fr) : walk2 (.tmp e) d xs fr = .ok ⟨xs, none⟩ fr true := (rfl)
@[simp] theorem walk2_plc (x : Nat) (p : List Sp1) (d : D) (xs : List D) (fr : Fr) : walk2 (.plc x p) d xs fr = match slot fr x with
  | some e => if d.pure then .ok ⟨xs, none⟩ fr true else .ok ⟨xs, some (x, e)⟩ (fr.set x none) true
  | none => .no := (rfl)
def kWalk (f : D → Option (List D)) (r : Rv) (fr : Fr) : Rs Wk := walked r f fr
@[simp] theorem kWalk_eq (f : D → Option (List D)) (r : Rv) (fr : Fr) : kWalk f r fr = walked r f fr := (rfl)
def kRng3 (x : Option (List D)) (fr : Fr) : Rs Wk := match x with
  | some xs => .ok ⟨xs, none⟩ fr true
  | none => .no
@[simp] theorem kRng3_eq0 (xs : List D) (fr : Fr) : kRng3 (some xs) fr = .ok ⟨xs, none⟩ fr true := (by first | exact (rfl) | (simp [kRng3]))
def kRng2 (ds : List D) (fr : Fr) : Rs Wk := kRng3 (rngV ds) fr
@[simp] theorem kRng2_eq (ds : List D) (fr : Fr) : kRng2 ds fr = kRng3 (rngV ds) fr := (rfl)
def kRng (rs : List Rv) (fr : Fr) : Rs Wk := (owns rs fr).bind kRng2
@[simp] theorem kRng_eq (rs : List Rv) (fr : Fr) : kRng rs fr = (owns rs fr).bind kRng2 := (rfl)
def kZip3 (x : D) (y : D) (fr : Fr) : Rs Wk := kRng3 (zipV x y) fr
@[simp] theorem kZip3_eq (x : D) (y : D) (fr : Fr) : kZip3 x y fr = kRng3 (zipV x y) fr := (rfl)
def kZip2 (r : Rv) (x : D) (fr : Fr) : Rs Wk := (r.own fr).bind (kZip3 x)
@[simp] theorem kZip2_eq (r : Rv) (x : D) (fr : Fr) : kZip2 r x fr = (r.own fr).bind (kZip3 x) := (rfl)
def kZip (r : Rv × Rv) (fr : Fr) : Rs Wk := (r.1.own fr).bind (kZip2 r.2)
@[simp] theorem kZip_eq (r : Rv × Rv) (fr : Fr) : kZip r fr = (r.1.own fr).bind (kZip2 r.2) := (rfl)
def kNx (x : Option Fr) : Fl := match x with
  | some fr => .nx fr
  | none => .no
@[simp] theorem kNx_eq0 (fr : Fr) : kNx (some fr) = .nx fr := (by first | exact (rfl) | (simp [kNx]))
def kAsg2 (p : List Nat) (tg : T) (d : D) (fr : Fr) : Fl := kNx (setT p tg d fr)
@[simp] theorem kAsg2_eq (p : List Nat) (tg : T) (d : D) (fr : Fr) : kAsg2 p tg d fr = kNx (setT p tg d fr) := (rfl)
def kAsg (p : List Nat) (tg : T) (r : Rv) (fr : Fr) : Fl := (r.own fr).fl (kAsg2 p tg)
@[simp] theorem kAsg_eq (p : List Nat) (tg : T) (r : Rv) (fr : Fr) : kAsg p tg r fr = (r.own fr).fl (kAsg2 p tg) := (rfl)
def kPar2 (p : List Nat) (xs : List Nat) (ds : List D) (fr : Fr) : Fl := kNx (setAll p xs ds fr)
@[simp] theorem kPar2_eq (p : List Nat) (xs : List Nat) (ds : List D) (fr : Fr) : kPar2 p xs ds fr = kNx (setAll p xs ds fr) := (rfl)
def kPar (p : List Nat) (xs : List Nat) (rs : List Rv) (fr : Fr) : Fl := (owns rs fr).fl (kPar2 p xs)
@[simp] theorem kPar_eq (p : List Nat) (xs : List Nat) (rs : List Rv) (fr : Fr) : kPar p xs rs fr = (owns rs fr).fl (kPar2 p xs) := (rfl)
def kAug4 (i : Nat) (o : Option D) (fr : Fr) : Fl := match o with
  | some z => .nx (fr.set i (some z))
  | none => .no
@[simp] theorem kAug4_eq0 (i : Nat) (z : D) (fr : Fr) : kAug4 i (some z) fr = .nx (fr.set i (some z)) := (by first | exact (rfl) | (simp [kAug4]))
def kAug3 (p : List Nat) (i : Nat) (o : O2) (y : D) (x : Option D) (fr : Fr) : Fl := match x with
  | some x => if decide (i < fr.length) && !p.contains i then kAug4 i (dAug o x y) fr else .no
  | none => .no
@[simp] theorem kAug3_eq0 (p : List Nat) (i : Nat) (o : O2) (y x : D) (fr : Fr) : kAug3 p i o y (some x) fr = if decide (i < fr.length) && !p.contains i then kAug4 i (dAug o x y) fr else .no := (by first | exact (rfl) | (simp [kAug3]))
def kAug2 (p : List Nat) (i : Nat) (o : O2) (y : D) (fr : Fr) : Fl := kAug3 p i o y (slot fr i) fr
@[simp] theorem kAug2_eq (p : List Nat) (i : Nat) (o : O2) (y : D) (fr : Fr) : kAug2 p i o y fr = kAug3 p i o y (slot fr i) fr := (rfl)
def kAug (p : List Nat) (i : Nat) (o : O2) (r : Rv) (fr : Fr) : Fl := (r.view fr).fl (kAug2 p i o)
@[simp] theorem kAug_eq (p : List Nat) (i : Nat) (o : O2) (r : Rv) (fr : Fr) : kAug p i o r fr = (r.view fr).fl (kAug2 p i o) := (rfl)
@[simp] theorem aug_add (i j : Int) : dAug .add (.int i) (.int j) = some (.int (i + j)) := (rfl)
@[simp] theorem aug_sub (i j : Int) : dAug .sub (.int i) (.int j) = some (.int (i - j)) := (rfl)
def kSet6 (o : D × Rv × D) (fr : Fr) : Fl := match o.2.1 with
  | .plc x p => setItem x p o.2.2 o.1 fr
  | .tmp _ => .no
@[simp] theorem kSet6_eq0 (d : D) (x : Nat) (p : List Sp1) (k : D) (fr : Fr) : kSet6 (d, .plc x p, k) fr = setItem x p k d fr := (by first | exact (rfl) | (simp [kSet6]))
def kSet5 (d : D) (r : Rv) (k : D) (fr : Fr) : Rs (D × Rv × D) := .ok (d, r, k) fr true
@[simp] theorem kSet5_eq (d : D) (r : Rv) (k : D) (fr : Fr) : kSet5 d r k fr = .ok (d, r, k) fr true := (rfl)
def kSet4 (d : D) (r : Rv) (rk : Rv) (fr : Fr) : Rs (D × Rv × D) := (rk.own fr).bind (kSet5 d r)
@[simp] theorem kSet4_eq (d : D) (r : Rv) (rk : Rv) (fr : Fr) : kSet4 d r rk fr = (rk.own fr).bind (kSet5 d r) := (rfl)
def kSet3 (i : Fr → Rs Rv) (d : D) (r : Rv) (fr : Fr) : Rs (D × Rv × D) := (i fr).bindD r (kSet4 d r)
@[simp] theorem kSet3_eq (i : Fr → Rs Rv) (d : D) (r : Rv) (fr : Fr) : kSet3 i d r fr = (i fr).bindD r (kSet4 d r) := (rfl)
def kSet2 (a : Fr → Rs Rv) (i : Fr → Rs Rv) (d : D) (fr : Fr) : Rs (D × Rv × D) := (a fr).bind (kSet3 i d)
@[simp] theorem kSet2_eq (a : Fr → Rs Rv) (i : Fr → Rs Rv) (d : D) (fr : Fr) : kSet2 a i d fr = (a fr).bind (kSet3 i d) := (rfl)
def kSet1 (a : Fr → Rs Rv) (i : Fr → Rs Rv) (r : Rv) (fr : Fr) : Rs (D × Rv × D) := (r.own fr).bind (kSet2 a i)
@[simp] theorem kSet1_eq (a : Fr → Rs Rv) (i : Fr → Rs Rv) (r : Rv) (fr : Fr) : kSet1 a i r fr = (r.own fr).bind (kSet2 a i) := (rfl)
def kAi7 (o : Rv × D × D) (fr : Fr) : Fl := match o.1 with
  | .plc x p => setItem x p o.2.1 o.2.2 fr
  | .tmp _ => .no
@[simp] theorem kAi7_eq0 (d : D) (x : Nat) (p : List Sp1) (k : D) (fr : Fr) : kAi7 (.plc x p, k, d) fr = setItem x p k d fr := (by first | exact (rfl) | (simp [kAi7]))
def kAi6 (r : Rv) (k : D) (z : Option D) (fr : Fr) : Rs (Rv × D × D) := match z with
  | some z => .ok (r, k, z) fr true
  | none => .no
@[simp] theorem kAi6_eq0 (r : Rv) (k z : D) (fr : Fr) : kAi6 r k (some z) fr = .ok (r, k, z) fr true := (by first | exact (rfl) | (simp [kAi6]))
def kAi5 (o : O2) (r : Rv) (k : D) (u : Int) (y : D) (fr : Fr) : Rs (Rv × D × D) := kAi6 r k (dAug o (.int u) y) fr
@[simp] theorem kAi5_eq (o : O2) (r : Rv) (k : D) (u : Int) (y : D) (fr : Fr) : kAi5 o r k u y fr = kAi6 r k (dAug o (.int u) y) fr := (rfl)
def kAi4 (o : O2) (r : Rv) (k : D) (u : Int) (re : Rv) (fr : Fr) : Rs (Rv × D × D) := (re.view fr).bind (kAi5 o r k u)
@[simp] theorem kAi4_eq (o : O2) (r : Rv) (k : D) (u : Int) (re : Rv) (fr : Fr) : kAi4 o r k u re fr = (re.view fr).bind (kAi5 o r k u) := (rfl)
def kAi3 (e : Fr → Rs Rv) (o : O2) (r : Rv) (k : D) (x : Option D) (fr : Fr) : Rs (Rv × D × D) := match x with
  | some (.int u) => (e fr).bindD r (kAi4 o r k u)
  | _ => .no
@[simp] theorem kAi3_eq0 (e : Fr → Rs Rv) (o : O2) (r : Rv) (k : D) (u : Int) (fr : Fr) : kAi3 e o r k (some (.int u)) fr = (e fr).bindD r (kAi4 o r k u) := (by first | exact (rfl) | (simp [kAi3]))
def kAi2 (e : Fr → Rs Rv) (o : O2) (r : Rv) (d : D) (k : D) (fr : Fr) : Rs (Rv × D × D) := kAi3 e o r k (match subV d k with
  | some s => d.step s
  | none => none) fr
@[simp] theorem kAi2_eq (e : Fr → Rs Rv) (o : O2) (r : Rv) (d : D) (k : D) (fr : Fr) : kAi2 e o r d k fr = kAi3 e o r k (match subV d k with
  | some s => d.step s
  | none => none) fr := (rfl)
def kAi1 (e : Fr → Rs Rv) (o : O2) (r : Rv × Rv) (d : D) (fr : Fr) : Rs (Rv × D × D) := (r.2.look fr).bind (kAi2 e o r.1 d)
@[simp] theorem kAi1_eq (e : Fr → Rs Rv) (o : O2) (r : Rv × Rv) (d : D) (fr : Fr) : kAi1 e o r d fr = (r.2.look fr).bind (kAi2 e o r.1 d) := (rfl)
def kAi (e : Fr → Rs Rv) (o : O2) (r : Rv × Rv) (fr : Fr) : Rs (Rv × D × D) := (r.1.look fr).bind (kAi1 e o r)
@[simp] theorem kAi_eq (e : Fr → Rs Rv) (o : O2) (r : Rv × Rv) (fr : Fr) : kAi e o r fr = (r.1.look fr).bind (kAi1 e o r) := (rfl)
def kEx (r : Rv) (fr : Fr) : Fl := .nx fr
@[simp] theorem kEx_eq (r : Rv) (fr : Fr) : kEx r fr = .nx fr := (rfl)
def kRet2 (d : D) (fr : Fr) : Fl := .rt d fr
@[simp] theorem kRet2_eq (d : D) (fr : Fr) : kRet2 d fr = .rt d fr := (rfl)
def kRet (r : Rv) (fr : Fr) : Fl := (r.own fr).fl kRet2
@[simp] theorem kRet_eq (r : Rv) (fr : Fr) : kRet r fr = (r.own fr).fl kRet2 := (rfl)
def kRs2 (ex : List Ecl) (k : String) (d : D) (fr : Fr) : Fl := if (fldE ex k).isSome then .ex k d fr else .no
@[simp] theorem kRs2_eq (ex : List Ecl) (k : String) (d : D) (fr : Fr) : kRs2 ex k d fr = if (fldE ex k).isSome then .ex k d fr else .no := (rfl)
def kRs (ex : List Ecl) (k : String) (r : Rv) (fr : Fr) : Fl := (r.own fr).fl (kRs2 ex k)
@[simp] theorem kRs_eq (ex : List Ecl) (k : String) (r : Rv) (fr : Fr) : kRs ex k r fr = (r.own fr).fl (kRs2 ex k) := (rfl)
@[simp] theorem tryF_nx (ex : List Ecl) (p : List Nat) (cs : List String) (i : Nat) (fr : Fr) (s : Fr → Fl) : tryF ex p cs i (.nx fr) s = .nx fr := (rfl)
@[simp] theorem tryF_rt (ex : List Ecl) (p : List Nat) (cs : List String) (i : Nat) (d : D) (fr : Fr) (s : Fr → Fl) : tryF ex p cs i (.rt d fr) s = .rt d fr := (rfl)
@[simp] theorem tryF_bk (ex : List Ecl) (p : List Nat) (cs : List String) (i : Nat) (fr : Fr) (s : Fr → Fl) : tryF ex p cs i (.bk fr) s = .bk fr := (rfl)
@[simp] theorem tryF_ct (ex : List Ecl) (p : List Nat) (cs : List String) (i : Nat) (fr : Fr) (s : Fr → Fl) : tryF ex p cs i (.ct fr) s = .ct fr := (rfl)
def ends (i : Nat) : Fl → Fl
  | .nx fr => .nx (fr.set i none)
  | _ => .no
@[simp] theorem ends_nx (i : Nat) (fr : Fr) : ends i (.nx fr) = .nx (fr.set i none) := (rfl)
theorem tryF_in {ex : List Ecl} {p : List Nat} {cs : List String} {i : Nat} {k f : String} {a : D} {fr : Fr} {s : Fr → Fl} (h1 : anyE ex k cs = some true) (h2 : fldE ex k = some f) : tryF ex p cs i (.ex k a fr) s = if a.pure && decide (i < fr.length) && !p.contains i then ends i (s (fr.set i (some (.exn k f a)))) else .no := by
  simp only [tryF, h1, h2]
  split
  · cases s (fr.set i (some (.exn k f a))) <;> rfl
  · rfl
theorem tryF_out {ex : List Ecl} {p : List Nat} {cs : List String} {i : Nat} {k : String} {a : D} {fr : Fr} {s : Fr → Fl} (h1 : anyE ex k cs = some false) : tryF ex p cs i (.ex k a fr) s = .ex k a fr := by
  simp only [tryF, h1]
@[simp] theorem tryF_ite (ex : List Ecl) (p : List Nat) (cs : List String) (i : Nat) (q : Prop) [Decidable q] (x y : Fl) (s : Fr → Fl) : tryF ex p cs i (if q then x else y) s = if q then tryF ex p cs i x s else tryF ex p cs i y s := by split <;> rfl
def kIff (a : Fr → Fl) (b : Fr → Fl) (k : Bool) (fr : Fr) : Fl := if k then a fr else b fr
@[simp] theorem kIff_eq (a : Fr → Fl) (b : Fr → Fl) (k : Bool) (fr : Fr) : kIff a b k fr = if k then a fr else b fr := (rfl)
def forT (c : Cv) (tg : T) (p : List Nat) (body : Ss) (x : D) (fr : Fr) : Fl := match setT (p ++ c.prot) tg x fr with
  | some fr1 => exs { c with prot := p ++ c.prot } body fr1
  | none => .no
def kFor (c : Cv) (tg : T) (body : Ss) (w : Wk) (fr : Fr) : Fl := (forLoop (forT c tg w.prot body) w.items fr).done w
@[simp] theorem kFor_eq (c : Cv) (tg : T) (body : Ss) (w : Wk) (fr : Fr) : kFor c tg body w fr = (forLoop (forT c tg w.prot body) w.items fr).done w := (rfl)
@[simp] theorem op2_eq (a b : Fr → Rs Rv) (fr : Fr) : op2 a b fr = (a fr).bind (kOp b) := (rfl)
@[simp] theorem opCmp_eq (o : CO) (a b : Fr → Rs Rv) (fr : Fr) : opCmp o a b fr = (op2 a b fr).bind (kCmp o) := (rfl)
@[simp] theorem opChain_eq (o p : CO) (a b d : Fr → Rs Rv) (fr : Fr) : opChain o p a b d fr = (op2 a b fr).bind (kCh o p d) := (rfl)
@[simp] theorem ev_e288 (c : Cv) (i : Nat) (fr : Fr) : ev c (.v i) fr = (Rv.plc i []).norm fr := by
  rw [ev] <;> rfl
@[simp] theorem ev_e289 (c : Cv) (i : Nat) (fr : Fr) : ev c (.mv i) fr = match slot fr i with
    | some d => if d.pure then .ok (.tmp d) fr true else .ok (.tmp d) (fr.set i none) false
    | none => .no := by
  rw [ev] <;> rfl
@[simp] theorem ev_e290 (c : Cv) (x : String) (fr : Fr) : ev c (.g x) fr = kOpt (c.glob x) fr := by
  rw [ev] <;> rfl
@[simp] theorem ev_e291 (c : Cv)  (fr : Fr) : ev c .non fr = .ok (.tmp .non) fr true := by
  rw [ev] <;> rfl
@[simp] theorem ev_e292 (c : Cv) (b : Bool) (fr : Fr) : ev c (.tt b) fr = .ok (.tmp (.bl b)) fr true := by
  rw [ev] <;> rfl
@[simp] theorem ev_e293 (c : Cv) (n : Int) (fr : Fr) : ev c (.i n) fr = .ok (.tmp (.int n)) fr true := by
  rw [ev] <;> rfl
@[simp] theorem ev_e294 (c : Cv) (x : String) (fr : Fr) : ev c (.s x) fr = .ok (.tmp (.str x.toList)) fr true := by
  rw [ev] <;> rfl
@[simp] theorem ev_e295 (c : Cv) (o : O2) (a b : E) (fr : Fr) : ev c (.bin o a b) fr = (op2 (ev c a) (ev c b) fr).bind (kBin o) := by
  rw [ev] <;> rfl
@[simp] theorem ev_e296 (c : Cv) (a : E) (fr : Fr) : ev c (.neg a) fr = (ev c a fr).bind kNeg := by
  rw [ev] <;> rfl
@[simp] theorem ev_e297 (c : Cv) (o : CO) (a b : E) (fr : Fr) : ev c (.cmp o a b) fr = (opCmp o (ev c a) (ev c b) fr).bind kBl := by
  rw [ev] <;> rfl
@[simp] theorem ev_e298 (c : Cv) (o p : CO) (a b d : E) (fr : Fr) : ev c (.chain o p a b d) fr = (opChain o p (ev c a) (ev c b) (ev c d) fr).bind kBl := by
  rw [ev] <;> rfl
@[simp] theorem ev_e299 (c : Cv) (a : E) (fr : Fr) : ev c (.notv a) fr = (ev c a fr).bind kNot := by
  rw [ev] <;> rfl
@[simp] theorem ev_e300 (c : Cv) (a b : E) (fr : Fr) : ev c (.and a b) fr = (ev c a fr).bind (kAnd (ev c b)) := by
  rw [ev] <;> rfl
@[simp] theorem ev_e301 (c : Cv) (a b : E) (fr : Fr) : ev c (.or a b) fr = (ev c a fr).bind (kOr (ev c b)) := by
  rw [ev] <;> rfl
@[simp] theorem ev_e302 (c : Cv) (t : C) (a b : E) (fr : Fr) : ev c (.ifx t a b) fr = (evC c t fr).bind (kIf (ev c a) (ev c b)) := by
  rw [ev] <;> rfl
@[simp] theorem ev_e303 (c : Cv) (es : Es) (fr : Fr) : ev c (.tup es) fr = (evs c es fr).bind kTup := by
  rw [ev] <;> rfl
@[simp] theorem ev_e304 (c : Cv) (es : Es) (fr : Fr) : ev c (.lst es) fr = (evs c es fr).bind kLst := by
  rw [ev] <;> rfl
@[simp] theorem ev_e305 (c : Cv) (kvs : Kvs) (fr : Fr) : ev c (.dic kvs) fr = (evKv c kvs [] [] fr).bind kDic := by
  rw [ev] <;> rfl
@[simp] theorem ev_e306 (c : Cv) (t : Bool) (fr : Fr) : ev c (.dnew t) fr = .ok (.tmp (.dic true t [] [])) fr true := by
  rw [ev] <;> rfl
@[simp] theorem ev_e307 (c : Cv) (a b : E) (fr : Fr) : ev c (.sub a b) fr = (op2 (ev c a) (ev c b) fr).bind kSub := by
  rw [ev] <;> rfl
@[simp] theorem ev_e308 (c : Cv) (a : E) (lo hi : Eo) (fr : Fr) : ev c (.slc a lo hi) fr = (ev c a fr).bind (kSlc (evO c lo) (evO c hi)) := by
  rw [ev] <;> rfl
@[simp] theorem ev_e309 (c : Cv) (a : E) (fr : Fr) : ev c (.rsl a) fr = (ev c a fr).bind kRsl := by
  rw [ev] <;> rfl
@[simp] theorem ev_e310 (c : Cv) (f : String) (es : Es) (fr : Fr) : ev c (.call f es) fr = (evs c es fr).bind (doCall c f) := by
  rw [ev] <;> rfl
@[simp] theorem ev_e311 (c : Cv) (f : String) (p : List Nat) (es : Es) (fr : Fr) : ev c (.callk f p es) fr = (evs c es fr).bind (kCallk c f p) := by
  rw [ev] <;> rfl
theorem kLen_is (rs : List Rv) (fr : Fr) : (match rs with
    | [r] => (r.look fr).bind fun d fr => (match lenD d with
      | some n => .ok (.tmp (.int n)) fr true
      | none => .no)
    | _ => .no : Rs Rv) = kLen rs fr := by
  unfold kLen
  split
  · congr 1
    funext d fr
    unfold kLen2
    cases lenD d <;> rfl
  · rfl
@[simp] theorem ev_e313 (c : Cv) (es : Es) (fr : Fr) : ev c (.bi .len es) fr = (evs c es fr).bind kLen := by
  rw [ev]
  congr 1
  funext rs fr
  exact kLen_is rs fr
@[simp] theorem ev_bi (c : Cv) (f : BI) (es : Es) (fr : Fr) (h : f ≠ .len) : ev c (.bi f es) fr = (evs c es fr).bind (kBi f) := by
  cases f <;> first | (exact absurd rfl h) | (rw [ev] <;> first | rfl | (intro z; cases z))
theorem kIsi_is (ex : List Ecl) (ts : List String) (d : D) (fr : Fr) : (match isAnyX ex ts d with
    | some b => .ok (.tmp (.bl b)) fr true
    | none => .no : Rs Rv) = kIsi2 ex ts d fr := by
  unfold kIsi2
  cases isAnyX ex ts d <;> rfl
@[simp] theorem ev_e316 (c : Cv) (a : E) (ts : List String) (fr : Fr) : ev c (.isi a ts) fr = (ev c a fr).bind (kIsi c.exc ts) := by
  rw [ev]
  congr 1
  funext r fr
  unfold kIsi
  congr 1
  funext d fr
  exact kIsi_is c.exc ts d fr
@[simp] theorem ev_e317 (c : Cv) (a : E) (es : Es) (fr : Fr) : ev c (.inr a es) fr = (ev c a fr).bind (kInrA (evs c es)) := by
  rw [ev] <;> rfl
@[simp] theorem ev_e318 (c : Cv) (a : E) (f : String) (fr : Fr) : ev c (.fld a f) fr = (ev c a fr).bind (kFld c.exc f) := by
  rw [ev] <;> rfl
@[simp] theorem ev_e319 (c : Cv) (own : List Nat) (tg : T) (it : I) (t : Co) (e : E) (fr : Fr) : ev c (.lc own tg it t e) fr = (evI c it fr).bind (kLc (evCo c t) (ev c e) own tg) := by
  rw [ev]
  congr 1
@[simp] theorem ev_e320 (c : Cv) (m : MR) (a : E) (es : Es) (fr : Fr) : ev c (.mr m a es) fr = (ev c a fr).bind (kMr m (evs c es)) := by
  rw [ev] <;> rfl
@[simp] theorem ev_e321 (c : Cv) (m : MW) (a : E) (es : Es) (fr : Fr) : ev c (.mw m a es) fr = (ev c a fr).bind (kMw m (evs c es)) := by
  rw [ev] <;> rfl
@[simp] theorem ev_e322 (c : Cv) (own : List Nat) (tg : T) (it : I) (t : Co) (k e : E) (fr : Fr) : ev c (.dc own tg it t k e) fr = (evI c it fr).bind (kDc (evCo c t) (ev c k) (ev c e) own tg) := by
  rw [ev]
  congr 1
@[simp] theorem evI_e323 (c : Cv) (e : E) (fr : Fr) : evI c (.enum e) fr = (ev c e fr).bind (kWalk enumV) := by
  rw [evI] <;> rfl
@[simp] theorem evI_e324 (c : Cv) (i : Nat) (fr : Fr) : evI c (.keys i) fr = keysR i fr := by
  rw [evI] <;> rfl
@[simp] theorem evs_e325 (c : Cv)  (fr : Fr) : evs c .nil fr = .ok [] fr true := by
  rw [evs] <;> rfl
@[simp] theorem evs_e326 (c : Cv) (e : E) (es : Es) (fr : Fr) : evs c (.cons e es) fr = (ev c e fr).bind (kEs (evs c es)) := by
  rw [evs] <;> rfl
@[simp] theorem evKv_nil (c : Cv) (ks vs : List D) (fr : Fr) : evKv c .nil ks vs fr = .ok (ks, vs) fr true := by rw [evKv]
@[simp] theorem evKv_cons (c : Cv) (k e : E) (r : Kvs) (ks vs : List D) (fr : Fr) : evKv c (.cons k e r) ks vs fr = (ev c k fr).bind (kKv1 (evKv c r) (ev c e) ks vs) := by
  rw [evKv] <;> rfl
@[simp] theorem evO_e329 (c : Cv)  (fr : Fr) : evO c .none fr = .ok none fr true := by
  rw [evO] <;> rfl
@[simp] theorem evO_e330 (c : Cv) (e : E) (fr : Fr) : evO c (.some e) fr = (ev c e fr).bind kEo := by
  rw [evO] <;> rfl
@[simp] theorem evC_e331 (c : Cv) (e : E) (fr : Fr) : evC c (.e e) fr = (ev c e fr).bind truthR := by
  rw [evC] <;> rfl
@[simp] theorem evC_e332 (c : Cv) (o : CO) (a b : E) (fr : Fr) : evC c (.cmp o a b) fr = opCmp o (ev c a) (ev c b) fr := by
  rw [evC] <;> rfl
@[simp] theorem evC_e333 (c : Cv) (o p : CO) (a b d : E) (fr : Fr) : evC c (.chain o p a b d) fr = opChain o p (ev c a) (ev c b) (ev c d) fr := by
  rw [evC] <;> rfl
@[simp] theorem evC_e334 (c : Cv) (t : C) (fr : Fr) : evC c (.not t) fr = (evC c t fr).bind kNotC := by
  rw [evC] <;> rfl
@[simp] theorem evC_e335 (c : Cv) (a b : C) (fr : Fr) : evC c (.and a b) fr = (evC c a fr).bind (kAndC (evC c b)) := by
  rw [evC] <;> rfl
@[simp] theorem evC_e336 (c : Cv) (a b : C) (fr : Fr) : evC c (.or a b) fr = (evC c a fr).bind (kOrC (evC c b)) := by
  rw [evC] <;> rfl
@[simp] theorem evCo_e337 (c : Cv)  (fr : Fr) : evCo c .none fr = .ok true fr true := by
  rw [evCo] <;> rfl
@[simp] theorem evCo_e338 (c : Cv) (t : C) (fr : Fr) : evCo c (.some t) fr = evC c t fr := by
  rw [evCo] <;> rfl
@[simp] theorem evI_e339 (c : Cv) (e : E) (fr : Fr) : evI c (.e e) fr = (ev c e fr).bind (kWalk iterV) := by
  rw [evI] <;> rfl
@[simp] theorem evI_e340 (c : Cv) (es : Es) (fr : Fr) : evI c (.rng es) fr = (evs c es fr).bind kRng := by
  rw [evI] <;> rfl
@[simp] theorem evI_e341 (c : Cv) (a b : E) (fr : Fr) : evI c (.zip a b) fr = (op2 (ev c a) (ev c b) fr).bind kZip := by
  rw [evI] <;> rfl
@[simp] theorem ex_e342 (c : Cv) (tg : T) (e : E) (fr : Fr) : ex c (.asg tg e) fr = (ev c e fr).fl (kAsg c.prot tg) := by
  rw [ex] <;> rfl
@[simp] theorem ex_e343 (c : Cv) (xs : List Nat) (es : Es) (fr : Fr) : ex c (.par xs es) fr = (evs c es fr).fl (kPar c.prot xs) := by
  rw [ex] <;> rfl
@[simp] theorem ex_e344 (c : Cv) (i : Nat) (o : O2) (e : E) (fr : Fr) : ex c (.aug i o e) fr = if (slot fr i).isSome then (ev c e fr).fl (kAug c.prot i o) else .no := by
  rw [ex] <;> rfl
@[simp] theorem ex_e345 (c : Cv) (a i e : E) (fr : Fr) : ex c (.seti a i e) fr = ((ev c e fr).bind (kSet1 (ev c a) (ev c i))).fl kSet6 := by
  rw [ex] <;> rfl
theorem kAi_is (c : Cv) (a i : E) (o : O2) (e : E) (fr : Fr) : ((op2 (ev c a) (ev c i) fr).bind fun r fr => (r.1.look fr).bind fun d fr => (r.2.look fr).bind fun k fr => (match subV d k with
      | some s => (match d.step s with
        | some (.int u) => (ev c e fr).bindD r.1 fun re fr => (re.view fr).bind fun y fr => (match dAug o (.int u) y with
          | some z => .ok (r.1, k, z) fr true
          | none => .no)
        | _ => .no)
      | none => .no : Rs (Rv × D × D))) = (op2 (ev c a) (ev c i) fr).bind (kAi (ev c e) o) := by
  congr 1; funext r fr
  unfold kAi; congr 1; funext d fr
  unfold kAi1; congr 1; funext k fr
  unfold kAi2 kAi3
  cases subV d k with
  | none => rfl
  | some s => rfl
@[simp] theorem ex_e347 (c : Cv) (a i : E) (o : O2) (e : E) (fr : Fr) : ex c (.augi a i o e) fr = ((op2 (ev c a) (ev c i) fr).bind (kAi (ev c e) o)).fl kAi7 := by
  rw [ex]
  exact congrArg (fun z => Rs.fl z kAi7) (kAi_is c a i o e fr)
@[simp] theorem ex_e348 (c : Cv) (e : E) (fr : Fr) : ex c (.ex e) fr = (ev c e fr).fl kEx := by
  rw [ex] <;> rfl
@[simp] theorem ex_e349 (c : Cv) (e : E) (fr : Fr) : ex c (.ret e) fr = (ev c e fr).fl kRet := by
  rw [ex] <;> rfl
@[simp] theorem ex_e350 (c : Cv) (k : String) (e : E) (fr : Fr) : ex c (.rais k e) fr = (ev c e fr).fl (kRs c.exc k) := by
  rw [ex] <;> rfl
@[simp] theorem ex_e351 (c : Cv) (body : Ss) (cs : List String) (i : Nat) (suite : Ss) (fr : Fr) : ex c (.tryas body cs i suite) fr = tryF c.exc c.prot cs i (exs c body fr) (exs c suite) := by
  rw [ex] <;> rfl
@[simp] theorem ex_e352 (c : Cv)  (fr : Fr) : ex c .retn fr = .rt .non fr := by
  rw [ex] <;> rfl
@[simp] theorem ex_e353 (c : Cv)  (fr : Fr) : ex c .brk fr = .bk fr := by
  rw [ex] <;> rfl
@[simp] theorem ex_e354 (c : Cv)  (fr : Fr) : ex c .cnt fr = .ct fr := by
  rw [ex] <;> rfl
@[simp] theorem ex_e355 (c : Cv)  (fr : Fr) : ex c .pass fr = .nx fr := by
  rw [ex] <;> rfl
@[simp] theorem ex_e356 (c : Cv) (t : C) (a b : Ss) (fr : Fr) : ex c (.iff t a b) fr = (evC c t fr).fl (kIff (exs c a) (exs c b)) := by
  rw [ex] <;> rfl
@[simp] theorem ex_e357 (c : Cv) (z : Bool) (tg : T) (it : I) (body : Ss) (fr : Fr) : ex c (.for_ z tg it body) fr = (evI c it fr).fl (kFor c tg body) := by
  rw [ex] <;> rfl
@[simp] theorem ex_e358 (c : Cv) (t : C) (body : Ss) (fr : Fr) : ex c (.wh t body) fr = whLoop (evC c t) (exs c body) c.W fr := by
  rw [ex] <;> rfl
@[simp] theorem exs_e359 (c : Cv)  (fr : Fr) : exs c .nil fr = .nx fr := by
  rw [exs] <;> rfl
@[simp] theorem exs_e360 (c : Cv) (s : S) (ss : Ss) (fr : Fr) : exs c (.cons s ss) fr = (ex c s fr).then (exs c ss) := by
  rw [exs] <;> rfl
def kLp (turn : D → Fr → Rs (Option D)) (xs : List D) (o : Option D) (fr : Fr) : Rs (List D) := (lcLoop turn xs fr).bind fun ds fr => .ok (match o with
  | some d => d :: ds
  | none => ds) fr true
def kLp2 (o : Option D) (ds : List D) (fr : Fr) : Rs (List D) := .ok (match o with
  | some d => d :: ds
  | none => ds) fr true
@[simp] theorem kLp_eq (turn : D → Fr → Rs (Option D)) (xs : List D) (o : Option D) (fr : Fr) : kLp turn xs o fr = (lcLoop turn xs fr).bind (kLp2 o) := (rfl)
@[simp] theorem kLp2_some (d : D) (ds : List D) (fr : Fr) : kLp2 (some d) ds fr = .ok (d :: ds) fr true := (rfl)
@[simp] theorem kLp2_none (ds : List D) (fr : Fr) : kLp2 none ds fr = .ok ds fr true := (rfl)
@[simp] theorem lc_cons (turn : D → Fr → Rs (Option D)) (x : D) (xs : List D) (fr : Fr) : lcLoop turn (x :: xs) fr = (turn x fr).bind (kLp turn xs) := (rfl)
def lp (x : Fl) (k : Fr → Fl) : Fl := match x with
  | .nx fr => k fr
  | .ct fr => k fr
  | .bk fr => .nx fr
  | .rt d fr => .rt d fr
  | .ex c e fr => .ex c e fr
  | .no => .no
@[simp] theorem lp_nx (fr : Fr) (k : Fr → Fl) : lp (.nx fr) k = k fr := (rfl)
@[simp] theorem lp_ct (fr : Fr) (k : Fr → Fl) : lp (.ct fr) k = k fr := (rfl)
@[simp] theorem lp_bk (fr : Fr) (k : Fr → Fl) : lp (.bk fr) k = .nx fr := (rfl)
@[simp] theorem lp_rt (d : D) (fr : Fr) (k : Fr → Fl) : lp (.rt d fr) k = .rt d fr := (rfl)
@[simp] theorem lp_ex (c : String) (e : D) (fr : Fr) (k : Fr → Fl) : lp (.ex c e fr) k = .ex c e fr := (rfl)
@[simp] theorem lp_ite (p : Prop) [Decidable p] (x y : Fl) (k : Fr → Fl) : lp (if p then x else y) k = if p then lp x k else lp y k := by split <;> rfl
theorem lp_cg {x y : Fl} {k : Fr → Fl} (h : x = y) : lp x k = lp y k := by rw [h]
@[simp] theorem for_nil (turn : D → Fr → Fl) (fr : Fr) : forLoop turn [] fr = .nx fr := (rfl)
@[simp] theorem for_cons (turn : D → Fr → Fl) (x : D) (xs : List D) (fr : Fr) : forLoop turn (x :: xs) fr = lp (turn x fr) (forLoop turn xs) := by
  conv => lhs; unfold forLoop
  unfold lp
  cases turn x fr <;> rfl
def outL (ps : Nat) (prot : List Nat) (fr : Fr) : List (Option D) := (List.range ps).map fun i => if prot.contains i then slot fr i else none
def kRun (ps : Nat) (prot : List Nat) (x : Fl) : CR := match x with
  | .nx fr => .ok .non (outL ps prot fr)
  | .rt d fr => .ok d (outL ps prot fr)
  | .ex k a fr => .ex k a (outL ps prot fr)
  | _ => .no
@[simp] theorem kRun_nx (n : Nat) (p : List Nat) (fr : Fr) : kRun n p (.nx fr) = .ok .non (outL n p fr) := (rfl)
@[simp] theorem kRun_rt (n : Nat) (p : List Nat) (d : D) (fr : Fr) : kRun n p (.rt d fr) = .ok d (outL n p fr) := (rfl)
@[simp] theorem kRun_ex (n : Nat) (p : List Nat) (c : String) (d : D) (fr : Fr) : kRun n p (.ex c d fr) = .ex c d (outL n p fr) := (rfl)
@[simp] theorem kRun_ite (n : Nat) (l : List Nat) (p : Prop) [Decidable p] (x y : Fl) : kRun n l (if p then x else y) = if p then kRun n l x else kRun n l y := by split <;> rfl
@[simp] theorem outL_0 (p : List Nat) (fr : Fr) : outL 0 p fr = [] := (rfl)
@[simp] theorem outL_1 (p : List Nat) (fr : Fr) : outL 1 p fr = [if p.contains 0 then slot fr 0 else none] := (rfl)
@[simp] theorem outL_2 (p : List Nat) (fr : Fr) : outL 2 p fr = [if p.contains 0 then slot fr 0 else none, if p.contains 1 then slot fr 1 else none] := (rfl)
@[simp] theorem outL_3 (p : List Nat) (fr : Fr) : outL 3 p fr = [if p.contains 0 then slot fr 0 else none, if p.contains 1 then slot fr 1 else none, if p.contains 2 then slot fr 2 else none] := (rfl)
@[simp] theorem outL_4 (p : List Nat) (fr : Fr) : outL 4 p fr = [if p.contains 0 then slot fr 0 else none, if p.contains 1 then slot fr 1 else none, if p.contains 2 then slot fr 2 else none, if p.contains 3 then slot fr 3 else none] := (rfl)
theorem run_eq (c : Cv) (f : Fn) (ds : List D) (h : ds.length = f.ps) : runF c f ds = kRun f.ps f.prot (exs { c with prot := f.prot } f.body (start f ds)) := by
  unfold runF kRun; rw [if_pos h]; rfl
theorem call_eq (p : Pg) (W n : Nat) (f : String) (ds : List D) (fn : Fn) (h : p.defs.lookup f = some fn) (hl : ds.length = fn.ps) : callN p W (n+1) f ds = kRun fn.ps fn.prot (exs { call := callN p W n, glob := p.glob, W := W, prot := fn.prot, exc := p.exc, callT := callTN p W n } fn.body (ds.map some ++ List.replicate (fn.n - ds.length) none)) := by
  rw [callN_s _ _ _ _ _ _ h, run_eq _ _ _ hl]; rfl
theorem wh_cg {t : Fr → Rs Bool} {b : Fr → Fl} {n : Nat} {fr fr' : Fr} (h : fr = fr') : whLoop t b n fr = whLoop t b n fr' := by rw [h]
@[simp] theorem bind_ite {α β : Type} (p : Prop) [Decidable p] (x y : Rs α) (f : α → Fr → Rs β) : Rs.bind (if p then x else y) f = if p then x.bind f else y.bind f := by split <;> rfl
@[simp] theorem fl_ite {α : Type} (p : Prop) [Decidable p] (x y : Rs α) (f : α → Fr → Fl) : Rs.fl (if p then x else y) f = if p then x.fl f else y.fl f := by split <;> rfl
@[simp] theorem then_ite (p : Prop) [Decidable p] (x y : Fl) (f : Fr → Fl) : Fl.then (if p then x else y) f = if p then x.then f else y.then f := by split <;> rfl
@[simp] theorem isAnyX_exn (ex : List Ecl) (ts : List String) (k f : String) (a : D) : isAnyX ex ts (.exn k f a) = if ts.any isTs.contains || !(fldE ex k).isSome then none else anyE ex k ts := (rfl)
theorem isAnyX_no (ex : List Ecl) (ts : List String) (d : D) (h : ∀ k f a, d ≠ .exn k f a) : isAnyX ex ts d = isAny ts d := by
  cases d <;> first | rfl | exact absurd rfl (h _ _ _)
@[simp] theorem isAnyX_non (ex : List Ecl) (ts : List String) : isAnyX ex ts .non = isAny ts .non := (rfl)
@[simp] theorem isAnyX_bl (ex : List Ecl) (ts : List String) (b : Bool) : isAnyX ex ts (.bl b) = isAny ts (.bl b) := (rfl)
@[simp] theorem isAnyX_int (ex : List Ecl) (ts : List String) (b : Int) : isAnyX ex ts (.int b) = isAny ts (.int b) := (rfl)
@[simp] theorem isAnyX_str (ex : List Ecl) (ts : List String) (b : List Char) : isAnyX ex ts (.str b) = isAny ts (.str b) := (rfl)
@[simp] theorem isAnyX_tup (ex : List Ecl) (ts : List String) (b : List D) : isAnyX ex ts (.tup b) = isAny ts (.tup b) := (rfl)
@[simp] theorem isAnyX_ktup (ex : List Ecl) (ts : List String) (b : List D) : isAnyX ex ts (.ktup b) = isAny ts (.ktup b) := (rfl)
@[simp] theorem isAnyX_lst (ex : List Ecl) (ts : List String) (m : Bool) (b : List D) : isAnyX ex ts (.lst m b) = isAny ts (.lst m b) := (rfl)
@[simp] theorem isAnyX_scr (ex : List Ecl) (ts : List String) (b : List D) : isAnyX ex ts (.scr b) = isAny ts (.scr b) := (rfl)
@[simp] theorem isAnyX_rep (ex : List Ecl) (ts : List String) (b : PySem.PyData) : isAnyX ex ts (.rep b) = isAny ts (.rep b) := (rfl)
@[simp] theorem isAnyX_dic (ex : List Ecl) (ts : List String) (m t : Bool) (ks vs : List D) : isAnyX ex ts (.dic m t ks vs) = isAny ts (.dic m t ks vs) := (rfl)
@[simp] theorem isAny_nil (d : D) : isAny [] d = some false := (rfl)
@[simp] theorem isAny_1 (t : String) (d : D) : isAny [t] d = isT t d := by
  unfold isAny; rw [isAny_nil]; cases isT t d <;> simp
@[simp] theorem iterV_tup (xs : List D) : iterV (.tup xs) = some xs := (rfl)
@[simp] theorem iterV_lst (m : Bool) (xs : List D) : iterV (.lst m xs) = some xs := (rfl)
@[simp] theorem iterV_scr (xs : List D) : iterV (.scr xs) = some xs := (rfl)
@[simp] theorem iterV_ktup (xs : List D) : iterV (.ktup xs) = some xs := (rfl)
@[simp] theorem iterV_str (s : List Char) : iterV (.str s) = some (s.map fun c => .str [c]) := (rfl)
@[simp] theorem args_nil (fr : Fr) : args [] fr = some ([], [], fr) := (rfl)
@[simp] theorem args_tmp (d : D) (rs : List Rv) (fr : Fr) : args (.tmp d :: rs) fr = (args rs fr).map fun (ds, xs, fr) => (d :: ds, none :: xs, fr) := by
  simp only [args]; cases args rs fr <;> rfl
@[simp] theorem args_plc (x : Nat) (rs : List Rv) (fr : Fr) : args (.plc x [] :: rs) fr = match slot fr x with
    | some d => (args rs (fr.set x none)).map fun (ds, xs, fr) => (d :: ds, some x :: xs, fr)
    | none => none := by
  simp only [args]
  cases slot fr x with
  | none => rfl
  | some d => simp only; cases args rs (fr.set x none) <;> rfl
@[simp] theorem backs_nil (os : List (Option D)) (fr : Fr) : backs [] os fr = fr := by cases os <;> rfl
@[simp] theorem backs_none (xs : List (Option Nat)) (o : Option D) (os : List (Option D)) (fr : Fr) : backs (none :: xs) (o :: os) fr = backs xs os fr := (rfl)
@[simp] theorem backs_some (x : Nat) (xs : List (Option Nat)) (o : Option D) (os : List (Option D)) (fr : Fr) : backs (some x :: xs) (o :: os) fr = backs xs os (fr.set x o) := (rfl)
@[simp] theorem hide_nil (fr : Fr) : hideAll fr [] = fr := (rfl)
@[simp] theorem hide_cons (fr : Fr) (i : Nat) (is : List Nat) : hideAll fr (i :: is) = (hideAll fr is).set i none := (rfl)
@[simp] theorem back_nil (old fr : Fr) : backAll old fr [] = fr := (rfl)
@[simp] theorem back_cons (old fr : Fr) (i : Nat) (is : List Nat) : backAll old fr (i :: is) = (backAll old fr is).set i (slot old i) := (rfl)
@[simp] theorem setT_n (p : List Nat) (i : Nat) (d : D) (fr : Fr) : setT p (.n i) d fr = if i < fr.length && !p.contains i then some (fr.set i (some d)) else none := by rw [setT]
@[simp] theorem setT_tup (p : List Nat) (ts : Ts) (xs : List D) (fr : Fr) : setT p (.t ts) (.tup xs) fr = setTs p ts xs fr := by rw [setT]
@[simp] theorem setT_ktup (p : List Nat) (ts : Ts) (xs : List D) (fr : Fr) : setT p (.t ts) (.ktup xs) fr = setTs p ts xs fr := by rw [setT]
@[simp] theorem setTs_nil (p : List Nat) (fr : Fr) : setTs p .nil [] fr = some fr := by rw [setTs]
@[simp] theorem setTs_cons (p : List Nat) (t : T) (ts : Ts) (x : D) (xs : List D) (fr : Fr) : setTs p (.cons t ts) (x :: xs) fr = match setT p t x fr with
    | some fr' => setTs p ts xs fr'
    | none => none := by rw [setTs] <;> (cases setT p t x fr <;> rfl)
@[simp] theorem setAll_nil (p : List Nat) (fr : Fr) : setAll p [] [] fr = some fr := (rfl)
@[simp] theorem setAll_cons (p : List Nat) (i : Nat) (is : List Nat) (d : D) (ds : List D) (fr : Fr) : setAll p (i :: is) (d :: ds) fr = if i < fr.length && !p.contains i then setAll p is ds (fr.set i (some d)) else none := (rfl)
@[simp] theorem forT_eq (c : Cv) (tg : T) (p : List Nat) (body : Ss) (x : D) (fr : Fr) : forT c tg p body x fr = (kNx (setT (p ++ c.prot) tg x fr)).then (exs { c with prot := p ++ c.prot } body) := by
  unfold forT kNx; cases setT (p ++ c.prot) tg x fr <;> rfl
@[simp] theorem lcT_eq (t : Fr → Rs Bool) (e : Fr → Rs Rv) (own : List Nat) (tg : T) (x : D) (fr : Fr) : lcT t e own tg x fr = kTu t e own (setT [] tg x (hideAll fr own)) := (rfl)
theorem setItem_lst {x : Nat} {p : List Sp1} {d : D} {xs : List D} {i : Int} {n : Nat} {e : D} {fr : Fr} (h1 : slot fr x = some d) (h2 : d.get p = some (.lst true xs)) (h3 : ixOf xs.length i = some n) : setItem x p (.int i) e fr = .nx (fr.set x (some (d.put p (.lst true (xs.set n e))))) := by
  simp only [setItem, h1, h2, h3]
theorem setItem_dic {x : Nat} {p : List Sp1} {d : D} {t : Bool} {ks vs : List D} {k e : D} {fr : Fr} (h1 : slot fr x = some d) (h2 : d.get p = some (.dic true t ks vs)) (h3 : kOk k t = true) (h4 : ks.length < line) : setItem x p k e fr = .nx (fr.set x (some (d.put p (.dic true t (dputK k ks) (dputV k e ks vs))))) := by
  simp only [setItem, h1, h2, h3, h4, decide_true, Bool.and_self, if_true]
end VI

end

section
/-! ViX3: built-ins by rewriting. -/
namespace VI
@[simp] theorem bools_nil : boolsOf [] = some [] := (rfl)
@[simp] theorem bools_cons (b : Bool) (ds : List D) : boolsOf (.bl b :: ds) = (boolsOf ds).map (b :: ·) := (rfl)
@[simp] theorem bools_map (bs : List Bool) : boolsOf (bs.map D.bl) = some bs := by
  induction bs with
  | nil => rfl
  | cons b bs ih => simp [ih]
theorem bools_mapf {α : Type} (f : α → Bool) (l : List α) : boolsOf (l.map fun a => D.bl (f a)) = some (l.map f) := by
  induction l with
  | nil => rfl
  | cons b bs ih => simp [ih]
@[simp] theorem ints_nil : intsOf [] = some [] := (rfl)
@[simp] theorem ints_cons (i : Int) (ds : List D) : intsOf (.int i :: ds) = (intsOf ds).map (i :: ·) := (rfl)
@[simp] theorem ints_map (is : List Int) : intsOf (is.map D.int) = some is := by
  induction is with
  | nil => rfl
  | cons b bs ih => simp [ih]
@[simp] theorem bi_all (m : Bool) (xs : List D) : biV .all [.lst m xs] = (boolsOf xs).map fun bs => .bl (bs.all id) := (rfl)
@[simp] theorem bi_any (m : Bool) (xs : List D) : biV .any [.lst m xs] = (boolsOf xs).map fun bs => .bl (bs.any id) := (rfl)
@[simp] theorem bi_sum (m : Bool) (xs : List D) : biV .sum [.lst m xs] = (intsOf xs).map fun is => .int is.sum := (rfl)
@[simp] theorem bi_tup_tup (xs : List D) : biV .tuple [.tup xs] = some (.tup xs) := (rfl)
@[simp] theorem bi_tup_lst (m : Bool) (xs : List D) : biV .tuple [.lst m xs] = some (.tup xs) := (rfl)
@[simp] theorem bi_tup_scr (xs : List D) : biV .tuple [.scr xs] = some (.tup xs) := (rfl)
@[simp] theorem bi_lst_tup (xs : List D) : biV .list [.tup xs] = some (.lst true xs) := (rfl)
@[simp] theorem bi_lst_lst (m : Bool) (xs : List D) : biV .list [.lst m xs] = some (.lst true xs) := (rfl)
@[simp] theorem bi_lst_scr (xs : List D) : biV .list [.scr xs] = some (.lst true xs) := (rfl)
@[simp] theorem bi_int_int (i : Int) : biV .int [.int i] = some (.int i) := (rfl)
@[simp] theorem bi_int_bl (b : Bool) : biV .int [.bl b] = some (.int (if b then 1 else 0)) := (rfl)
@[simp] theorem bi_repr (d : D) : biV .repr [d] = if levD 8 d && decide (rsz d ≤ line) then some (.rep (pd d)) else none := by cases d <;> rfl
@[simp] theorem bi_min (i j : Int) : biV .min [.int i, .int j] = some (.int (if j < i then j else i)) := (rfl)
@[simp] theorem bi_max (i j : Int) : biV .max [.int i, .int j] = some (.int (if j > i then j else i)) := (rfl)
@[simp] theorem bi_abs (i : Int) : biV .abs [.int i] = some (.int (if i < 0 then -i else i)) := (rfl)
@[simp] theorem bi_divmod (i j : Int) : biV .divmod [.int i, .int j] = if decide (0 < j) && decide (j < 1073741824) then some (.tup [.int (i / j), .int (i % j)]) else none := (rfl)
theorem isT_eq (T : String) (d : D) (h : isTs.contains T = true) : isT T d = (tyD d).map fun t => t == T || (t == "bool" && T == "int") := by
  unfold isT
  cases tyD d with
  | none => rfl
  | some t => simp only [h, if_true]; rfl
@[simp] theorem isT_int (d : D) : isT "int" d = (tyD d).map fun t => t == "int" || t == "bool" := by
  rw [isT_eq _ _ rfl]; congr 1; funext t; simp
@[simp] theorem isT_bool (d : D) : isT "bool" d = (tyD d).map fun t => t == "bool" := by
  rw [isT_eq _ _ rfl]; congr 1; funext t; simp
@[simp] theorem isT_tuple (d : D) : isT "tuple" d = (tyD d).map fun t => t == "tuple" := by
  rw [isT_eq _ _ rfl]; congr 1; funext t; simp
@[simp] theorem isT_list (d : D) : isT "list" d = (tyD d).map fun t => t == "list" := by
  rw [isT_eq _ _ rfl]; congr 1; funext t; simp
@[simp] theorem isT_str (d : D) : isT "str" d = (tyD d).map fun t => t == "str" := by
  rw [isT_eq _ _ rfl]; congr 1; funext t; simp
@[simp] theorem ixOf_eq (n : Nat) (i : Int) : ixOf n i = if 0 ≤ i then (if i < n then some i.toNat else none) else if -(n : Int) ≤ i then some (i + n).toNat else none := (rfl)
@[simp] theorem ty_non : tyD .non = some "NoneType" := (rfl)
@[simp] theorem ty_bl (b : Bool) : tyD (.bl b) = some "bool" := (rfl)
@[simp] theorem ty_int (i : Int) : tyD (.int i) = some "int" := (rfl)
@[simp] theorem ty_str (s : List Char) : tyD (.str s) = some "str" := (rfl)
@[simp] theorem ty_rep (p : PySem.PyData) : tyD (.rep p) = some "str" := (rfl)
@[simp] theorem ty_tup (xs : List D) : tyD (.tup xs) = some "tuple" := (rfl)
@[simp] theorem ty_ktup (xs : List D) : tyD (.ktup xs) = some "tuple" := (rfl)
@[simp] theorem ty_lst (m : Bool) (xs : List D) : tyD (.lst m xs) = some "list" := (rfl)
@[simp] theorem rng_1 (n : Int) : rngV [.int n] = if rngOk n then some (rngL 0 n.toNat) else none := (rfl)
@[simp] theorem rng_2 (a b : Int) : rngV [.int a, .int b] = if rngOk a && rngOk b then some (rngL a (b - a).toNat) else none := (rfl)
theorem rngOk_of {n : Int} (h : -4611686018427387904 ≤ n) (h' : n < 4611686018427387904) : rngOk n = true := by
  simp only [rngOk, Bool.and_eq_true, decide_eq_true_eq]; exact ⟨h, h'⟩
theorem rngL_eq (lo : Int) (n : Nat) : rngL lo n = (List.range n).map fun (i : Nat) => D.int (lo + i) := by
  induction n generalizing lo with
  | zero => rfl
  | succ n ih =>
    rw [rngL, ih, List.range_succ_eq_map]
    simp only [List.map_cons, List.map_map, List.cons.injEq]
    refine ⟨by simp, List.map_congr_left fun i _ => ?_⟩
    simp only [Function.comp_apply]
    congr 1
    omega
@[simp] theorem slice_tup (xs : List D) (lo hi : Option Int) : sliceV (.tup xs) lo hi = some (.tup (cutL xs lo hi)) := (rfl)
@[simp] theorem slice_lst (m : Bool) (xs : List D) (lo hi : Option Int) : sliceV (.lst m xs) lo hi = some (.lst true (cutL xs lo hi)) := (rfl)
@[simp] theorem slice_scr (xs : List D) (lo hi : Option Int) : sliceV (.scr xs) lo hi = some (.lst true (cutL xs lo hi)) := (rfl)
@[simp] theorem slice_str (s : List Char) (lo hi : Option Int) : sliceV (.str s) lo hi = if s.length ≤ line then some (.str (cutL s lo hi)) else none := (rfl)
@[simp] theorem cutL_eq {α : Type} (xs : List α) (lo hi : Option Int) : cutL xs lo hi = (xs.drop (cutAt xs.length 0 lo)).take (cutAt xs.length xs.length hi - cutAt xs.length 0 lo) := (rfl)
@[simp] theorem cutAt_none (n d : Nat) : cutAt n d none = d := (rfl)
@[simp] theorem cutAt_some (n d : Nat) (i : Int) : cutAt n d (some i) = if i < 0 then (i + (n : Int)).toNat else min i.toNat n := (rfl)
@[simp] theorem zip_lst (m m' : Bool) (xs ys : List D) : zipV (.lst m xs) (.lst m' ys) = if pureL xs && pureL ys then some (zipL xs ys) else none := (rfl)
@[simp] theorem zip_tup (xs ys : List D) : zipV (.tup xs) (.tup ys) = if pureL xs && pureL ys then some (zipL xs ys) else none := (rfl)
@[simp] theorem zipL_cons (x y : D) (xs ys : List D) : zipL (x :: xs) (y :: ys) = .tup [x, y] :: zipL xs ys := (rfl)
@[simp] theorem zipL_nil (ys : List D) : zipL [] ys = [] := (rfl)
@[simp] theorem zipL_nil2 (xs : List D) : zipL xs [] = [] := by cases xs <;> rfl
/-- peq of data of one kind -/
@[simp] theorem peq_int (i j : Int) : peq (.int i) (.int j) = decide (i = j) := by rw [peq]; rfl
@[simp] theorem peq_bl (i j : Bool) : peq (.bl i) (.bl j) = (i == j) := by rw [peq]
@[simp] theorem peq_str (x y : List Char) : peq (.str x) (.str y) = decide (x = y) := by rw [peq]
@[simp] theorem peq_tup (xs ys : List D) : peq (.tup xs) (.tup ys) = peqL xs ys := by rw [peq]
@[simp] theorem peq_tupk (xs ys : List D) : peq (.tup xs) (.ktup ys) = peqL xs ys := by rw [peq]
@[simp] theorem peq_ktup (xs ys : List D) : peq (.ktup xs) (.tup ys) = peqL xs ys := by rw [peq]
@[simp] theorem peq_lst (m m' : Bool) (xs ys : List D) : peq (.lst m xs) (.lst m' ys) = peqL xs ys := by rw [peq]
@[simp] theorem peqL_nil : peqL [] [] = true := by rw [peqL]
@[simp] theorem peqL_cons (x y : D) (xs ys : List D) : peqL (x :: xs) (y :: ys) = (peq x y && peqL xs ys) := by rw [peqL]
@[simp] theorem peqL_cn (x : D) (xs : List D) : peqL (x :: xs) [] = false := by rw [peqL] <;> simp
@[simp] theorem peqL_nc (x : D) (xs : List D) : peqL [] (x :: xs) = false := by rw [peqL] <;> simp
theorem peqL_ints : ∀ xs ys : List Int, peqL (xs.map D.int) (ys.map D.int) = decide (xs = ys)
  | [], [] => rfl
  | [], _ :: _ => by simp
  | _ :: _, [] => by simp
  | x :: xs, y :: ys => by simp [peqL_ints xs ys]
@[simp] theorem lev_non (n : Nat) : lev n .non = true := by cases n <;> rfl
@[simp] theorem lev_bl (n : Nat) (b : Bool) : lev n (.bl b) = true := by cases n <;> rfl
@[simp] theorem lev_int (n : Nat) (b : Int) : lev n (.int b) = true := by cases n <;> rfl
@[simp] theorem lev_str (n : Nat) (b : List Char) : lev n (.str b) = true := by cases n <;> rfl
@[simp] theorem lev_tup (n : Nat) (xs : List D) : lev (n + 1) (.tup xs) = xs.all (lev n) := by rw [lev]
@[simp] theorem lev_lst (n : Nat) (m : Bool) (xs : List D) : lev (n + 1) (.lst m xs) = xs.all (lev n) := by rw [lev]
@[simp] theorem lev_ktup (n : Nat) (xs : List D) : lev (n + 1) (.ktup xs) = xs.all (lev n) := by rw [lev]
@[simp] theorem levD_non (n : Nat) : levD n .non = true := by cases n <;> rfl
@[simp] theorem levD_bl (n : Nat) (b : Bool) : levD n (.bl b) = true := by cases n <;> rfl
@[simp] theorem levD_int (n : Nat) (b : Int) : levD n (.int b) = decide (b.natAbs.log2 < 1920) := by cases n <;> rfl
@[simp] theorem levD_str (n : Nat) (b : List Char) : levD n (.str b) = true := by cases n <;> rfl
@[simp] theorem levD_tup (n : Nat) (xs : List D) : levD (n + 1) (.tup xs) = xs.all (levD n) := by rw [levD]
@[simp] theorem levD_lst (n : Nat) (m : Bool) (xs : List D) : levD (n + 1) (.lst m xs) = xs.all (levD n) := by rw [levD]
@[simp] theorem levD_ktup (n : Nat) (xs : List D) : levD (n + 1) (.ktup xs) = xs.all (levD n) := by rw [levD]
@[simp] theorem levD_dic (n : Nat) (m t : Bool) (ks vs : List D) : levD (n + 1) (.dic m t ks vs) = (ks.isEmpty && vs.isEmpty) := by rw [levD]
@[simp] theorem diffL_tup (xs : List D) (y : D) : diffL (.tup xs) y = false := (rfl)
@[simp] theorem diffL_lst (m m' : Bool) (xs ys : List D) : diffL (.lst m xs) (.lst m' ys) = (xs.length != ys.length) := (rfl)
@[simp] theorem eq_tup (xs ys : List D) : dCmp .eq (.tup xs) (.tup ys) = if xs.all (lev 7) && ys.all (lev 7) then some (peqL xs ys) else none := by
  rw [dCmp] <;> simp
@[simp] theorem ne_tup (xs ys : List D) : dCmp .ne (.tup xs) (.tup ys) = if xs.all (lev 7) && ys.all (lev 7) then some (!peqL xs ys) else none := by
  rw [dCmp] <;> simp
@[simp] theorem eq_lst (m m' : Bool) (xs ys : List D) : dCmp .eq (.lst m xs) (.lst m' ys) = if xs.all (lev 7) && ys.all (lev 7) then some (peqL xs ys) else if xs.length != ys.length then some false else none := by
  rw [dCmp] <;> simp
@[simp] theorem ne_lst (m m' : Bool) (xs ys : List D) : dCmp .ne (.lst m xs) (.lst m' ys) = if xs.all (lev 7) && ys.all (lev 7) then some (!peqL xs ys) else if xs.length != ys.length then some true else none := by
  rw [dCmp] <;> simp
theorem all_lev_ints (n : Nat) (is : List Int) : (is.map D.int).all (lev n) = true := by simp
end VI

end

section
/-! ViX4: more rewriting. -/
namespace VI
@[simp] theorem mulOk_eq (i j : Int) : mulOk i j = (decide (i.natAbs < 2 ^ 64) || decide (j.natAbs < 2 ^ 64) || decide (i.natAbs.log2 + j.natAbs.log2 < 1000000)) := (rfl)
@[simp] theorem divOk_eq (j : Int) : divOk j = (decide (0 < j) && decide (j.natAbs.log2 < 9000)) := (rfl)
@[simp] theorem log2_small (n : Nat) (h : n < 9223372036854775808) : n.log2 < 9000 := by
  by_cases e : n = 0
  · subst e; decide
  · exact Nat.lt_trans ((Nat.log2_lt e).mpr (show n < 2 ^ 63 from h)) (by decide)
@[simp] theorem powOk_eq (i j : Int) : powOk i j = (decide (0 ≤ j) && decide (j ≤ 1000000) && decide (i.natAbs < 2 ^ 64)) := (rfl)
@[simp] theorem rngOk_eq (i : Int) : rngOk i = (decide (-(2 ^ 62) ≤ i) && decide (i < 2 ^ 62)) := (rfl)
def kSi2 (x : Nat) (p : List Sp1) (k e d : D) (o : Option D) (fr : Fr) : Fl := match o with
  | some (.lst true xs) => (match k with
      | .int i => (match ixOf xs.length i with
        | some n => .nx (fr.set x (some (d.put p (.lst true (xs.set n e)))))
        | none => .no)
      | _ => .no)
  | some (.dic true t ks vs) => if kOk k t && decide (ks.length < line) then .nx (fr.set x (some (d.put p (.dic true t (dputK k ks) (dputV k e ks vs))))) else .no
  | _ => .no
def kSi (x : Nat) (p : List Sp1) (k e : D) (o : Option D) (fr : Fr) : Fl := match o with
  | some d => kSi2 x p k e d (d.get p) fr
  | none => .no
@[simp] theorem setItem_eq (x : Nat) (p : List Sp1) (k e : D) (fr : Fr) : setItem x p k e fr = kSi x p k e (slot fr x) fr := by
  unfold setItem kSi kSi2
  rfl
@[simp] theorem kSi_some (x : Nat) (p : List Sp1) (k e d : D) (fr : Fr) : kSi x p k e (some d) fr = kSi2 x p k e d (d.get p) fr := (rfl)
@[simp] theorem kSi2_lst (x : Nat) (p : List Sp1) (i : Int) (e d : D) (xs : List D) (fr : Fr) : kSi2 x p (.int i) e d (some (.lst true xs)) fr = match ixOf xs.length i with
    | some n => .nx (fr.set x (some (d.put p (.lst true (xs.set n e)))))
    | none => .no := (rfl)
@[simp] theorem kSi2_dic (x : Nat) (p : List Sp1) (k e d : D) (t : Bool) (ks vs : List D) (fr : Fr) : kSi2 x p k e d (some (.dic true t ks vs)) fr = if kOk k t && decide (ks.length < line) then .nx (fr.set x (some (d.put p (.dic true t (dputK k ks) (dputV k e ks vs))))) else .no := (rfl)
def kWh (t : Fr → Rs Bool) (b : Fr → Fl) (n : Nat) (k : Bool) (fr : Fr) : Fl := if k then lp (b fr) (whLoop t b n) else .nx fr
@[simp] theorem kWh_eq (t : Fr → Rs Bool) (b : Fr → Fl) (n : Nat) (k : Bool) (fr : Fr) : kWh t b n k fr = if k then lp (b fr) (whLoop t b n) else .nx fr := (rfl)
theorem wh_succ (t : Fr → Rs Bool) (b : Fr → Fl) (n : Nat) (fr : Fr) : whLoop t b (n + 1) fr = (t fr).fl (kWh t b n) := by
  conv => lhs; unfold whLoop
  unfold Rs.fl kWh lp
  cases t fr with
  | ok k fr' q => cases k <;> simp <;> (cases b fr' <;> rfl)
  | ex c e fr' => rfl
  | no => rfl
/-- a turn goes on -/
def goes (x : Fl) (fr : Fr) : Prop := x = .nx fr ∨ x = .ct fr
@[simp] theorem goes_nx (a b : Fr) : goes (.nx a) b ↔ a = b := by simp [goes]
@[simp] theorem goes_ct (a b : Fr) : goes (.ct a) b ↔ a = b := by simp [goes]
@[simp] theorem goes_ite (p : Prop) [Decidable p] (x y : Fl) (fr : Fr) : goes (if p then x else y) fr ↔ if p then goes x fr else goes y fr := by split <;> rfl
/-- a walk by an invariant: every turn goes on -/
theorem for_inv {turn : D → Fr → Fl} (I : Nat → Fr → Prop) : ∀ {xs : List D} {k : Nat} {fr : Fr}, I k fr → (∀ (i : Nat) (x : D) (fr : Fr), xs[i]? = some x → I (k + i) fr → ∃ fr', goes (turn x fr) fr' ∧ I (k + i + 1) fr') →
    ∃ fr', forLoop turn xs fr = .nx fr' ∧ I (k + xs.length) fr'
  | [], k, fr, h, _ => ⟨fr, rfl, h⟩
  | x :: xs, k, fr, h, st => by
    obtain ⟨fr1, e, h1⟩ := st 0 x fr rfl h
    obtain ⟨fr2, e2, h2⟩ := for_inv I (xs := xs) (k := k + 1) (fr := fr1) h1 fun i y f m hy => by
      have := st (i + 1) y f (by simpa using m) (by rw [show k + (i + 1) = k + 1 + i by omega]; exact hy)
      rw [show k + (i + 1) + 1 = k + 1 + i + 1 by omega] at this
      exact this
    refine ⟨fr2, ?_, by rw [List.length_cons, show k + (xs.length + 1) = k + 1 + xs.length by omega]; exact h2⟩
    rcases e with e | e <;> simp [e, e2]
/-- the same, the invariant knows only the items -/
theorem for_inv0 {turn : D → Fr → Fl} (I : Fr → Prop) {xs : List D} {fr : Fr} (h : I fr) (st : ∀ x ∈ xs, ∀ fr, I fr → ∃ fr', goes (turn x fr) fr' ∧ I fr') : ∃ fr', forLoop turn xs fr = .nx fr' ∧ I fr' :=
  for_inv (fun _ => I) (k := 0) h fun i x fr m hi => st x (List.mem_of_getElem? m) fr hi
/-- a comprehension without a test over data given by a function -/
theorem lc_fun {α : Type} {turn : D → Fr → Rs (Option D)} {fr : Fr} (f : α → D) (g : α → D) {l : List α} (h : ∀ a ∈ l, turn (f a) fr = .ok (some (g a)) fr true) : lcLoop turn (l.map f) fr = .ok (l.map g) fr true := by
  induction l with
  | nil => rfl
  | cons a l ih =>
    rw [List.map_cons, lc_cons, h a (List.mem_cons_self ..), bind_true, kLp_eq, ih fun b m => h b (List.mem_cons_of_mem _ m), bind_true]
    rfl
/-- with a test -/
theorem lc_fil {α : Type} {turn : D → Fr → Rs (Option D)} {fr : Fr} (f : α → D) (t : α → Bool) (g : α → D) {l : List α} (h : ∀ a ∈ l, turn (f a) fr = .ok (if t a then some (g a) else none) fr true) : lcLoop turn (l.map f) fr = .ok ((l.filter t).map g) fr true := by
  induction l with
  | nil => rfl
  | cons a l ih =>
    rw [List.map_cons, lc_cons, h a (List.mem_cons_self ..), bind_true, kLp_eq, ih fun b m => h b (List.mem_cons_of_mem _ m), bind_true]
    cases e : t a <;> simp [e]
@[simp] theorem line_lt (n : Nat) (h : n ≤ 1000) : n < line := Nat.lt_of_le_of_lt h (by decide)
@[simp] theorem peqL_nil_iff (xs : List D) : peqL xs [] = xs.isEmpty := by cases xs <;> simp
@[simp] theorem perm_0 : List.isPerm [0] (List.range 1) = true := by decide
@[simp] theorem perm_0' : List.isPerm [0] [0] = true := by decide
@[simp] theorem perm_01 : List.isPerm [0, 1] (List.range 2) = true := by decide
@[simp] theorem perm_10 : List.isPerm [1, 0] (List.range 2) = true := by decide
@[simp] theorem perm_012 : List.isPerm [0, 1, 2] (List.range 3) = true := by decide
@[simp] theorem perm_021 : List.isPerm [0, 2, 1] (List.range 3) = true := by decide
@[simp] theorem perm_102 : List.isPerm [1, 0, 2] (List.range 3) = true := by decide
@[simp] theorem perm_120 : List.isPerm [1, 2, 0] (List.range 3) = true := by decide
@[simp] theorem perm_201 : List.isPerm [2, 0, 1] (List.range 3) = true := by decide
@[simp] theorem perm_210 : List.isPerm [2, 1, 0] (List.range 3) = true := by decide
end VI

end

section
/-! VnA: the source of draws. -/
namespace VN
open VI
def Mt (gs : List Int) (sm at_ : Int) : D := .dic true false [.str "great".toList, .str "small".toList, .str "at".toList] [.lst true (gs.map .int), .int sm, .int at_]
def SB : Int := (2 ^ 61 - 1) * (2 ^ 31 - 1)
/-- a state of the source -/
def Src (m : D) : Prop := ∃ gs sm at_, m = Mt gs sm at_ ∧ 0 ≤ sm ∧ sm < 4951760154835678088235319297 ∧ 0 ≤ at_
theorem begun_ok {p : Pg} (h : p.defs.lookup "_law_begun" = some SW.f_begun) (W n : Nat) (is : List Int) (hl : is.length ≤ 1000) :
    ∃ m, callN p W (n+1) "_law_begun" [.scr (is.map .int)] = .ok m [some (.scr (is.map .int))] ∧ Src m := by
  have step : ∀ gs : List Int, ∀ x ∈ is.map D.int, ∀ fr, (∃ sm y, fr = [some (D.scr (is.map .int)), some (Mt gs sm 0), y] ∧ 0 ≤ sm ∧ sm < 4951760154835678088235319297) →
      ∃ fr', goes (forT { call := callN p W n, glob := p.glob, W := W, prot := [0], exc := p.exc, callT := callTN p W n } (T.n 2) [] SW.f_begun_b1 x fr) fr' ∧ ∃ sm y, fr' = [some (D.scr (is.map .int)), some (Mt gs sm 0), y] ∧ 0 ≤ sm ∧ sm < 4951760154835678088235319297 := by
    intro gs x hx fr ⟨sm, y, hfr, h0, h1⟩
    obtain ⟨i, _, rfl⟩ := List.mem_map.mp hx
    subst hfr
    by_cases hi : i < 1000000000000000000
    · simp [SW.f_begun_b1, Mt, hi]
      refine ⟨Int.emod_nonneg _ (by decide), Int.emod_lt_of_pos _ (by decide)⟩
    · simp [SW.f_begun_b1, Mt, hi]
      exact ⟨h0, h1⟩
  rw [call_eq _ _ _ _ _ SW.f_begun h rfl]
  simp [SW.f_begun]
  rw [lc_fil D.int (fun i => decide ((1000000000000000000 : Int) ≤ i)) D.int (fun i _ => by
    by_cases hi : (1000000000000000000 : Int) ≤ i <;> simp [hi])]
  have hf : (List.filter (fun i => decide ((1000000000000000000 : Int) ≤ i)) is).length ≤ line := Nat.le_trans (List.length_filter_le _ _) (Nat.le_trans hl (by decide))
  simp [hf]
  generalize List.filter (fun i => decide ((1000000000000000000 : Int) ≤ i)) is = gs
  obtain ⟨fr, e, sm, x, rfl, h0, h1⟩ := for_inv0 (turn := forT { call := callN p W n, glob := p.glob, W := W, prot := [0], exc := p.exc, callT := callTN p W n } (T.n 2) [] SW.f_begun_b1) (xs := is.map D.int) _ ⟨0, _, rfl, by decide, by decide⟩ (step gs)
  simp only [Mt] at e
  simp at e
  rw [e]
  exact ⟨Mt gs sm 0, by simp [Mt], gs, sm, 0, rfl, h0, h1, by decide⟩
theorem get_some {α : Type} {l : List α} {j : Nat} {a : α} (h : l[j]? = some a) : ∀ hj, l[j]'hj = a := fun hj => by
  rw [List.getElem?_eq_getElem hj] at h; exact Option.some.inj h
theorem prime_at (j : Nat) (h : j < 8) : ∃ q : Int, [D.int 2147483647, D.int 2147483629, D.int 2147483587, D.int 2147483579, D.int 2147483563, D.int 2147483549, D.int 2147483543, D.int 2147483497][j]? = some (D.int q) ∧ 2147483497 ≤ q ∧ q ≤ 2147483647 := by
  match j, h with
  | 0, _ => exact ⟨_, rfl, by decide, by decide⟩
  | 1, _ => exact ⟨_, rfl, by decide, by decide⟩
  | 2, _ => exact ⟨_, rfl, by decide, by decide⟩
  | 3, _ => exact ⟨_, rfl, by decide, by decide⟩
  | 4, _ => exact ⟨_, rfl, by decide, by decide⟩
  | 5, _ => exact ⟨_, rfl, by decide, by decide⟩
  | 6, _ => exact ⟨_, rfl, by decide, by decide⟩
  | 7, _ => exact ⟨_, rfl, by decide, by decide⟩
theorem draw_tail {p : Pg} (W n : Nat) (gs : List Int) (sm at_ k : Int) (o3 o4 : Option D) (a0 : 0 ≤ sm) (a1 : sm < 4951760154835678088235319297) (a2 : 0 ≤ at_) (h0 : 0 < k) :
    ∃ v y5 y6, exs { call := callN p W n, glob := p.glob, W := W, prot := [0, 1], exc := p.exc, callT := callTN p W n } SW.f_draw_r1 [some (Mt gs sm (at_ + 1)), some (.int k), some (.int at_), o3, o4, none, none] = .rt (.int v) [some (Mt gs sm (at_ + 1)), some (.int k), some (.int at_), o3, o4, y5, y6] ∧ 0 ≤ v ∧ v < k := by
  obtain ⟨j, hj⟩ : ∃ j : Nat, at_ % 8 = (j : Int) := ⟨(at_ % 8).toNat, by omega⟩
  have hj8 : j < 8 := by omega
  obtain ⟨q, hq, q0, q1⟩ := prime_at j hj8
  have hj9 : (j : Int) < 8 := by omega
  have hq0 : 0 < q := by omega
  have hmul : ∀ x : Int, (x % q).natAbs < 18446744073709551616 := fun x => by
    have := Int.emod_nonneg x (show q ≠ 0 by omega)
    have := Int.emod_lt_of_pos x hq0
    omega
  have hq' := get_some hq
  simp [SW.f_draw_r1, Mt, hj, hj8, hj9, hq, hq', hq0, hmul, h0]
  exact ⟨Int.emod_nonneg _ (by omega), Int.emod_lt_of_pos _ h0⟩
theorem draw_ok {p : Pg} (h : p.defs.lookup "_law_draw" = some SW.f_draw) (W n : Nat) {m : D} (hm : Src m) {k : Int} (h0 : 0 < k) (h1 : k.natAbs.log2 < 9000) :
    ∃ v m', callN p W (n+1) "_law_draw" [m, .int k] = .ok (.int v) [some m', some (.int k)] ∧ Src m' ∧ 0 ≤ v ∧ v < k := by
  obtain ⟨gs, sm, at_, rfl, a0, a1, a2⟩ := hm
  rw [call_eq _ _ _ _ _ SW.f_draw h rfl]
  cases gs with
  | nil => 
    obtain ⟨v, y5, y6, e, v0, v1⟩ := draw_tail (p := p) W n [] sm at_ k none none a0 a1 a2 h0
    simp [Mt] at e
    simp [SW.f_draw, Mt]
    rw [e]
    exact ⟨v, Mt [] sm (at_ + 1), by simp [Mt], ⟨[], sm, at_ + 1, rfl, a0, a1, by omega⟩, v0, v1⟩
  | cons g gs =>
    have hl : (0 : Int) < gs.length + 1 := by omega
    obtain ⟨j, hj⟩ : ∃ j : Nat, at_ % ((gs.length : Int) + 1) = (j : Int) := ⟨(at_ % ((gs.length : Int) + 1)).toNat, by
      have := Int.emod_nonneg at_ (show ((gs.length : Int) + 1) ≠ 0 by omega)
      omega⟩
    have hj8 : j < gs.length + 1 := by
      have := Int.emod_lt_of_pos at_ hl
      omega
    have hj9 : (j : Int) < gs.length + 1 := by omega
    obtain ⟨c, hc⟩ : ∃ c : Int, (g :: gs)[j]? = some c := ⟨_, List.getElem?_eq_getElem (by simpa using hj8)⟩
    have hcd : (D.int g :: List.map D.int gs)[j]? = some (.int c) := by
      rw [← List.map_cons, List.getElem?_map, hc]; rfl
    have hcd' := get_some hcd
    have hc' := get_some hc
    by_cases hp : 0 < c
    · simp [SW.f_draw, Mt, hj, hj8, hj9, hl, hcd, hcd', hc', hp, h0, h1]
      exact ⟨_, _, ⟨rfl, rfl⟩, ⟨(g :: gs).set j (c / k), sm, at_ + 1, by simp [Mt, List.map_set], a0, a1, by omega⟩, Int.emod_nonneg _ (by omega), Int.emod_lt_of_pos _ h0⟩
    · obtain ⟨v, y5, y6, e, v0, v1⟩ := draw_tail (p := p) W n (g :: gs) sm at_ k (some (.int j)) (some (.int c)) a0 a1 a2 h0
      simp [Mt] at e
      simp [SW.f_draw, Mt, hj, hj8, hj9, hl, hcd, hcd', hc', hp, h0, h1]
      rw [e]
      exact ⟨v, Mt (g :: gs) sm (at_ + 1), by simp [Mt], ⟨g :: gs, sm, at_ + 1, rfl, a0, a1, by omega⟩, v0, v1⟩
theorem src_pure {m : D} (h : Src m) : m.pure = false := by
  obtain ⟨gs, sm, a, rfl, _⟩ := h
  simp [Mt]
end VN

end

section
/-! VnB: numbers. -/
namespace VN
open VI
structure Q4 where
  a : Int
  b : Int
  c : Int
  d : Int
  deriving DecidableEq
def Q4.odd (x : Q4) : Bool := x.a % 2 == 1 || (x.b % 2 == 1 || (x.c % 2 == 1 || x.d % 2 == 1))
def Q4.half (x : Q4) : Q4 := ⟨x.a / 2, x.b / 2, x.c / 2, x.d / 2⟩
def Q4.ds (x : Q4) : List D := [.int x.a, .int x.b, .int x.c, .int x.d]
/-- a number as data -/
def num (x : Q4) (p : Int) : D := .tup [.int x.a, .int x.b, .int x.c, .int x.d, .int p]
def red : Q4 → Nat → Q4 × Nat
  | x, 0 => (x, 0)
  | x, p + 1 => if x.odd then (x, p + 1) else red x.half p
theorem pe2 (i : Int) : (i % 2 = 0) = ¬ (i % 2 = 1) := by
  apply propext; constructor <;> intro h <;> omega
section
variable {p : Pg} (W n : Nat)
theorem is_integer_int (h : p.defs.lookup "is_integer" = some SW.f_is_integer) (i : Int) : callN p W (n+1) "is_integer" [.int i] = .ok (.bl true) [some (.int i)] := by
  rw [call_eq _ _ _ _ _ SW.f_is_integer h rfl]
  simp [SW.f_is_integer]
theorem is_number_num (h : p.defs.lookup "is_integer" = some SW.f_is_integer) (h' : p.defs.lookup "is_number" = some SW.f_is_number) (hg : p.glob "MAX_DENOMINATOR" = some (.int 4000)) (x : Q4) (e : Int) (h0 : 0 ≤ e) (h1 : e ≤ 4000) :
    callN p W (n+2) "is_number" [num x e] = .ok (.bl (e == 0 || x.odd)) [some (num x e)] := by
  rw [call_eq _ _ _ _ _ SW.f_is_number h' rfl]
  simp [SW.f_is_number, num, is_integer_int W n h, hg, h0, h1, Q4.odd]
  by_cases he : e = 0
  · simp [he]
  · have : (e == 0) = false := by simpa using he
    simp [he, this]
    rfl
theorem need_number_num (h : p.defs.lookup "is_integer" = some SW.f_is_integer) (h' : p.defs.lookup "is_number" = some SW.f_is_number) (h2 : p.defs.lookup "need_number" = some SW.f_need_number) (hg : p.glob "MAX_DENOMINATOR" = some (.int 4000)) (x : Q4) (e : Int) (h0 : 0 ≤ e) (h1 : e ≤ 4000) (ho : (e == 0 || x.odd) = true) :
    callN p W (n+3) "need_number" [num x e] = .ok .non [some (num x e)] := by
  have hp : (num x e).pure = true := by simp [num]
  rw [call_eq _ _ _ _ _ SW.f_need_number h2 rfl]
  simp [SW.f_need_number, is_number_num W n h h' hg x e h0 h1, ho, hp]
theorem ev01 (i : Int) : decide (i % 2 = 0) = !(i % 2 == 1) := by
  rcases Int.emod_two_eq i with h | h <;> simp [h]
theorem red_test (c : Cv) (x : Q4) (q : Int) (m : Bool) (o : Option D) : ∃ m', evC c SW.f_reduced_t1 [some (.lst m x.ds), some (.int q), o] = .ok (decide (0 < q) && !x.odd) [some (.lst m' x.ds), some (.int q), o] true := by
  refine ⟨m, ?_⟩
  by_cases hq : 0 < q
  · cases m <;> simp [SW.f_reduced_t1, Q4.ds, hq, ev01, Q4.odd]
  · cases m <;> simp [SW.f_reduced_t1, Q4.ds, hq]
theorem red_turn (c : Cv) (x : Q4) (q : Int) (m : Bool) (o : Option D) : ∃ o', exs { c with prot := [] } SW.f_reduced_w1 [some (.lst m x.ds), some (.int q), o] = .nx [some (.lst true x.half.ds), some (.int (q - 1)), o'] := by
  cases m <;> simp [SW.f_reduced_w1, Q4.ds, Q4.half]
theorem reduced_loop (c : Cv) : ∀ (q : Nat) (x : Q4) (fuel : Nat) (m : Bool) (o : Option D), q < fuel → ∃ m' o', whLoop (evC c SW.f_reduced_t1) (exs { c with prot := [] } SW.f_reduced_w1) fuel [some (.lst m x.ds), some (.int q), o] = .nx [some (.lst m' (red x q).1.ds), some (.int (red x q).2), o'] := by
  intro q
  induction q with
  | zero =>
    intro x fuel m o hf
    obtain ⟨fuel, rfl⟩ : ∃ f, fuel = f + 1 := ⟨fuel - 1, by omega⟩
    obtain ⟨m', e⟩ := red_test c x ((0 : Nat) : Int) m o
    rw [wh_succ, e]
    exact ⟨m', o, by simp [red]⟩
  | succ q ih =>
    intro x fuel m o hf
    obtain ⟨fuel, rfl⟩ : ∃ f, fuel = f + 1 := ⟨fuel - 1, by omega⟩
    obtain ⟨m', e⟩ := red_test c x ((q + 1 : Nat) : Int) m o
    rw [wh_succ, e]
    have hp : (0 : Int) < ((q + 1 : Nat) : Int) := by omega
    by_cases ho : x.odd = true
    · exact ⟨m', o, by simp [red, ho]⟩
    · obtain ⟨o2, e2⟩ := red_turn c x ((q + 1 : Nat) : Int) m' o
      obtain ⟨m3, o3, e3⟩ := ih x.half fuel true o2 (by omega)
      refine ⟨m3, o3, ?_⟩
      have eq : ((q + 1 : Nat) : Int) - 1 = (q : Int) := by omega
      rw [eq] at e2
      simp only [fl_ok, kWh_eq, hp, decide_true, ho, Bool.not_false, Bool.and_self, if_true, e2, lp_nx, e3, red, if_false, Bool.false_eq_true]
theorem reduced_ok (h : p.defs.lookup "reduced" = some SW.f_reduced) (x : Q4) (q : Nat) (m : Bool) (hq : q < W) : callN p W (n+1) "reduced" [.lst m x.ds, .int q] = .ok (num (red x q).1 (red x q).2) [none, none] := by
  rw [call_eq _ _ _ _ _ SW.f_reduced h rfl]
  obtain ⟨m', o', e⟩ := reduced_loop { call := callN p W n, glob := p.glob, W := W, prot := [], exc := p.exc, callT := callTN p W n } q x W m none hq
  have e' : exs { call := callN p W n, glob := p.glob, W := W, prot := SW.f_reduced.prot, exc := p.exc, callT := callTN p W n } SW.f_reduced.body (List.map some [D.lst m x.ds, D.int q] ++ List.replicate (SW.f_reduced.n - [D.lst m x.ds, D.int q].length) none) = .rt (num (red x q).1 (red x q).2) [some (.lst m' (red x q).1.ds), some (.int (red x q).2), o'] := by
    simp [SW.f_reduced]
    rw [e]
    simp [num, Q4.ds]
  rw [e']
  rfl
/-- the product before it is reduced -/
def Q4.mul (x y : Q4) : Q4 := ⟨x.a * y.a + -x.b * y.d + -x.c * y.c + -x.d * y.b, x.a * y.b + x.b * y.a + -x.c * y.d + -x.d * y.c, x.a * y.c + x.b * y.b + x.c * y.a + -x.d * y.d, x.a * y.d + x.b * y.c + x.c * y.b + x.d * y.a⟩
def okMul (x y : Q4) : Prop := ∀ i ∈ [x.a, x.b, x.c, x.d], ∀ j ∈ [y.a, y.b, y.c, y.d], i.natAbs.log2 + j.natAbs.log2 < 1000000
theorem product_ok (h : p.defs.lookup "reduced" = some SW.f_reduced) (h' : p.defs.lookup "product_of" = some SW.f_product_of) (x y : Q4) (e f : Nat) (hq : e + f < W) (hm : okMul x y) :
    callN p W (n+2) "product_of" [num x e, num y f] = .ok (num (red (x.mul y) (e + f)).1 (red (x.mul y) (e + f)).2) [some (num x e), some (num y f)] := by
  rw [call_eq _ _ _ _ _ SW.f_product_of h' rfl]
  simp [okMul] at hm
  have hr := reduced_ok W n h (x.mul y) (e + f) true hq
  generalize red (x.mul y) (e + f) = r at hr
  simp only [Q4.ds, Q4.mul] at hr
  have ec : ((e + f : Nat) : Int) = (e : Int) + f := by omega
  rw [ec] at hr
  simp [SW.f_product_of, num, SW.f_product_of_b1, SW.f_product_of_b2, rngL, hm, hr]
def Q4.conj (x : Q4) : Q4 := ⟨x.a, -x.d, -x.c, -x.b⟩
def Q4.zero : Q4 := ⟨0, 0, 0, 0⟩
def Q4.one : Q4 := ⟨1, 0, 0, 0⟩
def Q4.add (x y : Q4) : Q4 := ⟨x.a + y.a, x.b + y.b, x.c + y.c, x.d + y.d⟩
def Q4.smul (k : Int) (x : Q4) : Q4 := ⟨x.a * k, x.b * k, x.c * k, x.d * k⟩
/-- times w -/
def Q4.rot (x : Q4) : Q4 := ⟨-x.d, x.a, x.b, x.c⟩
def rotN : Nat → Q4 → Q4
  | 0, x => x
  | n + 1, x => rotN n x.rot
structure NumP (p : Pg) : Prop where
  is_integer : p.defs.lookup "is_integer" = some SW.f_is_integer
  is_number : p.defs.lookup "is_number" = some SW.f_is_number
  need_number : p.defs.lookup "need_number" = some SW.f_need_number
  reduced : p.defs.lookup "reduced" = some SW.f_reduced
  product_of : p.defs.lookup "product_of" = some SW.f_product_of
  multiply : p.defs.lookup "multiply" = some SW.f_multiply
  conjugated : p.defs.lookup "conjugated" = some SW.f_conjugated
  maxd : p.glob "MAX_DENOMINATOR" = some (.int 4000)
def Lowest (x : Q4) (e : Nat) : Prop := e ≤ 4000 ∧ (e = 0 ∨ x.odd = true)
theorem need_ok (P : NumP p) {x : Q4} {e : Nat} (hx : Lowest x e) : callN p W (n+3) "need_number" [num x e] = .ok .non [some (num x e)] :=
  need_number_num W n P.is_integer P.is_number P.need_number P.maxd x e (by omega) (by have := hx.1; omega) (by
    rcases hx.2 with h | h <;> simp [h])
theorem multiply_ok (P : NumP p) {x y : Q4} {e f : Nat} (hx : Lowest x e) (hy : Lowest y f) (hq : e + f < W) (hm : okMul x y) :
    callN p W (n+4) "multiply" [num x e, num y f] = .ok (num (red (x.mul y) (e + f)).1 (red (x.mul y) (e + f)).2) [some (num x e), some (num y f)] := by
  rw [call_eq _ _ _ _ _ SW.f_multiply P.multiply rfl]
  have h1 := need_ok (p := p) W n P hx
  have h2 := need_ok (p := p) W n P hy
  have h3 := product_ok (p := p) W (n + 1) P.reduced P.product_of x y e f hq hm
  generalize red (x.mul y) (e + f) = r at h3
  have p1 : ∀ (x : Q4) (e : Int), (num x e).pure = true := fun x e => by simp [num]
  simp [SW.f_multiply, h1, h2, h3, p1]
theorem conjugated_ok (P : NumP p) {x : Q4} {e : Nat} (hx : Lowest x e) : callN p W (n+4) "conjugated" [num x e] = .ok (num x.conj e) [some (num x e)] := by
  rw [call_eq _ _ _ _ _ SW.f_conjugated P.conjugated rfl]
  have h1 := need_ok (p := p) W n P hx
  simp only [num] at h1
  simp [SW.f_conjugated, num, h1, Q4.conj]
end
end VN

end

section
/-! ViX5: methods, dicts, comprehensions of dicts by rewriting. -/
namespace VI
section
variable (m m' t : Bool) (xs ys ks vs ds : List D) (fr : Fr) (s : List Char)
@[simp] theorem mwT_append : mwT .append (.lst m xs) = some "list" := (rfl)
@[simp] theorem mwT_pop' : mwT .pop (.lst m xs) = some "list" := (rfl)
@[simp] theorem mrT_join' : mrT .join (.str s) = some "str" := (rfl)
@[simp] theorem mrT_get' : mrT .get (.dic m t ks vs) = some "dict" := (rfl)
def mwP (m : MW) (T : String) (x : Nat) (p : List Sp1) (ds : List D) (o : Option D) (fr : Fr) : Rs Rv := match o with
  | some d => (match d.get p with
    | some e => if mwT m e = some T then (match mwV m e ds with
      | some (res, e') => .ok (.tmp res) (fr.set x (some (d.put p e'))) false
      | none => .no) else .no
    | none => .no)
  | none => .no
@[simp] theorem mwDo_plc (w : MW) (T : String) (x : Nat) (p : List Sp1) : mwDo w (some T) (.plc x p) ds fr = mwP w T x p ds (slot fr x) fr := by
  unfold mwDo mwP
  simp only [Option.isSome_some, Bool.true_and, decide_eq_true_eq]
  try rfl
@[simp] theorem mwP_nil (w : MW) (T : String) (x : Nat) (d : D) : mwP w T x [] ds (some d) fr = if mwT w d = some T then (match mwV w d ds with
      | some (res, e') => .ok (.tmp res) (fr.set x (some e')) false
      | none => .no) else .no := (rfl)
@[simp] theorem mwV_append (d : D) : mwV .append (.lst true xs) [d] = if xs.length < line then some (.non, .lst true (xs ++ [d])) else none := (rfl)
@[simp] theorem mwV_pop (i : Int) : mwV .pop (.lst true xs) [.int i] = match ixOf xs.length i with
    | some n => (match xs[n]? with
      | some x => some (x, .lst true (xs.eraseIdx n))
      | none => none)
    | none => none := (rfl)
@[simp] theorem mrDo_eq (w : MR) (T : String) (d : D) : mrDo w (some T) d ds fr = if mrT w d = some T then kOpt (mrV w d ds) fr else .no := by
  unfold mrDo kOpt
  simp only [Option.isSome_some, Bool.true_and, decide_eq_true_eq]
  try rfl
@[simp] theorem mrV_join : mrV .join (.str s) [.lst m xs] = (strsOf xs).bind fun l => if (l.map (·.length)).sum + l.length * s.length ≤ line then some (.str (joinS s l)) else none := (rfl)
@[simp] theorem mrV_get2 (k x : D) : mrV .get (.dic m t ks vs) [k, x] = if kOk k t then (match dfind k ks vs with
      | some v => if v.pure then some v else none
      | none => if x.pure then some x else none) else none := (rfl)
@[simp] theorem strs_nil : strsOf [] = some [] := (rfl)
@[simp] theorem strs_cons (ds : List D) : strsOf (.str s :: ds) = (strsOf ds).map (s :: ·) := (rfl)
@[simp] theorem strs_map (l : List (List Char)) : strsOf (l.map D.str) = some l := by
  induction l with
  | nil => rfl
  | cons a l ih => simp [ih]
@[simp] theorem enumV_lst : enumV (.lst m xs) = some (enumL 0 xs) := (rfl)
@[simp] theorem zip_tl : zipV (.tup xs) (.lst m ys) = if pureL xs && pureL ys then some (zipL xs ys) else none := (rfl)
@[simp] theorem zip_lt : zipV (.lst m xs) (.tup ys) = if pureL xs && pureL ys then some (zipL xs ys) else none := (rfl)
theorem zipL_map {α : Type} (f g : α → D) (l r : List α) : zipL (l.map f) (r.map g) = (l.zip r).map fun p => .tup [f p.1, g p.2] := by
  induction l generalizing r with
  | nil => rfl
  | cons a l ih => cases r with
    | nil => rfl
    | cons b r => simp [ih]
theorem zipL_map2 {α β : Type} (f : α → D) (g : β → D) (l : List α) (r : List β) : zipL (l.map f) (r.map g) = (l.zip r).map fun p => .tup [f p.1, g p.2] := by
  induction l generalizing r with
  | nil => rfl
  | cons a l ih => cases r with
    | nil => rfl
    | cons b r => simp [ih]
@[simp] theorem iter_str : iterV (.str s) = some (s.map fun c => .str [c]) := (rfl)
@[simp] theorem keysR_eq (i : Nat) : keysR i fr = (freeze i [] fr).bind fun d fr => match d with
  | .dic _ false ks _ => .ok ⟨ks, none⟩ fr true
  | _ => .no := (rfl)
@[simp] theorem freeze_eq (i : Nat) : freeze i [] fr = match slot fr i with
  | some d => if d.frz.pure then .ok d.frz (fr.set i (some d.frz)) false else .no
  | none => .no := by
  unfold freeze
  cases slot fr i <;> rfl
@[simp] theorem in_lst (x : D) : dCmp .isin x (.lst m xs) = if lev 8 x && lev 8 (.lst true xs) then some (xs.any fun y => peq y x) else none := by cases x <;> rfl
@[simp] theorem in_tup (x : D) : dCmp .isin x (.tup xs) = if lev 8 x && lev 8 (.tup xs) then some (xs.any fun y => peq y x) else none := by cases x <;> rfl
@[simp] theorem in_ktup (x : D) : dCmp .isin x (.ktup xs) = if lev 8 x && lev 8 (.ktup xs) then some (xs.any fun y => peq y x) else none := by cases x <;> rfl
@[simp] theorem nin_tup (x : D) : dCmp .notin x (.tup xs) = if lev 8 x && lev 8 (.tup xs) then some (!xs.any fun y => peq y x) else none := by cases x <;> rfl
@[simp] theorem nin_ktup (x : D) : dCmp .notin x (.ktup xs) = if lev 8 x && lev 8 (.ktup xs) then some (!xs.any fun y => peq y x) else none := by cases x <;> rfl
@[simp] theorem in_dic (x : D) : dCmp .isin x (.dic m t ks vs) = if kOk x t then some (dfind x ks vs).isSome else none := by cases x <;> rfl
@[simp] theorem nin_dic (x : D) : dCmp .notin x (.dic m t ks vs) = if kOk x t then some (!(dfind x ks vs).isSome) else none := by cases x <;> rfl
@[simp] theorem in_sign (c : Char) : dCmp .isin (.str [c]) (.str s) = some (s.contains c) := (rfl)
@[simp] theorem le_tups : dCmp .le (.tup xs) (.tup ys) = if alikeL xs ys && lev 8 (.tup xs) && lev 8 (.tup ys) then some (!dltL ys xs) else none := (rfl)
@[simp] theorem alikeL_nil : alikeL [] [] = true := (rfl)
@[simp] theorem alikeL_cons (x y : D) : alikeL (x :: xs) (y :: ys) = (alikeD x y && alikeL xs ys) := (rfl)
@[simp] theorem alike_str (x y : List Char) : alikeD (.str x) (.str y) = true := (rfl)
@[simp] theorem alike_int (x y : Int) : alikeD (.int x) (.int y) = true := (rfl)
@[simp] theorem alike_tup : alikeD (.tup xs) (.tup ys) = alikeL xs ys := (rfl)
@[simp] theorem sub_dic (k : D) : subV (.dic m t ks vs) k = if kOk k t then some (.ky k) else none := by cases k <;> rfl
end
/-! ### dicts with texts as keys -/
section
variable {α : Type}
theorem find_map (k : List Char) (f : List Char → D) : ∀ P : List (List Char), dfind (.str k) (P.map .str) (P.map f) = if k ∈ P then some (f k) else none
  | [] => rfl
  | p :: P => by
    have ih := find_map k f P
    simp only [List.map_cons, dfind, keq, List.mem_cons]
    by_cases h : p = k
    · subst h; simp
    · have h2 : ¬ k = p := fun e => h e.symm
      simp [h, h2, ih]
theorem putK_map (k : List Char) : ∀ P : List (List Char), k ∈ P → dputK (.str k) (P.map .str) = P.map .str
  | [], h => by cases h
  | p :: P, h => by
    simp only [List.map_cons, dputK, keq]
    by_cases e : p = k
    · simp [e]
    · simp only [e, decide_false, Bool.false_eq_true, if_false]
      rw [putK_map k P (by rcases List.mem_cons.mp h with h | h; exact absurd h.symm e; exact h)]
theorem putV_map (k : List Char) (d : D) (f : List Char → D) : ∀ P : List (List Char), P.Nodup → k ∈ P → dputV (.str k) d (P.map .str) (P.map f) = P.map fun q => if q = k then d else f q
  | [], _, h => by cases h
  | p :: P, n, h => by
    obtain ⟨n1, n2⟩ := List.nodup_cons.mp n
    simp only [List.map_cons, dputV, keq]
    by_cases e : p = k
    · subst e
      simp only [decide_true, if_true, List.cons.injEq, true_and]
      refine List.map_congr_left fun q hq => ?_
      have : ¬ q = p := fun e => n1 (by rw [← e]; exact hq)
      rw [if_neg this]
    · simp only [e, decide_false, Bool.false_eq_true, if_false]
      rw [putV_map k d f P n2 (by rcases List.mem_cons.mp h with h | h; exact absurd h.symm e; exact h)]
theorem putK_new (k : List Char) : ∀ ks : List (List Char), k ∉ ks → dputK (.str k) (ks.map .str) = (ks ++ [k]).map .str
  | [], _ => rfl
  | p :: P, h => by
    simp only [List.mem_cons, not_or] at h
    have e : ¬ p = k := fun e => h.1 e.symm
    simp only [List.map_cons, dputK, keq, e, decide_false, Bool.false_eq_true, if_false, List.cons_append]
    rw [putK_new k P h.2]
theorem putV_new (k : List Char) (d : D) : ∀ (ks : List (List Char)) (vs : List D), ks.length = vs.length → k ∉ ks → dputV (.str k) d (ks.map .str) vs = vs ++ [d]
  | [], [], _, _ => rfl
  | p :: P, v :: vs, hl, h => by
    simp only [List.mem_cons, not_or] at h
    have e : ¬ p = k := fun e => h.1 e.symm
    simp only [List.map_cons, dputV, keq, e, decide_false, Bool.false_eq_true, if_false, List.cons_append]
    rw [putV_new k d P vs (by simpa using hl) h.2]
/-- a dict comprehension, the keys apart -/
theorem dc_gen {turn : D → Fr → Rs (Option (D × D))} {fr : Fr} (f : α → D) (t : α → Bool) (k : α → List Char) (v : α → D) : ∀ (l : List α) (ks : List (List Char)) (vs : List D), ks.length = vs.length → (∀ a ∈ l, turn (f a) fr = .ok (if t a then some (.str (k a), v a) else none) fr true) →
    (ks ++ (l.filter t).map k).Nodup → ks.length + l.length < line → dcLoop turn (l.map f) (ks.map .str) vs fr = .ok ((ks ++ (l.filter t).map k).map .str, vs ++ (l.filter t).map v) fr true
  | [], ks, vs, _, _, _, _ => by simp [dcLoop]
  | a :: l, ks, vs, hl, h, nd, hn => by
    simp only [List.length_cons] at hn
    simp only [List.map_cons]
    unfold dcLoop
    rw [h a (List.mem_cons_self ..), bind_true]
    cases ht : t a with
    | false =>
      simp only [Bool.false_eq_true, if_false]
      rw [dc_gen f t k v l ks vs hl (fun b m => h b (List.mem_cons_of_mem _ m)) (by simpa [ht] using nd) (by omega)]
      simp [ht]
    | true =>
      have hk : k a ∉ ks := fun m => by
        have := (List.nodup_append.mp nd).2.2 _ m (k a) (by simp [ht])
        exact this rfl
      simp only [if_true]
      rw [if_pos (by simp [D.scal]; omega), putK_new _ _ hk, putV_new _ _ _ _ hl hk]
      rw [dc_gen f t k v l (ks ++ [k a]) (vs ++ [v a]) (by simp [hl]) (fun b m => h b (List.mem_cons_of_mem _ m)) (by simpa [ht] using nd) (by simp; omega)]
      simp [ht]
theorem dc_fil {turn : D → Fr → Rs (Option (D × D))} {fr : Fr} (f : α → D) (t : α → Bool) (k : α → List Char) (v : α → D) {l : List α} (h : ∀ a ∈ l, turn (f a) fr = .ok (if t a then some (.str (k a), v a) else none) fr true) (nd : ((l.filter t).map k).Nodup) (hn : l.length < line) :
    dcLoop turn (l.map f) [] [] fr = .ok (((l.filter t).map k).map .str, (l.filter t).map v) fr true := by
  have := dc_gen f t k v l [] [] rfl h (by simpa using nd) (by simpa using hn)
  simpa using this
theorem dc_fun {turn : D → Fr → Rs (Option (D × D))} {fr : Fr} (f : α → D) (k : α → List Char) (v : α → D) {l : List α} (h : ∀ a ∈ l, turn (f a) fr = .ok (some (.str (k a), v a)) fr true) (nd : (l.map k).Nodup) (hn : l.length < line) :
    dcLoop turn (l.map f) [] [] fr = .ok ((l.map k).map .str, l.map v) fr true := by
  have e : l.filter (fun _ => true) = l := List.filter_eq_self.mpr fun _ _ => rfl
  have := dc_fil f (fun _ => true) k v (l := l) (fun a m => by simpa using h a m) (by rw [e]; exact nd) hn
  rw [e] at this
  exact this
end
end VI

end

section
namespace L02
open VI VN
def lvl : Nat := 10
def W : Nat := 100000
def isI : D → Bool
  | .int _ => true
  | _ => false
/-- an item -/
structure Im (x : D) : Prop where
  pure : x.pure = true
  ty : (tyD x).isSome = true
theorem Im.int (i : Int) : Im (.int i) := ⟨rfl, rfl⟩
theorem isint_ok {p : Pg} {f : String} (h : p.defs.lookup f = some SW.f_is_integer) (W n : Nat) {x : D} (hx : Im x) : callN p W (n+1) f [x] = .ok (.bl (isI x)) [some x] := by
  obtain ⟨h1, h2⟩ := hx
  rw [call_eq _ _ _ _ _ SW.f_is_integer h rfl]
  cases x with
  | dic m t ks vs => cases t <;> simp [SW.f_is_integer, isI, tyD, h1, isT, isTs] at h2 ⊢
  | _ => simp [SW.f_is_integer, isI, tyD, h1, isT, isTs] at h2 ⊢
theorem ne_nil (m m' : Bool) (xs : List D) : dCmp .ne (.lst m xs) (.lst m' []) = some (!xs.isEmpty) := by
  rw [ne_lst]
  cases xs <;> simp
theorem eq_nil (m m' : Bool) (xs : List D) : dCmp .eq (.lst m xs) (.lst m' []) = some (xs.isEmpty) := by
  rw [eq_lst]
  cases xs <;> simp
theorem bools_isI (xs : List D) : boolsOf (xs.filterMap fun x => some (.bl (isI x))) = some (xs.map isI) := by
  induction xs with
  | nil => rfl
  | cons x xs ih => simp at ih; simp [ih]
theorem fil_isI (xs : List D) : (xs.filterMap fun x => if isI x then none else some x).isEmpty = xs.all isI := by
  induction xs with
  | nil => rfl
  | cons x xs ih => cases h : isI x <;> simp [h] at ih ⊢; simpa using ih
/-- a thing that is asked about -/
structure Th (x : D) : Prop where
  pure : x.pure = true
  ty : (tyD x).isSome = true
  kt : ∀ xs, x ≠ .ktup xs
  lev : levD 8 x = true
  sz : rsz x ≤ 100000
  its : ∀ xs, x = .tup xs → ∀ y ∈ xs, Im y
def numB : D → Bool
  | .tup [.int a, .int b, .int c, .int d, .int e] => decide (0 ≤ e) && decide (e ≤ 4000) && (e == 0 || (⟨a, b, c, d⟩ : Q4).odd)
  | _ => false
def scaB : D → Bool
  | .non => true
  | .tup [.int a, .int b] => decide (-2000 ≤ a) && decide (a ≤ 2000) && decide (0 ≤ b) && decide (b ≤ 7)
  | _ => false
theorem isI_int {x : D} (h : isI x = true) : ∃ i, x = .int i := by
  cases x <;> first | exact ⟨_, rfl⟩ | (simp [isI] at h)
theorem five {xs : List D} (h : xs.length = 5) : ∃ a b c d e, xs = [a, b, c, d, e] := by
  match xs, h with
  | [a, b, c, d, e], _ => exact ⟨a, b, c, d, e, rfl⟩
theorem two {xs : List D} (h : xs.length = 2) : ∃ a b, xs = [a, b] := by
  match xs, h with
  | [a, b], _ => exact ⟨a, b, rfl⟩
theorem numB_len {xs : List D} (h : xs.length ≠ 5) : numB (.tup xs) = false := by
  unfold numB; split
  · rename_i e; cases e; simp at h
  · rfl
theorem numB_not {a b c d e : D} (h : (isI a && (isI b && (isI c && (isI d && isI e)))) = false) : numB (.tup [a, b, c, d, e]) = false := by
  unfold numB; split
  · rename_i e; cases e; simp [isI] at h
  · rfl
theorem scaB_len {xs : List D} (h : xs.length ≠ 2) : scaB (.tup xs) = false := by
  unfold scaB; split
  · rename_i e; cases e
  · rename_i e; cases e; simp at h
  · rfl
theorem scaB_not {a b : D} (h : (isI a && isI b) = false) : scaB (.tup [a, b]) = false := by
  unfold scaB; split
  · rename_i e; cases e
  · rename_i e; cases e; simp [isI] at h
  · rfl
theorem num_ok (n : Nat) {x : D} (hx : Th x) : callN pg W (n+2) "is_number" [x] = .ok (.bl (numB x)) [some x] := by
  obtain ⟨h1, h2, h3, h4, h5, h6⟩ := hx
  have hg : pg.glob "MAX_DENOMINATOR" = some (.int 4000) := rfl
  rw [call_eq _ _ _ _ _ SW.f_is_number rfl rfl]
  cases x with
  | tup xs =>
    have h6 := h6 xs rfl
    by_cases hl : xs.length = 5
    · obtain ⟨a, b, c, d, e, rfl⟩ := five hl
      have ia := isint_ok (p := pg) (f := "is_integer") rfl W n (h6 a (by simp))
      have ib := isint_ok (p := pg) (f := "is_integer") rfl W n (h6 b (by simp))
      have ic := isint_ok (p := pg) (f := "is_integer") rfl W n (h6 c (by simp))
      have id := isint_ok (p := pg) (f := "is_integer") rfl W n (h6 d (by simp))
      have ie := isint_ok (p := pg) (f := "is_integer") rfl W n (h6 e (by simp))
      have pa := (h6 a (by simp)).pure
      have pb := (h6 b (by simp)).pure
      have pc := (h6 c (by simp)).pure
      have pd := (h6 d (by simp)).pure
      have pe := (h6 e (by simp)).pure
      by_cases ha : (isI a && (isI b && (isI c && (isI d && isI e)))) = true
      · simp only [Bool.and_eq_true] at ha
        obtain ⟨qa, qb, qc, qd, qe⟩ := ha
        obtain ⟨a, rfl⟩ := isI_int qa
        obtain ⟨b, rfl⟩ := isI_int qb
        obtain ⟨c, rfl⟩ := isI_int qc
        obtain ⟨d, rfl⟩ := isI_int qd
        obtain ⟨e, rfl⟩ := isI_int qe
        by_cases r1 : 0 ≤ e
        · by_cases r2 : e ≤ 4000
          · by_cases he : e = 0
            · subst he
              simp [SW.f_is_number, ia, ib, ic, id, ie, isI, hg, numB, Q4.odd]
            · have : (e == 0) = false := by simpa using he
              simp [SW.f_is_number, ia, ib, ic, id, ie, isI, hg, r1, r2, numB, Q4.odd, he, this]
              rfl
          · simp [SW.f_is_number, ia, ib, ic, id, ie, isI, hg, r1, r2, numB, Q4.odd]
        · simp [SW.f_is_number, ia, ib, ic, id, ie, isI, hg, r1, numB, Q4.odd]
      · have ha : (isI a && (isI b && (isI c && (isI d && isI e)))) = false := by simpa using ha
        rw [numB_not ha]
        simp [SW.f_is_number, ia, ib, ic, id, ie, pa, pb, pc, pd, pe, ha]
    · rw [numB_len hl]
      simp at h1
      have hl' : ¬((xs.length : Int) = 5) := by omega
      simp [SW.f_is_number, hl', h1]
  | ktup xs => exact absurd rfl (h3 xs)
  | dic m t ks vs => cases t <;> simp [SW.f_is_number, numB, tyD, h1, isT, isTs] at h2 ⊢
  | _ => simp [SW.f_is_number, numB, tyD, h1, isT, isTs] at h2 ⊢
theorem sca_ok (n : Nat) {x : D} (hx : Th x) : callN pg W (n+2) "is_scalar" [x] = .ok (.bl (scaB x)) [some x] := by
  obtain ⟨h1, h2, h3, h4, h5, h6⟩ := hx
  have hg : pg.glob "MAX_POWER" = some (.int 2000) := rfl
  rw [call_eq _ _ _ _ _ SW.f_is_scalar rfl rfl]
  cases x with
  | tup xs =>
    have h6 := h6 xs rfl
    by_cases hl : xs.length = 2
    · obtain ⟨a, b, rfl⟩ := two hl
      have ia := isint_ok (p := pg) (f := "is_integer") rfl W n (h6 a (by simp))
      have ib := isint_ok (p := pg) (f := "is_integer") rfl W n (h6 b (by simp))
      have pa := (h6 a (by simp)).pure
      have pb := (h6 b (by simp)).pure
      by_cases ha : (isI a && isI b) = true
      · simp only [Bool.and_eq_true] at ha
        obtain ⟨qa, qb⟩ := ha
        obtain ⟨a, rfl⟩ := isI_int qa
        obtain ⟨b, rfl⟩ := isI_int qb
        by_cases r1 : -2000 ≤ a <;> by_cases r2 : a ≤ 2000 <;> by_cases r3 : 0 ≤ b <;> by_cases r4 : b ≤ 7 <;>
          simp [SW.f_is_scalar, ia, ib, isI, hg, r1, r2, r3, r4, scaB]
      · have ha : (isI a && isI b) = false := by simpa using ha
        rw [scaB_not ha]
        simp [SW.f_is_scalar, ia, ib, pa, pb, ha]
    · rw [scaB_len hl]
      simp at h1
      have hl' : ¬((xs.length : Int) = 2) := by omega
      simp [SW.f_is_scalar, hl', h1]
  | ktup xs => exact absurd rfl (h3 xs)
  | dic m t ks vs => cases t <;> simp [SW.f_is_scalar, scaB, tyD, h1, isT, isTs] at h2 ⊢
  | _ => simp [SW.f_is_scalar, scaB, tyD, h1, isT, isTs] at h2 ⊢
theorem lnum_ok (n : Nat) {x : D} (hx : Th x) : callN pg W (n+2) "_law_is_number" [x] = .ok (.bl (numB x)) [some x] := by
  obtain ⟨h1, h2, h3, h4, h5, h6⟩ := hx
  rw [call_eq _ _ _ _ _ f__law_is_number rfl rfl]
  cases x with
  | tup xs =>
    have h6 := h6 xs rfl
    have hp := h1
    simp at hp
    by_cases hl : xs.length = 5
    · have hl' : ((xs.length : Int) = 5) := by omega
      have hn : xs.length ≤ line := by rw [hl]; decide
      simp [f__law_is_number, hl', hp]
      rw [lc_map (fun x => if isI x then none else some x) (fun y hy => by
        have iy := isint_ok (p := pg) (f := "_law_is_integer") rfl W n (h6 y hy)
        have py := (h6 y hy).pure
        cases hi : isI y <;> simp [iy, py, hi])]
      have hf : (xs.filterMap fun x => if isI x then none else some x).length ≤ line := Nat.le_trans (List.length_filterMap_le _ _) hn
      simp [-ne_lst, hf, ne_nil, fil_isI]
      obtain ⟨a, b, c, d, e, rfl⟩ := five hl
      by_cases ha : (isI a && (isI b && (isI c && (isI d && isI e)))) = true
      · simp only [Bool.and_eq_true] at ha
        obtain ⟨qa, qb, qc, qd, qe⟩ := ha
        obtain ⟨a, rfl⟩ := isI_int qa
        obtain ⟨b, rfl⟩ := isI_int qb
        obtain ⟨c, rfl⟩ := isI_int qc
        obtain ⟨d, rfl⟩ := isI_int qd
        obtain ⟨e, rfl⟩ := isI_int qe
        by_cases r1 : 0 ≤ e
        · have r1' : ¬ e < 0 := by omega
          by_cases r2 : e ≤ 4000
          · have r2' : ¬ 4000 < e := by omega
            by_cases he : e = 0
            · subst he
              simp [isI, numB, Q4.odd]
            · have : (e == 0) = false := by simpa using he
              by_cases qa : a % 2 = 1 <;> by_cases qb : b % 2 = 1 <;> by_cases qc : c % 2 = 1 <;> by_cases qd : d % 2 = 1 <;>
                simp [isI, r1, r2, r1', r2', numB, Q4.odd, he, this, qa, qb, qc, qd, -ne_lst, ne_nil]
          · have r2' : 4000 < e := by omega
            simp [isI, r1, r2, r1', r2', numB, Q4.odd]
        · have r1' : e < 0 := by omega
          simp [isI, r1, r1', numB, Q4.odd]
      · have ha : (isI a && (isI b && (isI c && (isI d && isI e)))) = false := by simpa using ha
        rw [numB_not ha]
        cases qa : isI a
        · simp [qa]
        · cases qb : isI b
          · simp [qa, qb]
          · cases qc : isI c
            · simp [qa, qb, qc]
            · cases qd : isI d
              · simp [qa, qb, qc, qd]
              · cases qe : isI e
                · simp [qa, qb, qc, qd, qe]
                · simp [qa, qb, qc, qd, qe] at ha
    · rw [numB_len hl]
      simp at h1
      have hl' : ¬((xs.length : Int) = 5) := by omega
      simp [f__law_is_number, hl', h1]
  | ktup xs => exact absurd rfl (h3 xs)
  | dic m t ks vs => cases t <;> simp [f__law_is_number, numB, tyD, h1, isT, isTs] at h2 ⊢
  | _ => simp [f__law_is_number, numB, tyD, h1, isT, isTs] at h2 ⊢
theorem lsca_ok (n : Nat) {x : D} (hx : Th x) : callN pg W (n+2) "_law_is_scalar" [x] = .ok (.bl (scaB x)) [some x] := by
  obtain ⟨h1, h2, h3, h4, h5, h6⟩ := hx
  rw [call_eq _ _ _ _ _ f__law_is_scalar rfl rfl]
  cases x with
  | tup xs =>
    have h6 := h6 xs rfl
    have hp := h1
    simp at hp
    by_cases hl : xs.length = 2
    · have hl' : ((xs.length : Int) = 2) := by omega
      have hn : xs.length ≤ line := by rw [hl]; decide
      simp [f__law_is_scalar, hl', hp]
      rw [lc_map (fun x => if isI x then none else some x) (fun y hy => by
        have iy := isint_ok (p := pg) (f := "_law_is_integer") rfl W n (h6 y hy)
        have py := (h6 y hy).pure
        cases hi : isI y <;> simp [iy, py, hi])]
      have hf : (xs.filterMap fun x => if isI x then none else some x).length ≤ line := Nat.le_trans (List.length_filterMap_le _ _) hn
      simp [-ne_lst, hf, ne_nil, fil_isI]
      obtain ⟨a, b, rfl⟩ := two hl
      by_cases ha : (isI a && isI b) = true
      · simp only [Bool.and_eq_true] at ha
        obtain ⟨qa, qb⟩ := ha
        obtain ⟨a, rfl⟩ := isI_int qa
        obtain ⟨b, rfl⟩ := isI_int qb
        have s1 : (a < 2001) = (a ≤ 2000) := by apply propext; constructor <;> intro h <;> omega
        have s2 : (b < 8) = (b ≤ 7) := by apply propext; constructor <;> intro h <;> omega
        by_cases r1 : -2000 ≤ a <;> by_cases r2 : a ≤ 2000 <;> by_cases r3 : 0 ≤ b <;> by_cases r4 : b ≤ 7 <;>
          simp [isI, r1, r2, r3, r4, scaB, s1, s2]
      · have ha : (isI a && isI b) = false := by simpa using ha
        rw [scaB_not ha]
        cases qa : isI a
        · simp [qa]
        · cases qb : isI b
          · simp [qa, qb]
          · simp [qa, qb] at ha
    · rw [scaB_len hl]
      simp at h1
      have hl' : ¬((xs.length : Int) = 2) := by omega
      simp [f__law_is_scalar, hl', h1]
  | ktup xs => exact absurd rfl (h3 xs)
  | dic m t ks vs => cases t <;> simp [f__law_is_scalar, scaB, tyD, h1, isT, isTs] at h2 ⊢
  | _ => simp [f__law_is_scalar, scaB, tyD, h1, isT, isTs] at h2 ⊢
/-- an item that may stand in a thing -/
structure Gd (y : D) : Prop where
  pure : y.pure = true
  ty : (tyD y).isSome = true
  kt : ∀ xs, y ≠ .ktup xs
  lev : levD 7 y = true
  sz : rsz y ≤ 3000
theorem Gd.im {y : D} (h : Gd y) : Im y := ⟨h.pure, h.ty⟩
theorem rszL_le : ∀ {xs : List D}, (∀ y ∈ xs, Gd y) → rszL xs ≤ 3004 * xs.length
  | [], _ => by simp [rszL]
  | x :: xs, h => by
    have h1 := (h x (List.mem_cons_self ..)).sz
    have h2 := rszL_le (xs := xs) fun y hy => h y (List.mem_cons_of_mem _ hy)
    simp only [rszL, List.length_cons]
    omega
theorem Th.ofTup {xs : List D} (hl : xs.length ≤ 7) (h : ∀ y ∈ xs, Gd y) : Th (.tup xs) where
  pure := by
    show pureL xs = true
    exact pureL_iff.mpr fun d m => (h d m).pure
  ty := rfl
  kt := fun _ z => nomatch z
  lev := by rw [levD_tup]; exact List.all_eq_true.mpr fun d m => (h d m).lev
  sz := by have := rszL_le h; simp only [rsz]; omega
  its := fun ys e y hy => by cases e; exact (h y hy).im
theorem Th.ofLst {xs : List D} (hl : xs.length ≤ 7) (h : ∀ y ∈ xs, Gd y) : Th (.lst false xs) where
  pure := by
    show (!false && pureL xs) = true
    rw [pureL_iff.mpr fun d m => (h d m).pure]; rfl
  ty := rfl
  kt := fun _ z => nomatch z
  lev := by rw [levD_lst]; exact List.all_eq_true.mpr fun d m => (h d m).lev
  sz := by have := rszL_le h; simp only [rsz]; omega
  its := fun ys e => nomatch e
theorem log_lt {i : Int} {k : Nat} (h : i.natAbs < 2 ^ k) (hk : 0 < k) : i.natAbs.log2 < k := by
  by_cases e : i.natAbs = 0
  · rw [e]; simpa using hk
  · exact (Nat.log2_lt e).mpr h
theorem Gd.int {i : Int} (h : i.natAbs < 2 ^ 300) : Gd (.int i) where
  pure := rfl
  ty := rfl
  kt := fun _ z => nomatch z
  lev := by rw [levD_int]; exact decide_eq_true (Nat.lt_of_lt_of_le (log_lt h (by decide)) (by decide))
  sz := by show 1925 ≤ 3000; decide
theorem Gd.th {y : D} (h : Gd y) (hi : ∀ xs, y = .tup xs → ∀ z ∈ xs, Im z) (hl : levD 8 y = true) : Th y := ⟨h.pure, h.ty, h.kt, hl, by have := h.sz; omega, hi⟩
theorem coef_ok (n : Nat) {m : D} (hm : Src m) : ∃ v m', callN pg W (n+2) "_law_coefficient" [m] = .ok (.int v) [some m'] ∧ Src m' ∧ v.natAbs < 2 ^ 200 := by
  obtain ⟨v1, m1, e1, s1, a1, b1⟩ := draw_ok (p := pg) rfl W n hm (k := 5) (by decide) (by decide)
  obtain ⟨v2, m2, e2, s2, a2, b2⟩ := draw_ok (p := pg) rfl W n s1 (k := 20) (by decide) (by decide)
  obtain ⟨v3, m3, e3, s3, a3, b3⟩ := draw_ok (p := pg) rfl W n s2 (k := 1000000000000000) (by decide) (by decide)
  have p0 := src_pure hm
  have p1 := src_pure s1
  have p2 := src_pure s2
  have p3 := src_pure s3
  have e : (2 : Nat) ^ 200 = 1606938044258990275541962092341162602522202993782792835301376 := by decide
  rw [call_eq _ _ _ _ _ f__law_coefficient rfl rfl, e]
  have hv : v1 = 0 ∨ v1 = 1 ∨ v1 = 2 ∨ v1 = 3 ∨ v1 = 4 := by omega
  rcases hv with rfl | rfl | rfl | rfl | rfl
  · exact ⟨0, m3, by simp [f__law_coefficient, e1, e2, e3, p0, p1, p2, p3], s3, by omega⟩
  · exact ⟨v2, m3, by simp [f__law_coefficient, e1, e2, e3, p0, p1, p2, p3], s3, by omega⟩
  · exact ⟨-v2, m3, by simp [f__law_coefficient, e1, e2, e3, p0, p1, p2, p3], s3, by omega⟩
  · exact ⟨1000000000000000000000000000000000000000000000000000000000000 + v3, m3, by simp [f__law_coefficient, e1, e2, e3, p0, p1, p2, p3], s3, by omega⟩
  · exact ⟨-v3, m3, by simp [f__law_coefficient, e1, e2, e3, p0, p1, p2, p3], s3, by omega⟩
theorem odd_ok (n : Nat) {m : D} (hm : Src m) : ∃ d m', callN pg W (n+2) "_law_odd_item" [m] = .ok d [some m'] ∧ Src m' ∧ Gd d ∧ Th d := by
  obtain ⟨v1, m1, e1, s1, a1, b1⟩ := draw_ok (p := pg) rfl W n hm (k := 14) (by decide) (by decide)
  have p0 := src_pure hm
  have p1 := src_pure s1
  have gth : ∀ y : D, y.pure = true → (tyD y).isSome = true → (∀ xs, y ≠ .ktup xs) → levD 7 y = true → levD 8 y = true → rsz y ≤ 3000 → (∀ xs, y = .tup xs → ∀ z ∈ xs, Im z) → Gd y ∧ Th y := fun y a b c d d' e f => ⟨⟨a, b, c, d, e⟩, (Gd.mk a b c d e).th f d'⟩
  have big : (10000000000000000000000000000000000000000 : Int).natAbs.log2 < 1920 := by decide +kernel
  rw [call_eq _ _ _ _ _ f__law_odd_item rfl rfl]
  have hv : v1 = 0 ∨ v1 = 1 ∨ v1 = 2 ∨ v1 = 3 ∨ v1 = 4 ∨ v1 = 5 ∨ v1 = 6 ∨ v1 = 7 ∨ v1 = 8 ∨ v1 = 9 ∨ v1 = 10 ∨ v1 = 11 ∨ v1 = 12 ∨ v1 = 13 := by omega
  rcases hv with rfl | rfl | rfl | rfl | rfl | rfl | rfl | rfl | rfl | rfl | rfl | rfl | rfl | rfl
  · exact ⟨.non, m1, by simp [f__law_odd_item, e1, p0, p1], s1, gth _ rfl rfl (fun _ z => nomatch z) rfl rfl (by decide) (fun _ z => nomatch z)⟩
  · exact ⟨.bl true, m1, by simp [f__law_odd_item, e1, p0, p1], s1, gth _ rfl rfl (fun _ z => nomatch z) rfl rfl (by decide) (fun _ z => nomatch z)⟩
  · exact ⟨.bl false, m1, by simp [f__law_odd_item, e1, p0, p1], s1, gth _ rfl rfl (fun _ z => nomatch z) rfl rfl (by decide) (fun _ z => nomatch z)⟩
  · exact ⟨.str ['0'], m1, by simp [f__law_odd_item, e1, p0, p1], s1, gth _ rfl rfl (fun _ z => nomatch z) rfl rfl (by decide) (fun _ z => nomatch z)⟩
  · exact ⟨.str [], m1, by simp [f__law_odd_item, e1, p0, p1], s1, gth _ rfl rfl (fun _ z => nomatch z) rfl rfl (by decide) (fun _ z => nomatch z)⟩
  · exact ⟨.tup [], m1, by simp [f__law_odd_item, e1, p0, p1], s1, gth _ rfl rfl (fun _ z => nomatch z) rfl rfl (by decide) (fun xs z y hy => by cases z; cases hy)⟩
  · exact ⟨.tup [.int 1], m1, by simp [f__law_odd_item, e1, p0, p1], s1, gth _ rfl rfl (fun _ z => nomatch z) (by decide +kernel) (by decide +kernel) (by decide) (fun xs z y hy => by cases z; simp at hy; subst hy; exact .int _)⟩
  · exact ⟨.lst false [], m1, by simp [f__law_odd_item, e1, p0, p1], s1, gth _ rfl rfl (fun _ z => nomatch z) rfl rfl (by decide) (fun _ z => nomatch z)⟩
  · exact ⟨.dic false false [] [], m1, by simp [f__law_odd_item, e1, p0, p1], s1, gth _ rfl rfl (fun _ z => nomatch z) rfl rfl (by decide) (fun _ z => nomatch z)⟩
  · exact ⟨.int 10000000000000000000000000000000000000000, m1, by simp [f__law_odd_item, e1, p0, p1], s1, gth _ rfl rfl (fun _ z => nomatch z) (by rw [levD_int]; exact decide_eq_true big) (by rw [levD_int]; exact decide_eq_true big) (by decide) (fun _ z => nomatch z)⟩
  · exact ⟨.int (-1), m1, by simp [f__law_odd_item, e1, p0, p1], s1, gth _ rfl rfl (fun _ z => nomatch z) (by decide +kernel) (by decide +kernel) (by decide) (fun _ z => nomatch z)⟩
  · exact ⟨.int 8, m1, by simp [f__law_odd_item, e1, p0, p1], s1, gth _ rfl rfl (fun _ z => nomatch z) (by decide +kernel) (by decide +kernel) (by decide) (fun _ z => nomatch z)⟩
  · exact ⟨.tup [.str ['a']], m1, by simp [f__law_odd_item, e1, p0, p1], s1, gth _ rfl rfl (fun _ z => nomatch z) (by decide +kernel) (by decide +kernel) (by decide) (fun xs z y hy => by cases z; simp at hy; subst hy; exact ⟨rfl, rfl⟩)⟩
  · exact ⟨.lst false [.int 1], m1, by simp [f__law_odd_item, e1, p0, p1], s1, gth _ rfl rfl (fun _ z => nomatch z) (by decide +kernel) (by decide +kernel) (by decide) (fun _ z => nomatch z)⟩
theorem cut_mem {xs : List D} {lo hi : Option Int} {y : D} (h : y ∈ cutL xs lo hi) : y ∈ xs := List.mem_of_mem_drop (List.mem_of_mem_take h)
theorem cut_len (xs : List D) (lo hi : Option Int) : (cutL xs lo hi).length ≤ xs.length := by
  unfold cutL
  rw [List.length_take, List.length_drop]
  omega
theorem cut_pure {xs : List D} (h : ∀ y ∈ xs, Gd y) (lo hi : Option Int) : pureL (cutL xs lo hi) = true := pureL_iff.mpr fun d m => (h d (cut_mem m)).pure
theorem app_pure {xs ys : List D} (h : pureL xs = true) (h' : pureL ys = true) : pureL (xs ++ ys) = true := pureL_append h h'
theorem bent_ok (n : Nat) {m : D} (hm : Src m) {xs : List D} (h0 : 0 < xs.length) (h1 : xs.length ≤ 5) (hx : ∀ y ∈ xs, Gd y) : ∃ d m', callN pg W (n+3) "_law_bent" [m, .tup xs] = .ok d [some m', some (.tup xs)] ∧ Src m' ∧ Th d := by
  obtain ⟨v1, m1, e1, s1, a1, b1⟩ := draw_ok (p := pg) rfl W (n + 1) hm (k := 6) (by decide) (by decide)
  obtain ⟨v2, m2, e2, s2, a2, b2⟩ := draw_ok (p := pg) rfl W (n + 1) s1 (k := 5) (by decide) (by decide)
  obtain ⟨it, m3, e3, s3, g3, t3⟩ := odd_ok n s2
  have p0 := src_pure hm
  have p1 := src_pure s1
  have p2 := src_pure s2
  have p3 := src_pure s3
  have q3 := g3.pure
  have f3 := frz_pure it q3
  have px : pureL xs = true := pureL_iff.mpr fun d m => (hx d m).pure
  have fx := frzL_pure xs px
  have l0 : (0 : Int) < xs.length := by omega
  have l1 : xs.length.log2 < 9000 := by
    have := log2_small xs.length (by omega)
    exact this
  rw [call_eq _ _ _ _ _ f__law_bent rfl rfl]
  generalize hat : v2 % (xs.length : Int) = at_
  have hA : ∀ y ∈ cutL xs none (some at_), y ∈ xs := fun y h => cut_mem h
  have hB : ∀ y ∈ cutL xs (some (at_ + 1)) none, y ∈ xs := fun y h => cut_mem h
  have lA : (cutL xs none (some at_)).length ≤ xs.length := cut_len ..
  have lB : (cutL xs (some (at_ + 1)) none).length ≤ xs.length := cut_len ..
  have lAB : (cutL xs none (some at_)).length + (cutL xs (some (at_ + 1)) none).length ≤ xs.length := by
    have : 0 ≤ at_ := by rw [← hat]; exact Int.emod_nonneg _ (by omega)
    unfold cutL cutAt
    simp only [List.length_take, List.length_drop]
    split <;> split <;> omega
  have pA := cut_pure hx none (some at_)
  have pB := cut_pure hx (some (at_ + 1)) none
  generalize hgA : cutL xs none (some at_) = A at *
  generalize hgB : cutL xs (some (at_ + 1)) none = B at *
  have ll : line = 16777216 := rfl
  have r1 : A.length + 1 ≤ line := by omega
  have r2 : A.length + 1 + B.length ≤ line := by omega
  have r3 : A.length + B.length ≤ line := by omega
  have r4 : xs.length + 1 ≤ line := by omega
  have gA : ∀ y ∈ A, Gd y := fun y hy => hx y (hA y hy)
  have gB : ∀ y ∈ B, Gd y := fun y hy => hx y (hB y hy)
  have gI : ∀ y ∈ [it], Gd y := fun y hy => by rw [List.mem_singleton.mp hy]; exact g3
  have c0 : pureL (A ++ it :: B) = true := pureL_append pA (by simp [q3, pB])
  have c1 : pureL (A ++ B) = true := pureL_append pA pB
  have c2 : pureL (xs ++ [it]) = true := pureL_append px (by simp [q3])
  have d0 := frzL_pure _ c0
  have d1 := frzL_pure _ c1
  have d2 := frzL_pure _ c2
  have c5 : pureL xs.reverse = true := pureL_iff.mpr fun d m => (hx d (List.mem_reverse.mp m)).pure
  have hv : v1 = 0 ∨ v1 = 1 ∨ v1 = 2 ∨ v1 = 3 ∨ v1 = 4 ∨ v1 = 5 := by omega
  rcases hv with rfl | rfl | rfl | rfl | rfl | rfl
  · exact ⟨.tup (A ++ it :: B), m3, by simp [f__law_bent, e1, e2, e3, p0, p1, p2, p3, q3, f3, px, fx, h0, l0, l1, hat, hgA, hgB, pA, pB, r1, r2, r3, r4, c0, c1, c2, d0, d1, d2, c5, -cutL_eq], s3, .ofTup (by simp; omega) fun y hy => by
      rcases List.mem_append.mp hy with h | h
      · exact gA y h
      · rcases List.mem_cons.mp h with rfl | h
        · exact g3
        · exact gB y h⟩
  · exact ⟨.tup (A ++ B), m3, by simp [f__law_bent, e1, e2, e3, p0, p1, p2, p3, q3, f3, px, fx, h0, l0, l1, hat, hgA, hgB, pA, pB, r1, r2, r3, r4, c0, c1, c2, d0, d1, d2, c5, -cutL_eq], s3, .ofTup (by simp; omega) fun y hy => by
      rcases List.mem_append.mp hy with h | h
      · exact gA y h
      · exact gB y h⟩
  · exact ⟨.tup (xs ++ [it]), m3, by simp [f__law_bent, e1, e2, e3, p0, p1, p2, p3, q3, f3, px, fx, h0, l0, l1, hat, hgA, hgB, pA, pB, r1, r2, r3, r4, c0, c1, c2, d0, d1, d2, c5, -cutL_eq], s3, .ofTup (by simp; omega) fun y hy => by
      rcases List.mem_append.mp hy with h | h
      · exact hx y h
      · exact gI y h⟩
  · exact ⟨.lst false xs, m3, by simp [f__law_bent, e1, e2, e3, p0, p1, p2, p3, q3, f3, px, fx, h0, l0, l1, hat, hgA, hgB, pA, pB, r1, r2, r3, r4, c0, c1, c2, d0, d1, d2, c5, -cutL_eq], s3, .ofLst (by omega) hx⟩
  · exact ⟨it, m3, by simp [f__law_bent, e1, e2, e3, p0, p1, p2, p3, q3, f3, px, fx, h0, l0, l1, hat, hgA, hgB, pA, pB, r1, r2, r3, r4, c0, c1, c2, d0, d1, d2, c5, -cutL_eq], s3, t3⟩
  · exact ⟨.tup xs.reverse, m3, by simp [f__law_bent, e1, e2, e3, p0, p1, p2, p3, q3, f3, px, fx, h0, l0, l1, hat, hgA, hgB, pA, pB, r1, r2, r3, r4, c0, c1, c2, d0, d1, d2, c5, -cutL_eq], s3, .ofTup (by simp; omega) fun y hy => hx y (List.mem_reverse.mp hy)⟩
theorem cand_ok (n : Nat) {m : D} (hm : Src m) : ∃ xs m', callN pg W (n+3) "_law_candidate" [m] = .ok (.tup xs) [some m'] ∧ Src m' ∧ xs.length = 5 ∧ ∀ y ∈ xs, Gd y := by
  obtain ⟨v1, m1, e1, s1, a1, b1⟩ := draw_ok (p := pg) rfl W (n + 1) hm (k := 2) (by decide) (by decide)
  obtain ⟨v2, m2, e2, s2, a2, b2⟩ := draw_ok (p := pg) rfl W (n + 1) s1 (k := 6) (by decide) (by decide)
  obtain ⟨v3, m3, e3, s3, a3, b3⟩ := draw_ok (p := pg) rfl W (n + 1) s2 (k := 30) (by decide) (by decide)
  obtain ⟨c1, m4, e4, s4, a4⟩ := coef_ok n s3
  obtain ⟨c2, m5, e5, s5, a5⟩ := coef_ok n s4
  obtain ⟨c3, m6, e6, s6, a6⟩ := coef_ok n s5
  obtain ⟨c4, m7, e7, s7, a7⟩ := coef_ok n s6
  have p0 := src_pure hm
  have p1 := src_pure s1
  have p2 := src_pure s2
  have p3 := src_pure s3
  have p4 := src_pure s4
  have p5 := src_pure s5
  have p6 := src_pure s6
  have p7 := src_pure s7
  have ep : (2 : Nat) ^ 200 = 1606938044258990275541962092341162602522202993782792835301376 := by decide
  have gm : ∀ c : Int, c.natAbs < 2 ^ 200 → Gd (.int ((1 + v1) * c)) := fun c hc => by
    refine .int ?_
    rw [Int.natAbs_mul]
    have h2 : (1 + v1).natAbs ≤ 2 := by omega
    exact Nat.lt_of_le_of_lt (Nat.mul_le_mul h2 (Nat.le_of_lt hc)) (by decide)
  have gs : ∀ k : Int, k.natAbs ≤ 5000 → Gd (.int k) := fun k h => .int (Nat.lt_of_le_of_lt h (by decide))
  have hk : (1 + v1).natAbs < 18446744073709551616 := by omega
  have rest : ∀ k : Int, k.natAbs ≤ 5000 → ∀ y ∈ [D.int ((1 + v1) * c1), .int ((1 + v1) * c2), .int ((1 + v1) * c3), .int ((1 + v1) * c4), .int k], Gd y := fun k h y hy => by
    simp only [List.mem_cons, List.not_mem_nil, or_false] at hy
    rcases hy with rfl | rfl | rfl | rfl | rfl
    · exact gm _ a4
    · exact gm _ a5
    · exact gm _ a6
    · exact gm _ a7
    · exact gs _ h
  rw [call_eq _ _ _ _ _ f__law_candidate rfl rfl]
  have hv : v2 = 0 ∨ v2 = 1 ∨ v2 = 2 ∨ v2 = 3 ∨ v2 = 4 ∨ v2 = 5 := by omega
  rcases hv with rfl | rfl | rfl | rfl | rfl | rfl
  · exact ⟨_, m7, by simp [f__law_candidate, rngL, e1, e2, e3, e4, e5, e6, e7, p0, p1, p2, p3, p4, p5, p6, p7, hk], s7, rfl, rest 0 (by omega)⟩
  · exact ⟨_, m7, by simp [f__law_candidate, rngL, e1, e2, e3, e4, e5, e6, e7, p0, p1, p2, p3, p4, p5, p6, p7, hk], s7, rfl, rest 0 (by omega)⟩
  · exact ⟨_, m7, by simp [f__law_candidate, rngL, e1, e2, e3, e4, e5, e6, e7, p0, p1, p2, p3, p4, p5, p6, p7, hk], s7, rfl, rest 1 (by omega)⟩
  · exact ⟨_, m7, by simp [f__law_candidate, rngL, e1, e2, e3, e4, e5, e6, e7, p0, p1, p2, p3, p4, p5, p6, p7, hk], s7, rfl, rest v3 (by omega)⟩
  · exact ⟨_, m7, by simp [f__law_candidate, rngL, e1, e2, e3, e4, e5, e6, e7, p0, p1, p2, p3, p4, p5, p6, p7, hk], s7, rfl, rest 4000 (by omega)⟩
  · exact ⟨_, m7, by simp [f__law_candidate, rngL, e1, e2, e3, e4, e5, e6, e7, p0, p1, p2, p3, p4, p5, p6, p7, hk], s7, rfl, rest 4001 (by omega)⟩
theorem scal_ok (n : Nat) {m : D} (hm : Src m) : ∃ xs m', callN pg W (n+3) "_law_scalar" [m] = .ok (.tup xs) [some m'] ∧ Src m' ∧ xs.length = 2 ∧ ∀ y ∈ xs, Gd y := by
  obtain ⟨v1, m1, e1, s1, a1, b1⟩ := draw_ok (p := pg) rfl W (n + 1) hm (k := 8) (by decide) (by decide)
  obtain ⟨v2, m2, e2, s2, a2, b2⟩ := draw_ok (p := pg) rfl W (n + 1) s1 (k := 10) (by decide) (by decide)
  obtain ⟨v3, m3, e3, s3, a3, b3⟩ := draw_ok (p := pg) rfl W (n + 1) s2 (k := 2001) (by decide) (by decide)
  have p0 := src_pure hm
  have p1 := src_pure s1
  have p2 := src_pure s2
  have p3 := src_pure s3
  have rest : ∀ k : Int, k.natAbs ≤ 5000 → ∀ y ∈ [D.int k, .int v2], Gd y := fun k h y hy => by
    simp only [List.mem_cons, List.not_mem_nil, or_false] at hy
    rcases hy with rfl | rfl
    · exact .int (Nat.lt_of_le_of_lt h (by decide))
    · exact .int (Nat.lt_of_le_of_lt (show v2.natAbs ≤ 10 by omega) (by decide))
  rw [call_eq _ _ _ _ _ f__law_scalar rfl rfl]
  have hv : v1 = 0 ∨ v1 = 1 ∨ v1 = 2 ∨ v1 = 3 ∨ v1 = 4 ∨ v1 = 5 ∨ v1 = 6 ∨ v1 = 7 := by omega
  rcases hv with rfl | rfl | rfl | rfl | rfl | rfl | rfl | rfl
  · exact ⟨[.int 0, .int v2], m3, by simp [f__law_scalar, e1, e2, e3, p0, p1, p2, p3], s3, rfl, rest _ (by omega)⟩
  · exact ⟨[.int 2000, .int v2], m3, by simp [f__law_scalar, e1, e2, e3, p0, p1, p2, p3], s3, rfl, rest _ (by omega)⟩
  · exact ⟨[.int 2001, .int v2], m3, by simp [f__law_scalar, e1, e2, e3, p0, p1, p2, p3], s3, rfl, rest _ (by omega)⟩
  · exact ⟨[.int (-2000), .int v2], m3, by simp [f__law_scalar, e1, e2, e3, p0, p1, p2, p3], s3, rfl, rest _ (by omega)⟩
  · exact ⟨[.int (-2001), .int v2], m3, by simp [f__law_scalar, e1, e2, e3, p0, p1, p2, p3], s3, rfl, rest _ (by omega)⟩
  · exact ⟨[.int v3, .int v2], m3, by simp [f__law_scalar, e1, e2, e3, p0, p1, p2, p3], s3, rfl, rest _ (by omega)⟩
  · exact ⟨[.int (-v3), .int v2], m3, by simp [f__law_scalar, e1, e2, e3, p0, p1, p2, p3], s3, rfl, rest _ (by omega)⟩
  · exact ⟨[.int v2, .int v2], m3, by simp [f__law_scalar, e1, e2, e3, p0, p1, p2, p3], s3, rfl, rest _ (by omega)⟩
theorem law_true : ∀ ns : List Int, ns.length ≤ 63 → ∃ o, callN pg W lvl "law" [.scr (ns.map .int)] = .ok (.bl true) [o] := by
  intro ns hl
  obtain ⟨m, e0, s0⟩ := begun_ok (p := pg) rfl W 8 ns (by omega)
  have p0 := src_pure s0
  have ll : line = 16777216 := rfl
  have turn : ∀ (i : Nat) (x : D) (fr : Fr), (rngL 0 12)[i]? = some x → (∃ m ds o3 o4 o5, Src m ∧ (∀ y ∈ ds, Th y) ∧ ds.length ≤ 16 + 5 * i ∧ fr = [some (.scr (ns.map .int)), some m, some (.lst true ds), o3, o4, o5, none, none, none, none]) → ∃ fr', goes (forT { call := callN pg W 9, glob := pg.glob, W := W, prot := [0], exc := pg.exc, callT := callTN pg W 9 } (.n 3) [] f_law_b1 x fr) fr' ∧ ∃ m ds o3 o4 o5, Src m ∧ (∀ y ∈ ds, Th y) ∧ ds.length ≤ 16 + 5 * (i + 1) ∧ fr' = [some (.scr (ns.map .int)), some m, some (.lst true ds), o3, o4, o5, none, none, none, none] := by
    rintro i x fr hx ⟨m, ds, o3, o4, o5, hm, hd, hn, rfl⟩
    obtain ⟨u, m1, e1, s1, l1, g1⟩ := cand_ok 6 hm
    obtain ⟨v, m2, e2, s2, l2, g2⟩ := scal_ok 6 s1
    obtain ⟨t1, m3, e3, s3, g3⟩ := bent_ok 6 s2 (by omega) (by omega) g1
    obtain ⟨t2, m4, e4, s4, g4⟩ := bent_ok 6 s3 (by omega) (by omega) g2
    obtain ⟨t3, m5, e5, s5, g5, h5⟩ := odd_ok 7 s4
    have hi : i < 12 := by
      have := (List.getElem?_eq_some_iff.mp hx).1
      simpa [rngL] using this
    have q0 := src_pure hm
    have q1 := src_pure s1
    have q2 := src_pure s2
    have q3 := src_pure s3
    have q4 := src_pure s4
    have q5 := src_pure s5
    have pd : pureL ds = true := pureL_iff.mpr fun d m => (hd d m).pure
    have pu : pureL u = true := pureL_iff.mpr fun d m => (g1 d m).pure
    have pv : pureL v = true := pureL_iff.mpr fun d m => (g2 d m).pure
    have pt1 := g3.pure
    have pt2 := g4.pure
    have pt3 := h5.pure
    have r1 : ds.length + 5 ≤ line := by omega
    refine ⟨_, ?_, m5, ds ++ [.tup u, .tup v, t1, t2, t3], some x, some (.tup u), some (.tup v), s5, ?_, ?_, rfl⟩
    · simp [f_law_b1, e1, e2, e3, e4, e5, q0, q1, q2, q3, q4, q5, pd, pu, pv, pt1, pt2, pt3, r1]
    · intro y hy
      rcases List.mem_append.mp hy with h | h
      · exact hd y h
      · simp only [List.mem_cons, List.not_mem_nil, or_false] at h
        rcases h with rfl | rfl | rfl | rfl | rfl
        · exact .ofTup (by omega) g1
        · exact .ofTup (by omega) g2
        · exact g3
        · exact g4
        · exact h5
    · simp; omega
  have turn2 : ∀ (m : D) (o3 o4 o5 : Option D) (ds : List D), (∀ y ∈ ds, Th y) → ∀ x ∈ ds, ∀ fr, (∃ o6 o7 o8 o9, fr = [some (.scr (ns.map .int)), some m, none, o3, o4, o5, o6, o7, o8, o9]) → ∃ fr', goes (forT { call := callN pg W 9, glob := pg.glob, W := W, prot := [0], exc := pg.exc, callT := callTN pg W 9 } (.n 6) [2] f_law_b2 x fr) fr' ∧ ∃ o6 o7 o8 o9, fr' = [some (.scr (ns.map .int)), some m, none, o3, o4, o5, o6, o7, o8, o9] := by
    rintro m o3 o4 o5 ds hd x hx fr ⟨o6, o7, o8, o9, rfl⟩
    have T := hd x hx
    have h1 := num_ok 7 T
    have h2 := sca_ok 7 T
    have h3 := lnum_ok 7 T
    have h4 := lsca_ok 7 T
    have px := T.pure
    have lx := T.lev
    have zx : rsz x ≤ line := by have := T.sz; omega
    have rb : ∀ a b c d : Bool, rsz (.lst true [.bl a, .bl b, .bl c, .bl d]) ≤ line := fun a b c d => by simp only [rsz, rszL]; decide
    have rx : biV .repr [x] = some (.rep (pd x)) := by rw [bi_repr, lx]; simp [zx]
    have cx := cpure_of px
    simp [f_law_b2, h1, h2, h3, h4, px, cx, rx, rb, pick]
  have ti : ∀ l : List Int, l.length ≤ 7 → (∀ i ∈ l, i.natAbs ≤ 5000) → Th (.tup (l.map .int)) := fun l hl h => .ofTup (by simpa using hl) fun y hy => by
    obtain ⟨i, mi, rfl⟩ := List.mem_map.mp hy
    exact .int (Nat.lt_of_le_of_lt (h i mi) (by decide))
  let ds0 : List D := [.tup [.int 0, .int 0, .int 0, .int 0, .int 0], .tup [.int 0, .int 0, .int 0, .int 0, .int 1], .tup [.int 2, .int 0, .int 0, .int 0, .int 1], .tup [.int 2, .int 0, .int 0, .int 1, .int 1], .tup [.int 0, .int 0, .int 0, .int 0, .bl true], .tup [.int 1, .int 0, .int 0, .int 0, .int 4000],
    .tup [.int 2000, .int 7], .tup [.int (-2000), .int 0], .tup [.int 2001, .int 7], .tup [.int 2000, .int 8], .tup [.int 0, .int (-1)], .tup [.bl true, .int 0], .tup [.int 0, .bl false], .non, .int 0, .tup []]
  have gi : ∀ i : Int, i.natAbs ≤ 5000 → Gd (.int i) := fun i h => .int (Nat.lt_of_le_of_lt h (by decide))
  have gb : ∀ b : Bool, Gd (.bl b) := fun b => ⟨rfl, rfl, (fun _ z => nomatch z), rfl, (by decide : 10 ≤ 3000)⟩
  have t0 : ∀ y ∈ ds0, Th y := by
    intro y hy
    simp only [ds0, List.mem_cons, List.not_mem_nil, or_false] at hy
    rcases hy with rfl | rfl | rfl | rfl | rfl | rfl | rfl | rfl | rfl | rfl | rfl | rfl | rfl | rfl | rfl | rfl
    · exact ti [0, 0, 0, 0, 0] (by decide) (by decide)
    · exact ti [0, 0, 0, 0, 1] (by decide) (by decide)
    · exact ti [2, 0, 0, 0, 1] (by decide) (by decide)
    · exact ti [2, 0, 0, 1, 1] (by decide) (by decide)
    · refine .ofTup (by decide) fun y hy => ?_
      simp only [List.mem_cons, List.not_mem_nil, or_false] at hy
      rcases hy with rfl | rfl | rfl | rfl | rfl <;> first | exact gi 0 (by decide) | exact gb true
    · exact ti [1, 0, 0, 0, 4000] (by decide) (by decide)
    · exact ti [2000, 7] (by decide) (by decide)
    · exact ti [-2000, 0] (by decide) (by decide)
    · exact ti [2001, 7] (by decide) (by decide)
    · exact ti [2000, 8] (by decide) (by decide)
    · exact ti [0, -1] (by decide) (by decide)
    · refine .ofTup (by decide) fun y hy => ?_
      simp only [List.mem_cons, List.not_mem_nil, or_false] at hy
      rcases hy with rfl | rfl <;> first | exact gi 0 (by decide) | exact gb true
    · refine .ofTup (by decide) fun y hy => ?_
      simp only [List.mem_cons, List.not_mem_nil, or_false] at hy
      rcases hy with rfl | rfl <;> first | exact gi 0 (by decide) | exact gb false
    · exact ⟨rfl, rfl, (fun _ z => nomatch z), rfl, by decide, (fun _ z => nomatch z)⟩
    · exact (gi 0 (by decide)).th (fun _ z => nomatch z) (by decide +kernel)
    · exact ti [] (by decide) (by decide)
  obtain ⟨fr, ef, m', ds, o3, o4, o5, s1, hd, hn, rfl⟩ := for_inv (turn := forT { call := callN pg W 9, glob := pg.glob, W := W, prot := [0], exc := pg.exc, callT := callTN pg W 9 } (.n 3) [] f_law_b1) (xs := rngL 0 12) (k := 0) (fr := [some (.scr (ns.map .int)), some m, some (.lst true ds0), none, none, none, none, none, none, none])
    (fun i fr => ∃ m ds o3 o4 o5, Src m ∧ (∀ y ∈ ds, Th y) ∧ ds.length ≤ 16 + 5 * i ∧ fr = [some (.scr (ns.map .int)), some m, some (.lst true ds), o3, o4, o5, none, none, none, none]) ⟨m, ds0, none, none, none, s0, t0, Nat.le_refl _, rfl⟩ (fun i x fr hx h => by rw [Nat.zero_add] at h ⊢; exact turn i x fr hx h)
  obtain ⟨fr2, ef2, o6, o7, o8, o9, rfl⟩ := for_inv0 (turn := forT { call := callN pg W 9, glob := pg.glob, W := W, prot := [0], exc := pg.exc, callT := callTN pg W 9 } (.n 6) [2] f_law_b2) (xs := ds) (fr := [some (.scr (ns.map .int)), some m', none, o3, o4, o5, none, none, none, none]) _ ⟨none, none, none, none, rfl⟩ (turn2 m' o3 o4 o5 ds hd)
  have pd : pureL ds = true := pureL_iff.mpr fun d m => (hd d m).pure
  have q1 := src_pure s1
  simp only [ds0] at ef
  simp at e0
  show ∃ o, callN pg W (9 + 1) "law" _ = _
  rw [call_eq _ _ _ _ _ f_law rfl rfl]
  simp [f_law, e0, p0, ef, ef2, pd, q1, Fl.done, Wk.done]
end L02

end

section
set_option maxRecDepth 100000
set_option maxHeartbeats 0
namespace L02
open PySem L2 PyProof.Rows VI
abbrev RR : PySem.W.OpenLaw := PySem.Challenge.rw_spiderwires_k02_numbers_and_scalars
def top (i : Nat) : Stmt := PySem.Challenge.pw_spiderwires_k02_numbers_and_scalars.main.body.getD i (.Pass ⟨0, 0, 0, 0⟩)
def d_is_integer : Dfn := ⟨"is_integer", top 3, ["value"], ["value"], SW.f_is_integer, []⟩
def d_is_number : Dfn := ⟨"is_number", top 4, ["value", "item"], ["value"], SW.f_is_number, [(0, ["value"], [0])]⟩
def d_is_scalar : Dfn := ⟨"is_scalar", top 5, ["value", "item"], ["value"], SW.f_is_scalar, [(0, ["value"], [0])]⟩
def d__law_begun : Dfn := ⟨"_law_begun", top 7, ["_law_script", "_law_m", "_law_cell"], ["_law_script"], SW.f_begun, []⟩
def d__law_draw : Dfn := ⟨"_law_draw", top 8, ["_law_m", "_law_many", "_law_k", "_law_at", "_law_cell", "_law_primes", "_law_mixed"], ["_law_m", "_law_many"], SW.f_draw, []⟩
def d__law_coefficient : Dfn := ⟨"_law_coefficient", top 9, ["_law_m", "_law_way", "_law_near", "_law_far"], ["_law_m"], f__law_coefficient, []⟩
def d__law_candidate : Dfn := ⟨"_law_candidate", top 10, ["_law_m", "_law_factor", "_law_way", "_law_near", "_law_found", "_law_k"], ["_law_m"], f__law_candidate, []⟩
def d__law_scalar : Dfn := ⟨"_law_scalar", top 11, ["_law_m", "_law_way", "_law_near", "_law_far"], ["_law_m"], f__law_scalar, []⟩
def d__law_odd_item : Dfn := ⟨"_law_odd_item", top 12, ["_law_m", "_law_some"], ["_law_m"], f__law_odd_item, []⟩
def d__law_bent : Dfn := ⟨"_law_bent", top 13, ["_law_m", "_law_thing", "_law_way", "_law_at", "_law_item", "_law_some"], ["_law_m", "_law_thing"], f__law_bent, []⟩
def d__law_is_integer : Dfn := ⟨"_law_is_integer", top 14, ["_law_item"], ["_law_item"], SW.f_is_integer, []⟩
def d__law_is_number : Dfn := ⟨"_law_is_number", top 15, ["_law_thing", "_law_item"], ["_law_thing"], f__law_is_number, []⟩
def d__law_is_scalar : Dfn := ⟨"_law_is_scalar", top 16, ["_law_thing", "_law_item"], ["_law_thing"], f__law_is_scalar, []⟩
def d_law : Dfn := ⟨"law", top 17, ["_law_script", "_law_m", "_law_some", "_law_turn", "_law_number", "_law_scalar_here", "_law_thing", "_law_shown", "_law_told", "_law_due"], ["_law_script"], f_law, []⟩
def tx : Txt := ⟨[d_is_integer, d_is_number, d_is_scalar, d__law_begun, d__law_draw, d__law_coefficient, d__law_candidate, d__law_scalar, d__law_odd_item, d__law_bent, d__law_is_integer, d__law_is_number, d__law_is_scalar, d_law], globs, [], exs⟩
theorem okx_all : ∀ d ∈ tx.xs, d.Ok := fun d m => nomatch m
theorem exc_all : ∀ e ∈ tx.ex, e.fld ≠ "" → ∃ d ∈ tx.xs, d.nm = e.nm ∧ d.fld = e.fld := fun e m => nomatch m
def tD : List (String × Nat) := [("is_integer", 1), ("is_number", 1), ("is_scalar", 1), ("_law_begun", 1), ("_law_draw", 2), ("_law_coefficient", 1), ("_law_candidate", 1), ("_law_scalar", 1), ("_law_odd_item", 1), ("_law_bent", 2), ("_law_is_integer", 1), ("_law_is_number", 1), ("_law_is_scalar", 1), ("law", 1)]
def tK : List (String × Nat × List Str × List Nat) := [("is_number", 0, ["value"], [0]), ("is_scalar", 0, ["value"], [0])]
theorem ok_is_integer : d_is_integer.Ok exs tD tK :=
  ⟨⟨rfl, rfl, rfl, by decide +kernel, rfl, by decide +kernel, by decide +kernel⟩, rfl, rfl, by decide +kernel, fun kV doc pm an cdv ct us h => match us, h with | [_], _ => rfl, fun k hk => nomatch hk⟩
theorem ok_is_number : d_is_number.Ok exs tD tK :=
  ⟨⟨rfl, rfl, rfl, by decide +kernel, rfl, by decide +kernel, by decide +kernel⟩, rfl, rfl, by decide +kernel, fun kV doc pm an cdv ct us h => match us, h with | [_], _ => rfl, fun k hk => by
    simp only [d_is_number, List.mem_cons, List.not_mem_nil, or_false] at hk
    subst hk
    · intro kV doc pm an cdv ct us ws h1 h2
      match us, ws, h1, h2 with
      | [], [_], _, _ => rfl
⟩
theorem ok_is_scalar : d_is_scalar.Ok exs tD tK :=
  ⟨⟨rfl, rfl, rfl, by decide +kernel, rfl, by decide +kernel, by decide +kernel⟩, rfl, rfl, by decide +kernel, fun kV doc pm an cdv ct us h => match us, h with | [_], _ => rfl, fun k hk => by
    simp only [d_is_scalar, List.mem_cons, List.not_mem_nil, or_false] at hk
    subst hk
    · intro kV doc pm an cdv ct us ws h1 h2
      match us, ws, h1, h2 with
      | [], [_], _, _ => rfl
⟩
theorem ok__law_begun : d__law_begun.Ok exs tD tK :=
  ⟨⟨rfl, rfl, rfl, by decide +kernel, rfl, by decide +kernel, by decide +kernel⟩, rfl, rfl, by decide +kernel, fun kV doc pm an cdv ct us h => match us, h with | [_], _ => rfl, fun k hk => nomatch hk⟩
theorem ok__law_draw : d__law_draw.Ok exs tD tK :=
  ⟨⟨rfl, rfl, rfl, by decide +kernel, rfl, by decide +kernel, by decide +kernel⟩, rfl, rfl, by decide +kernel, fun kV doc pm an cdv ct us h => match us, h with | [_, _], _ => rfl, fun k hk => nomatch hk⟩
theorem ok__law_coefficient : d__law_coefficient.Ok exs tD tK :=
  ⟨⟨rfl, rfl, rfl, by decide +kernel, rfl, by decide +kernel, by decide +kernel⟩, rfl, rfl, by decide +kernel, fun kV doc pm an cdv ct us h => match us, h with | [_], _ => rfl, fun k hk => nomatch hk⟩
theorem ok__law_candidate : d__law_candidate.Ok exs tD tK :=
  ⟨⟨rfl, rfl, rfl, by decide +kernel, rfl, by decide +kernel, by decide +kernel⟩, rfl, rfl, by decide +kernel, fun kV doc pm an cdv ct us h => match us, h with | [_], _ => rfl, fun k hk => nomatch hk⟩
theorem ok__law_scalar : d__law_scalar.Ok exs tD tK :=
  ⟨⟨rfl, rfl, rfl, by decide +kernel, rfl, by decide +kernel, by decide +kernel⟩, rfl, rfl, by decide +kernel, fun kV doc pm an cdv ct us h => match us, h with | [_], _ => rfl, fun k hk => nomatch hk⟩
theorem ok__law_odd_item : d__law_odd_item.Ok exs tD tK :=
  ⟨⟨rfl, rfl, rfl, by decide +kernel, rfl, by decide +kernel, by decide +kernel⟩, rfl, rfl, by decide +kernel, fun kV doc pm an cdv ct us h => match us, h with | [_], _ => rfl, fun k hk => nomatch hk⟩
theorem ok__law_bent : d__law_bent.Ok exs tD tK :=
  ⟨⟨rfl, rfl, rfl, by decide +kernel, rfl, by decide +kernel, by decide +kernel⟩, rfl, rfl, by decide +kernel, fun kV doc pm an cdv ct us h => match us, h with | [_, _], _ => rfl, fun k hk => nomatch hk⟩
theorem ok__law_is_integer : d__law_is_integer.Ok exs tD tK :=
  ⟨⟨rfl, rfl, rfl, by decide +kernel, rfl, by decide +kernel, by decide +kernel⟩, rfl, rfl, by decide +kernel, fun kV doc pm an cdv ct us h => match us, h with | [_], _ => rfl, fun k hk => nomatch hk⟩
theorem ok__law_is_number : d__law_is_number.Ok exs tD tK :=
  ⟨⟨rfl, rfl, rfl, by decide +kernel, rfl, by decide +kernel, by decide +kernel⟩, rfl, rfl, by decide +kernel, fun kV doc pm an cdv ct us h => match us, h with | [_], _ => rfl, fun k hk => nomatch hk⟩
theorem ok__law_is_scalar : d__law_is_scalar.Ok exs tD tK :=
  ⟨⟨rfl, rfl, rfl, by decide +kernel, rfl, by decide +kernel, by decide +kernel⟩, rfl, rfl, by decide +kernel, fun kV doc pm an cdv ct us h => match us, h with | [_], _ => rfl, fun k hk => nomatch hk⟩
theorem ok_law : d_law.Ok exs tD tK :=
  ⟨⟨rfl, rfl, rfl, by decide +kernel, rfl, by decide +kernel, by decide +kernel⟩, rfl, rfl, by decide +kernel, fun kV doc pm an cdv ct us h => match us, h with | [_], _ => rfl, fun k hk => nomatch hk⟩
theorem ok_all : ∀ d ∈ tx.ds, d.Ok exs tD tK := by
  intro d m
  simp only [tx, List.mem_cons, List.not_mem_nil, or_false] at m
  rcases m with rfl | rfl | rfl | rfl | rfl | rfl | rfl | rfl | rfl | rfl | rfl | rfl | rfl | rfl
  · exact ok_is_integer
  · exact ok_is_number
  · exact ok_is_scalar
  · exact ok__law_begun
  · exact ok__law_draw
  · exact ok__law_coefficient
  · exact ok__law_candidate
  · exact ok__law_scalar
  · exact ok__law_odd_item
  · exact ok__law_bent
  · exact ok__law_is_integer
  · exact ok__law_is_number
  · exact ok__law_is_scalar
  · exact ok_law
theorem lk_all : ∀ d ∈ tx.ds, tx.pg.defs.lookup d.nm = some d.fn := by
  intro d m
  simp only [tx, List.mem_cons, List.not_mem_nil, or_false] at m
  rcases m with rfl | rfl | rfl | rfl | rfl | rfl | rfl | rfl | rfl | rfl | rfl | rfl | rfl | rfl <;> rfl
theorem defs_nd : (tx.ds.map Dfn.nm).Nodup := by decide +kernel
def nm0 : List PySem.Str := ["MAX_POWER", "MAX_DENOMINATOR", "is_integer", "is_number", "is_scalar", "_law_begun", "_law_draw", "_law_coefficient", "_law_candidate", "_law_scalar", "_law_odd_item", "_law_bent", "_law_is_integer", "_law_is_number", "_law_is_scalar"]
def names : List PySem.Str := nm0
abbrev R : PySem.W.OpenRow := PySem.W.OpenLaw.row RR
abbrev hk : PySem.W.Hook := hookV 4 tx.fa tx.fn tx.tb
def ob (s : PySem.W.SharedT) : Bool × He.AlD := obsV 4 tx.fa tx.fn tx.tb (HandSHeadRun.getT s)
theorem ob_eq (s : PySem.W.SharedT) : ob s = hk.obs s.abs := obsV_eq (HandSHeadRun.getT_eq s)
theorem run (w : World) : HandSHeadRun.RunEq R (PySem.W.view R.prog [17]) hk ob 4000 names w := by
  intro os
  kernel_rfl
end L02
open PySem PySem.W PySem.Calls PyProof.Rows
theorem PySem.Challenge.cw_spiderwires_k02_numbers_and_scalars_holds : PySem.Challenge.rw_spiderwires_k02_numbers_and_scalars.Holds := by
  w_on; o_law
  refine HandSHeadRun.head_any (r := L02.R) (q := view (L02.R).prog [17]) (H := L02.hk) (ob := L02.ob) (M := 4000) (loose := L02.names) (d := HandSHeadRun.topDef (L02.R).prog 17) (kwd := []) L02.ob_eq
    (by kernel_rfl) (fun s => by kernel_rfl) L02.run (by kernel_rfl) (by kernel_rfl) (by kernel_rfl) (by rfl) (by first | assumption | decide +kernel) (by decide +kernel) ⟨rfl, rfl, rfl, rfl, rfl, by decide +kernel⟩ ?hw ?hc
  case hw => w_witness2
  case hc =>
    refine VI.walk_ofG (l := PySem.Challenge.rw_spiderwires_k02_numbers_and_scalars) (n := 63) (k := L02.lvl + 3) (x := "_law_script") rfl (by decide) (by kernel_rfl) ⟨rfl, by decide, by decide⟩ ?F
    intro w mg fa h Y G hmg0
    obtain ⟨K, KX, c, tb⟩ := Y
    have hmg : mg ("law" : PySem.Str) = some (.ref fa) := by
      have e : (HandSHeadRun.topDef (L02.R).prog 17).name = ("law" : PySem.Str) := by kernel_rfl
      rw [← e]
      exact hmg0
    exact VI.end_of (t := L02.tx) (d := L02.d_law) rfl L02.ok_all L02.okx_all L02.exc_all L02.lk_all L02.defs_nd rfl rfl (by simp [L02.tx]) rfl rfl KX G c tb hmg L02.law_true


end
