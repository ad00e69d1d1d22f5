import PyProof.Rows.All
import Wide.All
import OpenK.AllK
import Wide.FinOn
import HandS.ForMost
import HandS.ForExc
import HandS.Zip
import HandS.IsInst
import HandS.Wide
import HandS.TupAny
import HandS.Style
import HandS.TupLe
import HandS.More
import HandS.Flow
import HandS.Conv
import HandS.NoneIn
import HandS.ExcIs
import PySem.Challenge.RW_echohouse_k41_in_a_row_and_beside
set_option Elab.async false
set_option linter.all false
set_option maxRecDepth 100000
set_option maxHeartbeats 8000000
/-! A small machine: what a def of the program computes, over a store of cells. -/
namespace Mx
open PySem L2

/-- values: tuples are values, lists, dicts and objects lie in the store -/
inductive W where
  | non | bl (b : Bool) | int (i : Int) | str (z : Str) | tup (ws : List W) | ref (n : Nat)
  /-- the script -/
  | scr (is : List Int)

inductive Cell where
  | lst (ws : List W)
  | dic (kvs : List (Key × W))
  /-- a dict that is walked -/
  | lck (kvs : List (Key × W))
  | ins (c : Nat) (fs : List (Nat × W))

abbrev Store := List Cell
abbrev Loc := List (Option W)

inductive R (α : Type) where
  | ok (a : α) (st : Store)
  | exc (c : Nat) (fs : List (Nat × W)) (st : Store)
  | bad

/-- how a statement ends -/
inductive Out where
  | nx (ρ : Loc) (st : Store)
  | rt (w : W) (st : Store)
  | bk (ρ : Loc) (st : Store)
  | ct (ρ : Loc) (st : Store)
  | exc (c : Nat) (fs : List (Nat × W)) (ρ : Loc) (st : Store)
  | bad

def R.bind {α β : Type} (x : R α) (f : α → Store → R β) : R β := match x with
  | .ok a st => f a st
  | .exc c fs st => .exc c fs st
  | .bad => .bad

/-- an exception is none of the machine's -/
def R.calm {α : Type} (x : R α) : R α := match x with
  | .ok a st => .ok a st
  | _ => .bad

def lstAt (st : Store) (n : Nat) : Option (List W) := match st[n]? with
  | some (.lst ws) => some ws
  | _ => none
def dicAt (st : Store) (n : Nat) : Option (List (Key × W)) := match st[n]? with
  | some (.dic kvs) => some kvs
  | _ => none
def insAt (st : Store) (n : Nat) : Option (Nat × List (Nat × W)) := match st[n]? with
  | some (.ins c fs) => some (c, fs)
  | _ => none
def seqOf (st : Store) : W → Option (List W)
  | .tup ws => some ws
  | .ref n => lstAt st n
  | _ => none

/-- data of a value, by so many steps down -/
def toD (st : Store) : Nat → W → Option PyData
  | 0, _ => none
  | _ + 1, .non => some .none
  | _ + 1, .bl b => some (.bool b)
  | _ + 1, .int i => some (.int i)
  | _ + 1, .str z => some (.str z)
  | f + 1, .tup ws => (ws.mapM (toD st f)).map .tuple
  | f + 1, .ref n => match lstAt st n with
    | some ws => (ws.mapM (toD st f)).map .list
    | none => none
  | _ + 1, .scr is => some (.list (is.map .int))
def eqW (st : Store) (a b : W) : Option Bool := match toD st 64 a, toD st 64 b with
  | some d, some e => if SeqAt.shaped d = true ∧ SeqAt.shaped e = true then some (PyData.eqv d e) else none
  | _, _ => none

def isFlat : W → Bool
  | .non => true
  | .bl _ => true
  | .int _ => true
  | .str _ => true
  | _ => false
def flatEq : W → W → Bool
  | .non, .non => true
  | .bl a, .bl b => a == b
  | .bl a, .int b => (if a then 1 else 0) == b
  | .int a, .bl b => a == (if b then 1 else 0)
  | .int a, .int b => a == b
  | .str a, .str b => a == b
  | _, _ => false

def okInt (st : Store) (i : Int) : R W := .ok (.int i) st
def newLst (ws : List W) (st : Store) : R W := if ws.length ≤ sizeLine then .ok (.ref st.length) (st ++ [.lst ws]) else .bad

def opBin (op : Operator) (a b : W) (st : Store) : R W := match op, a, b with
  | .Add, .int i, .int j => .ok (.int (i + j)) st
  | .Add, .str i, .str j => if i.length + j.length ≤ sizeLine then .ok (.str (i ++ j)) st else .bad
  | .Add, .tup x, .tup y => if x.length + y.length ≤ sizeLine then .ok (.tup (x ++ y)) st else .bad
  | .Add, .ref m, .ref n => match lstAt st m, lstAt st n with
    | some x, some y => newLst (x ++ y) st
    | _, _ => .bad
  | .Sub, .int i, .int j => .ok (.int (i - j)) st
  | .Mult, .int i, .int j => if i.natAbs.log2 + j.natAbs.log2 < 1000000 then .ok (.int (i * j)) st else .bad
  | .Mult, .ref m, .int k => match lstAt st m with
    | some x => if -(2 ^ 63) ≤ k ∧ k < 2 ^ 63 ∧ x.length * k.toNat ≤ sizeLine then newLst (List.replicate k.toNat x).flatten st else .bad
    | none => .bad
  | .FloorDiv, .int i, .int j => if j ≠ 0 ∧ j.natAbs.log2 < 9000 then .ok (.int (i.fdiv j)) st else .bad
  | .Mod, .int i, .int j => if j ≠ 0 then .ok (.int (i.fmod j)) st else .bad
  | .Pow, .int i, .int j => if 0 ≤ j ∧ j ≤ 1000000 ∧ i.natAbs < 2 ^ 64 then .ok (.int (i ^ j.toNat)) st else .bad
  | _, _, _ => .bad

def keyOf : W → Option Key
  | .int i => some (.inl i)
  | .str z => some (.inr z)
  | _ => none
def kW : Key → W
  | .inl i => .int i
  | .inr z => .str z
def findK (k : Key) (kvs : List (Key × W)) : Option W := (kvs.find? fun kv => decide (kv.1 = k)).map (·.2)

/-- x in y -/
def inW (st : Store) (x y : W) : Option Bool := match y with
  | .str z => match x with
    | .str i => some (!(Builtin.Str.occurrences z i 0 z.length 1).isEmpty)
    | _ => none
  | .ref n => match st[n]? with
    | some (.dic kvs) => (keyOf x).map fun k => (findK k kvs).isSome
    | some (.lst ws) => if isFlat x = true ∧ ws.all isFlat = true then some (ws.any fun y => flatEq y x) else none
    | _ => none
  | .tup ws => if isFlat x = true ∧ ws.all isFlat = true then some (ws.any fun y => flatEq y x) else none
  | _ => none

def isNonW : W → Bool
  | .non => true
  | _ => false
def opCmp (op : CmpOp) (a b : W) (st : Store) : Option Bool := match op with
  | .Eq => eqW st a b
  | .NotEq => (eqW st a b).map (!·)
  | .Lt => match a, b with
    | .int i, .int j => some (decide (i < j))
    | .str i, .str j => some (decide (i.cps.toList < j.cps.toList))
    | _, _ => none
  | .LtE => match a, b with
    | .int i, .int j => some (decide (i ≤ j))
    | .str i, .str j => some (!decide (j.cps.toList < i.cps.toList))
    | _, _ => none
  | .Gt => match a, b with
    | .int i, .int j => some (decide (j < i))
    | .str i, .str j => some (decide (j.cps.toList < i.cps.toList))
    | _, _ => none
  | .GtE => match a, b with
    | .int i, .int j => some (decide (j ≤ i))
    | .str i, .str j => some (!decide (i.cps.toList < j.cps.toList))
    | _, _ => none
  | .Is => match b with
    | .non => some (isNonW a)
    | .bl y => match a with
      | .bl x => some (decide (x = y))
      | _ => none
    | _ => none
  | .IsNot => match b with
    | .non => some (!isNonW a)
    | .bl y => match a with
      | .bl x => some (!decide (x = y))
      | _ => none
    | _ => none
  | .In => inW st a b
  | .NotIn => (inW st a b).map (!·)

/-- truth -/
def truW (st : Store) : W → Option Bool
  | .non => some false
  | .bl b => some b
  | .int i => some (i != 0)
  | .str z => if z.length ≤ sizeLine then some ((z.length : Int) != 0) else none
  | .tup ws => some (!ws.isEmpty)
  | .scr is => some (!is.isEmpty)
  | .ref n => match st[n]? with
    | some (.lst ws) => some (!ws.isEmpty)
    | some (.dic kvs) => some (!kvs.isEmpty)
    | _ => none

/-- an item -/
def ixW (st : Store) (a i : W) : Option W := match a, i with
  | .tup ws, .int k => atI ws k
  | .scr is, .int k => (atI is k).map .int
  | .str z, .int k => if z.length ≤ sizeLine then (atI z.cps.toList k).map fun c => .str ⟨#[c]⟩ else none
  | .ref n, k => match st[n]? with
    | some (.lst ws) => match k with
      | .int k => atI ws k
      | _ => none
    | some (.dic kvs) => (keyOf k).bind fun k => findK k kvs
    | _ => none
  | _, _ => none

/-- the places of a slice -/
def cutW {α : Type} (xs : List α) (lo hi : Option Int) : List α := (xs.drop (HT.sIx xs.length 0 lo)).take (HT.sIx xs.length xs.length hi - HT.sIx xs.length 0 lo)
def slW (st : Store) (a : W) (lo hi : Option Int) : R W := match a with
  | .ref n => match lstAt st n with
    | some ws => newLst (cutW ws lo hi) st
    | none => .bad
  | .tup ws => .ok (.tup (cutW ws lo hi)) st
  | .str z => if z.length ≤ sizeLine then .ok (.str (cutS z lo hi)) st else .bad
  | .scr is => newLst (cutW (is.map W.int) lo hi) st
  | _ => .bad

/-- the built-in functions -/
inductive Bi where
  | len | abs | min2 | max2 | int | str | list | tuple | divmod | any | sum | minL | maxL
  deriving DecidableEq

def intsOf : List W → Option (List Int)
  | [] => some []
  | .int i :: r => (intsOf r).map (i :: ·)
  | _ => none
def blsOf : List W → Option (List Bool)
  | [] => some []
  | .bl i :: r => (blsOf r).map (i :: ·)
  | _ => none

def biW (f : Bi) (vs : List W) (st : Store) : R W := match f, vs with
  | .len, [.tup ws] => .ok (.int ws.length) st
  | .len, [.scr is] => .ok (.int is.length) st
  | .len, [.str z] => if z.length ≤ sizeLine then .ok (.int z.length) st else .bad
  | .len, [.ref n] => match st[n]? with
    | some (.lst ws) => .ok (.int ws.length) st
    | some (.dic kvs) => .ok (.int kvs.length) st
    | _ => .bad
  | .abs, [.int i] => .ok (.int (if i < 0 then -i else i)) st
  | .max2, [.int i, .int j] => .ok (.int (if j > i then j else i)) st
  | .min2, [.int i, .int j] => .ok (.int (if j < i then j else i)) st
  | .int, [.int i] => .ok (.int i) st
  | .int, [.bl b] => .ok (.int (if b then 1 else 0)) st
  | .int, [.str z] => match PySem.intText? z with
    | some n => if z.length ≤ 640 then .ok (.int n) st else .bad
    | none => .bad
  | .str, [.int i] => if i.natAbs.log2 < 1920 then .ok (.str (toString i)) st else .bad
  | .list, [w] => match seqOf st w with
    | some ws => newLst ws st
    | none => .bad
  | .tuple, [.tup ws] => .ok (.tup ws) st
  | .tuple, [.ref n] => match lstAt st n with
    | some ws => .ok (.tup ws) st
    | none => .bad
  | .divmod, [.int i, .int j] => if 0 < j ∧ j < 1073741824 then .ok (.tup [.int (i / j), .int (i % j)]) st else .bad
  | .any, [.ref n] => match (lstAt st n).bind blsOf with
    | some bs => .ok (.bl (bs.any id)) st
    | none => .bad
  | .sum, [.ref n] => match (lstAt st n).bind intsOf with
    | some is => .ok (.int is.sum) st
    | none => .bad
  | .minL, [.ref n] => match (lstAt st n).bind intsOf with
    | some (i :: is) => .ok (.int (is.foldl min i)) st
    | _ => .bad
  | .maxL, [.ref n] => match (lstAt st n).bind intsOf with
    | some (i :: is) => .ok (.int (is.foldl max i)) st
    | _ => .bad
  | _, _ => .bad

/-- the methods of built-in types -/
inductive Bm where
  | append | extend | pop | popAt | clear | insert | reverse
  deriving DecidableEq

def bmW (m : Bm) (o : W) (vs : List W) (st : Store) : R W := match o with
  | .ref n => match m, vs with
    | .append, [w] => match lstAt st n with
      | some ws => if ws.length < sizeLine then .ok .non (st.set n (.lst (ws ++ [w]))) else .bad
      | none => .bad
    | .extend, [.ref k] => match lstAt st n, lstAt st k with
      | some ws, some zs => if ws.length + zs.length ≤ sizeLine then .ok .non (st.set n (.lst (ws ++ zs))) else .bad
      | _, _ => .bad
    | .pop, [] => match lstAt st n with
      | some ws => match ws[ws.length - 1]? with
        | some w => .ok w (st.set n (.lst ws.dropLast))
        | none => .bad
      | none => .bad
    | .popAt, [.int i] => match lstAt st n with
      | some ws => if -(2 ^ 63) ≤ i ∧ i < 2 ^ 63 then match ixN ws.length i with
          | some k => match ws[k]? with
            | some w => .ok w (st.set n (.lst (ws.eraseIdx k)))
            | none => .bad
          | none => .bad
        else .bad
      | none => .bad
    | .clear, [] => match lstAt st n with
      | some _ => .ok .non (st.set n (.lst []))
      | none => .bad
    | .insert, [.int i, w] => match lstAt st n with
      | some ws => if ws.length < sizeLine ∧ 0 ≤ i ∧ i < 2 ^ 63 then .ok .non (st.set n (.lst (ws.take i.toNat ++ [w] ++ ws.drop i.toNat))) else .bad
      | none => .bad
    | .reverse, [] => match lstAt st n with
      | some ws => .ok .non (st.set n (.lst ws.reverse))
      | none => .bad
    | _, _ => .bad
  | _ => .bad

/-- what is walked -/
inductive Iter where
  | lst (n len : Nat)
  | tup (ws : List W)
  | rng (lo : Int) (n : Nat)
  | rngC (lo c : Int) (n : Nat)
  | str (z : Str)
  | enum (n len : Nat)
  | zip (n m len : Nat)
  | zipT (ws us : List W)
  | rev (n len : Nat)
/-- so many turns at most -/
def Iter.most : Iter → Nat
  | .lst _ l => l
  | .tup ws => ws.length
  | .rng _ n => n
  | .rngC _ _ n => n
  | .str z => z.cps.size
  | .enum _ l => l
  | .zip _ _ l => l
  | .zipT ws _ => ws.length
  | .rev _ l => l
/-- turn i: an item, or the end -/
def Iter.get (st : Store) (i : Nat) : Iter → Option (Option W)
  | .lst n _ => (lstAt st n).map fun ws => ws[i]?
  | .tup ws => some ws[i]?
  | .rng lo n => some (if i < n then some (.int (lo + i)) else none)
  | .rngC lo c n => some (if i < n then some (.int (lo + (i : Nat) * c)) else none)
  | .str z => some (z.cps[i]?.map fun c => .str ⟨#[c]⟩)
  | .enum n _ => (lstAt st n).map fun ws => ws[i]?.map fun w => .tup [.int (i : Nat), w]
  | .zip n m _ => match lstAt st n, lstAt st m with
    | some ws, some us => some (match ws[i]?, us[i]? with
      | some w, some u => some (.tup [w, u])
      | _, _ => none)
    | _, _ => none
  | .zipT ws us => some (match ws[i]?, us[i]? with
      | some w, some u => some (.tup [w, u])
      | _, _ => none)
  | .rev n l => if i < l then match lstAt st n with
      | some ws => match ws[l - 1 - i]? with
        | some w => some (some w)
        | none => none
      | none => none
    else some none

/-! ### code -/
/-- what an except suite makes: ['..', '..'][int(isinstance(e, C))], put together -/
inductive XV where
  | non | str (z : Str) | int (i : Int)
  | pick (z0 z1 : Str) (c : Nat)
  | cat (a b : XV)
/-- an except suite -/
inductive XS where
  | set (j : Nat) (v : XV)
  | put (l : Nat) (k : Int) (v : XV)
mutual
inductive CE where
  | var (i : Nat)
  | glb (g : Nat)
  | int (i : Int) | bl (b : Bool) | non | str (z : Str)
  | bop (op : Operator) (a b : CE)
  | neg (a : CE)
  | cmp (op : CmpOp) (a b : CE)
  | chn (op op' : CmpOp) (a b c : CE)
  | and1 (a : CE) | and (a b : CE) | or1 (a : CE) | or (a b : CE) | not (a : CE)
  | ife (c a b : CE)
  | tup (es : CA) | lst (es : CA) | dct
  | call (f : Nat) (es : CA)
  | bi (f : Bi) (es : CA)
  | mk (c : Nat) (es : CA)
  | mth (o : CE) (m : Nat) (es : CA)
  | bm (m : Bm) (o : CE) (es : CA)
  | idx (a i : CE)
  | slc (a : CE) (lo hi : CO)
  | fld (o : CE) (f : Nat)
  | isi (x : CE) (cs : List Nat)
  | lc (own : List Nat) (t : CT) (it : CI) (ifs : CA) (e : CE)
inductive CA where
  | nil | cons (e : CE) (es : CA)
inductive CO where
  | no | yes (e : CE)
inductive CI where
  | val (e : CE)
  | rng1 (a : CE) | rng2 (a b : CE) | rng3 (a b c : CE)
  | enum (a : CE) | zip (a b : CE) | rev (a : CE)
inductive CT where
  | name (i : Nat)
  | tup (ts : CTs)
  | idx (o i : CE)
  | fld (o : CE) (f : Nat)
inductive CTs where
  | nil | cons (t : CT) (ts : CTs)
end
mutual
inductive CS where
  | skip
  | set (t : CT) (e : CE)
  | par (i j : Nat) (a b : CE)
  | aug (i : Nat) (op : Operator) (e : CE)
  | expr (e : CE)
  | ret (e : CE)
  | retN
  | brk | cnt
  | ife (c : CE) (a b : CB)
  | whl (c : CE) (b : CB)
  | for (t : CT) (it : CI) (b : CB)
  /-- what the proof never comes to -/
  | never
  /-- raise C('..') -/
  | rse (c : Nat)
  /-- try: .. except C as i: one suite -/
  | trx (b : CB) (i : Option Nat) (h : Nat) (s : XS)
inductive CB where
  | nil | cons (s : CS) (b : CB)
end

def CTs.len : CTs → Nat
  | .nil => 0
  | .cons _ ts => ts.len + 1

/-- what a call, a class, a constant is -/
structure Orc where
  call : Nat → List W → Store → R W
  glb : Nat → Option W
  isi : Store → W → List Nat → Option Bool
  make : Nat → List W → Store → R W
  /-- a class's method, by number -/
  cm : Nat → Nat → Option Nat
  /-- is an exception of the one class one of the other? -/
  sub : Nat → Nat → Bool

/-- the def that a method's call comes to -/
def getm (o : Orc) (st : Store) (w : W) (m : Nat) : Option Nat := match w with
  | .ref n => match insAt st n with
    | some (c, _) => o.cm c m
    | none => none
  | _ => none
def isLst (st : Store) : W → Bool
  | .ref n => (lstAt st n).isSome
  | _ => false

def ofOpt {α : Type} (x : Option α) (st : Store) : R α := match x with
  | some a => .ok a st
  | none => .bad

/-- an iterable value -/
def iterOf (st : Store) : W → Option Iter
  | .tup ws => some (.tup ws)
  | .str z => some (.str z)
  | .ref n => (lstAt st n).map fun ws => .lst n ws.length
  | _ => none
def rngOk (i : Int) : Bool := decide (-(2 ^ 62) ≤ i) && decide (i < 2 ^ 62)
def rngI (i j : Int) : Option Iter := if rngOk i = true ∧ rngOk j = true then some (.rng i (j - i).toNat) else none
def rngCI (i j c : Int) : Option Iter := if c ≠ 0 ∧ c.natAbs < 1073741824 ∧ Builtin.Range.small i j c = true ∧ 0 ≤ Builtin.Range.rangeSize i j c then some (.rngC i c (Builtin.Range.rangeSize i j c).toNat) else none
def enumI (st : Store) : W → Option Iter
  | .ref n => (lstAt st n).map fun ws => .enum n ws.length
  | _ => none
def zipI (st : Store) : W → W → Option Iter
  | .ref n, .ref m => match lstAt st n, lstAt st m with
    | some ws, some us => some (.zip n m (min ws.length us.length))
    | _, _ => none
  | .tup ws, .tup us => some (.zipT ws us)
  | _, _ => none
def revI (st : Store) : W → Option Iter
  | .ref n => (lstAt st n).map fun ws => .rev n ws.length
  | _ => none

/-- an item of a dict is put -/
def putKW (k : Key) (w : W) (kvs : List (Key × W)) : List (Key × W) := if (kvs.any fun kv => decide (kv.1 = k)) = true then kvs.map (fun kv => if kv.1 = k then (kv.1, w) else kv) else kvs ++ [(k, w)]
/-- o[i] = w -/
def setW (o i w : W) (st : Store) : Option Store := match o with
  | .ref n => match st[n]? with
    | some (.lst ws) => match i with
      | .int k => (ixN ws.length k).map fun j => st.set n (.lst (ws.set j w))
      | _ => none
    | some (.dic kvs) => match keyOf i with
      | some k => if kvs.length < 1000 then some (st.set n (.dic (putKW k w kvs))) else none
      | none => none
    | _ => none
  | _ => none
def putFld (f : Nat) (w : W) : List (Nat × W) → List (Nat × W)
  | [] => [(f, w)]
  | (g, u) :: r => if g = f then (f, w) :: r else (g, u) :: putFld f w r
/-- o.f = w -/
def setFldW (o : W) (f : Nat) (w : W) (st : Store) : Option Store := match o with
  | .ref n => match st[n]? with
    | some (.ins c fs) => if fs.length < 1000 then some (st.set n (.ins c (putFld f w fs))) else none
    | _ => none
  | _ => none
def getFldW (o : W) (f : Nat) (st : Store) : Option W := match o with
  | .ref n => match st[n]? with
    | some (.ins _ fs) => fs.lookup f
    | _ => none
  | _ => none

/-- an except suite, run -/
def evX (sub : Nat → Nat → Bool) (c : Nat) : XV → Option W
  | .non => some .non
  | .str z => some (.str z)
  | .int i => some (.int i)
  | .pick z0 z1 d => some (.str (if sub c d then z1 else z0))
  | .cat a b => match evX sub c a, evX sub c b with
    | some (.str x), some (.str y) => if x.length + y.length ≤ sizeLine then some (.str (x ++ y)) else none
    | _, _ => none
def runX0 (sub : Nat → Nat → Bool) (c : Nat) : XS → Loc → Store → Option (Loc × Store)
  | .set j v, ρ, st => (evX sub c v).map fun w => (ρ.set j (some w), st)
  | .put l k v, ρ, st => match ρ[l]? with
    | some (some a) => (evX sub c v).bind fun w => (setW a (.int k) w st).map fun st' => (ρ, st')
    | _ => none
def goneL : Option Nat → Loc → Loc
  | none, ρ => ρ
  | some i, ρ => ρ.set i none
def runX (sub : Nat → Nat → Bool) (i : Option Nat) (s : XS) (c : Nat) (ρ : Loc) (st : Store) : Out := match runX0 sub c s (goneL i ρ) st with
  | some (ρ', st') => .nx (goneL i ρ') st'
  | none => .bad
def tryO (sub : Nat → Nat → Bool) (h : Nat) (F : Nat → Loc → Store → Out) (x : Out) : Out := match x with
  | .exc c fs ρ st => match sub c h with
    | true => match fs with
      | [] => F c ρ st
      | _ => .bad
    | false => .exc c fs ρ st
  | x => x

def isLogic : CE → Bool
  | .and1 _ => true
  | .and _ _ => true
  | .or1 _ => true
  | .or _ _ => true
  | .not _ => true
  | _ => false

/-- the turns of a comprehension: fuel, turn -/
def lcLoop (body : W → Loc → Store → R (Option W)) (it : Iter) (ρ : Loc) : Nat → Nat → List W → Store → R (List W)
  | 0, i, acc, st => match it.get st i with
    | some none => .ok acc st
    | _ => .bad
  | f + 1, i, acc, st => match it.get st i with
    | some none => .ok acc st
    | some (some w) => match body w ρ st with
      | .ok (some u) st' => if acc.length < sizeLine then lcLoop body it ρ f (i + 1) (acc ++ [u]) st' else .bad
      | .ok none st' => lcLoop body it ρ f (i + 1) acc st'
      | _ => .bad
    | none => .bad

mutual
def evE (o : Orc) : CE → Loc → Store → R W
  | .var i, ρ, st => match ρ[i]? with
    | some (some w) => .ok w st
    | _ => .bad
  | .glb g, _, st => ofOpt (o.glb g) st
  | .int i, _, st => .ok (.int i) st
  | .bl b, _, st => .ok (.bl b) st
  | .non, _, st => .ok .non st
  | .str z, _, st => .ok (.str z) st
  | .bop op a b, ρ, st => (evE o a ρ st).bind fun x st => (evE o b ρ st).bind fun y st => opBin op x y st
  | .neg a, ρ, st => (evE o a ρ st).bind fun x st => match x with
    | .int i => .ok (.int (-i)) st
    | _ => .bad
  | .cmp op a b, ρ, st => (evE o a ρ st).bind fun x st => (evE o b ρ st).bind fun y st => (ofOpt (opCmp op x y st) st).bind fun c st => .ok (.bl c) st
  | .chn op op' a b c, ρ, st => (evE o a ρ st).bind fun x st => (evE o b ρ st).bind fun y st => (ofOpt (opCmp op x y st) st).bind fun k st =>
    match k with
    | true => (evE o c ρ st).bind fun z st => (ofOpt (opCmp op' y z st) st).bind fun k st => .ok (.bl k) st
    | false => .ok (.bl false) st
  | .and1 a, ρ, st => evE o a ρ st
  | .and a b, ρ, st => (evE o a ρ st).bind fun x st => match x with
    | .bl true => evE o b ρ st
    | .bl false => .ok (.bl false) st
    | _ => .bad
  | .or1 a, ρ, st => evE o a ρ st
  | .or a b, ρ, st => (evE o a ρ st).bind fun x st => match x with
    | .bl true => .ok (.bl true) st
    | .bl false => evE o b ρ st
    | _ => .bad
  | .not a, ρ, st => (evE o a ρ st).bind fun x st => match x with
    | .bl c => .ok (.bl (!c)) st
    | _ => .bad
  | .ife c a b, ρ, st => (evT o c ρ st).bind fun k st => match k with
    | true => evE o a ρ st
    | false => evE o b ρ st
  | .tup es, ρ, st => (evA o es ρ st).bind fun ws st => if ws.length ≤ sizeLine then .ok (.tup ws) st else .bad
  | .lst es, ρ, st => (evA o es ρ st).bind fun ws st => newLst ws st
  | .dct, _, st => .ok (.ref st.length) (st ++ [.dic []])
  | .call f es, ρ, st => (evA o es ρ st).bind fun ws st => o.call f ws st
  | .bi f es, ρ, st => (evA o es ρ st).bind fun ws st => biW f ws st
  | .mk c es, ρ, st => (evA o es ρ st).bind fun ws st => o.make c ws st
  | .mth x m es, ρ, st => (evE o x ρ st).bind fun w st => match getm o st w m with
    | some f => (evA o es ρ st).bind fun ws st => o.call f (w :: ws) st
    | none => .bad
  | .bm m x es, ρ, st => (evE o x ρ st).bind fun w st => match isLst st w with
    | true => (evA o es ρ st).bind fun ws st => bmW m w ws st
    | false => .bad
  | .idx a i, ρ, st => (evE o a ρ st).bind fun x st => (evE o i ρ st).bind fun y st => ofOpt (ixW st x y) st
  | .slc a lo hi, ρ, st => (evE o a ρ st).bind fun x st => (evO o lo ρ st).bind fun l st => (evO o hi ρ st).bind fun h st => slW st x l h
  | .fld x f, ρ, st => (evE o x ρ st).bind fun w st => ofOpt (getFldW w f st) st
  | .isi x cs, ρ, st => (evE o x ρ st).bind fun w st => (ofOpt (o.isi st w cs) st).bind fun b st => .ok (.bl b) st
  | .lc own t it ifs e, ρ, st => (evI o it ρ st).bind fun J st =>
    (lcLoop (fun w ρ st => (evG o t w ρ st).bind fun ρ' st =>
        (evTs o ifs ρ' st).bind fun k st => match k with
          | true => (evE o e ρ' st).bind fun u st => .ok (some u) st
          | false => .ok none st)
      J (own.foldr (fun i ρ => ρ.set i none) ρ) J.most 0 [] st).bind fun ws st => newLst ws st
/-- as a test -/
def evT (o : Orc) : CE → Loc → Store → R Bool
  | .and1 a, ρ, st => evT o a ρ st
  | .and a b, ρ, st => (evT o a ρ st).bind fun k st => match k with
    | true => evT o b ρ st
    | false => .ok false st
  | .or1 a, ρ, st => evT o a ρ st
  | .or a b, ρ, st => (evT o a ρ st).bind fun k st => match k with
    | true => .ok true st
    | false => evT o b ρ st
  | .not a, ρ, st => (evT o a ρ st).bind fun k st => .ok (!k) st
  | .cmp op a b, ρ, st => (evE o a ρ st).bind fun x st => (evE o b ρ st).bind fun y st => ofOpt (opCmp op x y st) st
  | .chn op op' a b c, ρ, st => (evE o a ρ st).bind fun x st => (evE o b ρ st).bind fun y st => (ofOpt (opCmp op x y st) st).bind fun k st =>
    match k with
    | true => (evE o c ρ st).bind fun z st => ofOpt (opCmp op' y z st) st
    | false => .ok false st
  | .var i, ρ, st => match ρ[i]? with
    | some (some w) => ofOpt (truW st w) st
    | _ => .bad
  | .call f es, ρ, st => ((evA o es ρ st).bind fun ws st => o.call f ws st).bind fun w st => ofOpt (truW st w) st
  | .mth x m es, ρ, st => ((evE o x ρ st).bind fun w st => match getm o st w m with
    | some f => (evA o es ρ st).bind fun ws st => o.call f (w :: ws) st
    | none => .bad).bind fun w st => ofOpt (truW st w) st
  | .bi f es, ρ, st => ((evA o es ρ st).bind fun ws st => biW f ws st).bind fun w st => ofOpt (truW st w) st
  | .isi x cs, ρ, st => (evE o x ρ st).bind fun w st => ofOpt (o.isi st w cs) st
  | .bl b, _, st => .ok b st
  | .idx a i, ρ, st => ((evE o a ρ st).bind fun x st => (evE o i ρ st).bind fun y st => ofOpt (ixW st x y) st).bind fun w st => ofOpt (truW st w) st
  | .fld x f, ρ, st => ((evE o x ρ st).bind fun w st => ofOpt (getFldW w f st) st).bind fun w st => ofOpt (truW st w) st
  | _, _, _ => .bad
/-- all tests of a comprehension -/
def evTs (o : Orc) : CA → Loc → Store → R Bool
  | .nil, _, st => .ok true st
  | .cons c _, ρ, st => evT o c ρ st
def evA (o : Orc) : CA → Loc → Store → R (List W)
  | .nil, _, st => .ok [] st
  | .cons e es, ρ, st => (evE o e ρ st).bind fun w st => (evA o es ρ st).bind fun ws st => .ok (w :: ws) st
def evO (o : Orc) : CO → Loc → Store → R (Option Int)
  | .no, _, st => .ok none st
  | .yes e, ρ, st => (evE o e ρ st).bind fun w st => match w with
    | .int i => .ok (some i) st
    | _ => .bad
def evI (o : Orc) : CI → Loc → Store → R Iter
  | .val e, ρ, st => (evE o e ρ st).bind fun w st => ofOpt (iterOf st w) st
  | .rng1 a, ρ, st => (evE o a ρ st).bind fun w st => match w with
    | .int j => ofOpt (rngI 0 j) st
    | _ => .bad
  | .rng2 a b, ρ, st => (evE o a ρ st).bind fun w st => (evE o b ρ st).bind fun u st => match w, u with
    | .int i, .int j => ofOpt (rngI i j) st
    | _, _ => .bad
  | .rng3 a b c, ρ, st => (evE o a ρ st).bind fun w st => (evE o b ρ st).bind fun u st => (evE o c ρ st).bind fun v st => match w, u, v with
    | .int i, .int j, .int k => ofOpt (rngCI i j k) st
    | _, _, _ => .bad
  | .enum a, ρ, st => (evE o a ρ st).bind fun w st => ofOpt (enumI st w) st
  | .zip a b, ρ, st => (evE o a ρ st).bind fun w st => (evE o b ρ st).bind fun u st => ofOpt (zipI st w u) st
  | .rev a, ρ, st => (evE o a ρ st).bind fun w st => ofOpt (revI st w) st
/-- a target takes a value -/
def evG (o : Orc) : CT → W → Loc → Store → R Loc
  | .name i, w, ρ, st => .ok (ρ.set i (some w)) st
  | .tup ts, w, ρ, st => match w with
    | .tup ws => if ws.length = ts.len then evGs o ts ws ρ st else .bad
    | .ref n => match lstAt st n with
      | some ws => if ws.length = ts.len then evGs o ts ws ρ st else .bad
      | none => .bad
    | _ => .bad
  | .idx x i, w, ρ, st => (evE o x ρ st).bind fun a st => (evE o i ρ st).bind fun b st => match setW a b w st with
    | some st' => .ok ρ st'
    | none => .bad
  | .fld x f, w, ρ, st => (evE o x ρ st).bind fun a st => match setFldW a f w st with
    | some st' => .ok ρ st'
    | none => .bad
def evGs (o : Orc) : CTs → List W → Loc → Store → R Loc
  | .nil, ws, ρ, st => match ws with
    | [] => .ok ρ st
    | _ => .bad
  | .cons t ts, ws, ρ, st => match ws with
    | w :: ws => (evG o t w ρ st).bind fun ρ st => (evGs o ts ws ρ st).calm
    | [] => .bad
end

def R.out {α : Type} (x : R α) (ρ : Loc) (f : α → Store → Out) : Out := match x with
  | .ok a st => f a st
  | .exc c fs st => .exc c fs ρ st
  | .bad => .bad

/-- so many turns a while may have -/
def mostTurns : Nat := 2 ^ 64
def whlLoop (test : Loc → Store → R Bool) (body : Loc → Store → Out) : Nat → Loc → Store → Out
  | 0, _, _ => .bad
  | f + 1, ρ, st => (test ρ st).out ρ fun k st => match k with
    | true => match body ρ st with
      | .nx ρ st => whlLoop test body f ρ st
      | .ct ρ st => whlLoop test body f ρ st
      | .bk ρ st => .nx ρ st
      | .rt w st => .rt w st
      | .exc c fs ρ st => .exc c fs ρ st
      | .bad => .bad
    | false => .nx ρ st
def forLoop (body : W → Loc → Store → Out) (it : Iter) : Nat → Nat → Loc → Store → Out
  | 0, i, ρ, st => match it.get st i with
    | some none => .nx ρ st
    | _ => .bad
  | f + 1, i, ρ, st => match it.get st i with
    | some none => .nx ρ st
    | some (some w) => match body w ρ st with
      | .nx ρ st => forLoop body it f (i + 1) ρ st
      | .ct ρ st => forLoop body it f (i + 1) ρ st
      | .bk ρ st => .nx ρ st
      | .rt w st => .rt w st
      | .exc c fs ρ st => .exc c fs ρ st
      | .bad => .bad
    | none => .bad

mutual
def evS (o : Orc) : CS → Loc → Store → Out
  | .skip, ρ, st => .nx ρ st
  | .set t e, ρ, st => (evE o e ρ st).out ρ fun w st => (evG o t w ρ st).out ρ fun ρ st => .nx ρ st
  | .par i j a b, ρ, st => (evE o a ρ st).out ρ fun x st => (evE o b ρ st).out ρ fun y st => .nx ((ρ.set i (some x)).set j (some y)) st
  | .aug i op e, ρ, st => match ρ[i]? with
    | some (some x) => (evE o e ρ st).out ρ fun y st => match op, x, y with
      | .Add, .int a, .int b => .nx (ρ.set i (some (.int (a + b)))) st
      | .Sub, .int a, .int b => .nx (ρ.set i (some (.int (a - b)))) st
      | _, _, _ => .bad
    | _ => .bad
  | .expr e, ρ, st => (evE o e ρ st).out ρ fun _ st => .nx ρ st
  | .ret e, ρ, st => (evE o e ρ st).out ρ fun w st => .rt w st
  | .retN, _, st => .rt .non st
  | .brk, ρ, st => .bk ρ st
  | .cnt, ρ, st => .ct ρ st
  | .ife c a b, ρ, st => (evT o c ρ st).out ρ fun k st => match k with
    | true => evB o a ρ st
    | false => evB o b ρ st
  | .whl c b, ρ, st => whlLoop (evT o c) (evB o b) mostTurns ρ st
  | .for t it b, ρ, st => (evI o it ρ st).out ρ fun J st => forLoop (fun w ρ st => (evG o t w ρ st).out ρ fun ρ st => evB o b ρ st) J J.most 0 ρ st
  | .never, _, _ => .bad
  | .rse c, ρ, st => .exc c [] ρ st
  | .trx b i h s, ρ, st => tryO o.sub h (runX o.sub i s) (evB o b ρ st)
def evB (o : Orc) : CB → Loc → Store → Out
  | .nil, ρ, st => .nx ρ st
  | .cons s b, ρ, st => match evS o s ρ st with
    | .nx ρ st => evB o b ρ st
    | .rt w st => .rt w st
    | .bk ρ st => .bk ρ st
    | .ct ρ st => .ct ρ st
    | .exc c fs ρ st => .exc c fs ρ st
    | .bad => .bad
end

/-- a def: its parameters, its names, its body -/
structure Fn where
  ps : Nat
  ns : Nat
  body : CB
/-- what a call's body leaves -/
def Out.val : Out → R W
  | .nx _ st => .ok .non st
  | .rt w st => .ok w st
  | .exc c fs _ st => .exc c fs st
  | _ => .bad
def runFn (o : Orc) (f : Fn) (ws : List W) (st : Store) : R W :=
  if ws.length = f.ps then (evB o f.body (ws.map some ++ List.replicate (f.ns - ws.length) none) st).val else .bad

/-- a program: defs by number (methods too), constants, classes: the number of __init__, the methods, the classes that it is -/
structure Klass where
  init : Option Nat
  mth : Nat → Option Nat
  ups : List Nat
structure Prog where
  fn : Nat → Option Fn
  glb : Nat → Option W
  cls : Nat → Option Klass
  sub : Nat → Nat → Bool := fun _ _ => false

/-- the built-in types by number, below 16 -/
def tyOf (st : Store) : W → Option Nat
  | .non => some 0
  | .bl _ => some 1
  | .int _ => some 2
  | .str _ => some 3
  | .tup _ => some 4
  | .ref n => match st[n]? with
    | some (.lst _) => some 5
    | some (.dic _) => some 6
    | some (.ins c _) => some (c + 16)
    | _ => none
  | .scr _ => some 5
/-- is a thing of type t one of class c? -/
def isOne (P : Prog) (t c : Nat) : Option Bool :=
  if t < 16 then (if c < 16 then (if c < 7 then some (t == c || (t == 1 && c == 2)) else none) else (P.cls (c - 16)).map fun _ => false)
  else if c < 16 then (if c < 7 then (P.cls (t - 16)).map fun _ => false else none) else (P.cls (t - 16)).bind fun k => (P.cls (c - 16)).map fun _ => k.ups.contains (c - 16)
def isAny (P : Prog) (t : Nat) : List Nat → Option Bool
  | [] => some false
  | c :: cs => match isOne P t c with
    | some true => some true
    | some false => isAny P t cs
    | none => none

/-- what a body asks of the program: calls by one, what makes an object by another -/
def orcOf (P : Prog) (call mkc : Nat → List W → Store → R W) : Orc where
  call := call
  glb := P.glb
  isi := fun st w cs => if cs.length ≤ 100 then (tyOf st w).bind fun t => isAny P t cs else none
  make := fun c ws st => match P.cls c with
    | some k => match k.init with
      | some f => (mkc f (.ref st.length :: ws) (st ++ [.ins c []])).bind fun w st' => match w with
        | .non => .ok (.ref st.length) st'
        | _ => .bad
      | none => match ws with
        | [] => .ok (.ref st.length) (st ++ [.ins c []])
        | _ => .bad
    | none => .bad
  cm := fun c m => (P.cls c).bind fun k => k.mth m
  sub := P.sub

/-- a def's call, so many calls deep at most; and what makes objects, one call below -/
def runP (P : Prog) : Nat → (Nat → List W → Store → R W) × (Nat → List W → Store → R W)
  | 0 => (fun _ _ _ => .bad, fun _ _ _ => .bad)
  | k + 1 => (fun f ws st => match P.fn f with
    | some d => runFn (orcOf P (runP P k).1 (runP P k).2) d ws st
    | none => .bad, (runP P k).1)
def runL (P : Prog) (k : Nat) : Nat → List W → Store → R W := (runP P k).1
def mkOf (P : Prog) (k : Nat) : Nat → List W → Store → R W := (runP P k).2
theorem runL_succ (P : Prog) (k f : Nat) (ws : List W) (st : Store) : runL P (k + 1) f ws st = match P.fn f with
    | some d => runFn (orcOf P (runL P k) (mkOf P k)) d ws st
    | none => .bad := rfl
end Mx

/-! How the machine's store lies in the abstract heap. -/
namespace Mx
open PySem PySem.Spec PyProof.Rows L2

/-- names: of classes (their addresses), of fields -/
structure Nm where
  cA : Nat → Option Addr
  fld : Nat → Str
  /-- exceptions' classes -/
  xA : Nat → Option Addr

/-- a list that never changes: known to the object, or one of the module's -/
def SqF (K : PySem.W.Frag) (H : Hp) (a : Addr) (xs : List V) : Prop := (∃ o, H a = some (.frz o (.lst xs))) ∨ ((∃ (o : Obj) (its : Array Value) (n : Nat), K.lookup a = some o ∧ o.cls = .type "list" ∧ o.dict = none ∧ o.data = .seq its n ∧ its.size ≤ sizeLine ∧ Vals xs its.toList))
theorem SqF.l {K : PySem.W.Frag} {H : Hp} {a : Addr} {xs : List V} (h : SqF K H a xs) : SqL K H a xs := by
  rcases h with ⟨o, h⟩ | h
  · exact .inl (.inr ⟨o, h⟩)
  · exact .inr h

section
variable (K : PySem.W.Frag)
mutual
inductive RV (ι : List Addr) (H : Hp) : W → V → Prop where
  | non : RV ι H .non .non
  | bl (b : Bool) : RV ι H (.bl b) (.bl b)
  | int (i : Int) : RV ι H (.int i) (.int i)
  | str (z : Str) : RV ι H (.str z) (.str z)
  | tup {a : Addr} {vs : List V} {ws : List W} (h : SqT K H a vs) (r : RVs ι H ws vs) : RV ι H (.tup ws) (.ref a)
  | ref {n : Nat} {a : Addr} (h : ι[n]? = some a) : RV ι H (.ref n) (.ref a)
  | scr {a : Addr} {is : List Int} (h : SqF K H a (is.map V.int)) : RV ι H (.scr is) (.ref a)
inductive RVs (ι : List Addr) (H : Hp) : List W → List V → Prop where
  | nil : RVs ι H [] []
  | cons {w : W} {v : V} {ws : List W} {vs : List V} (h : RV ι H w v) (t : RVs ι H ws vs) : RVs ι H (w :: ws) (v :: vs)
end
/-- dicts, fields -/
inductive RKs (ι : List Addr) (H : Hp) : List (Key × W) → List (Key × V) → Prop where
  | nil : RKs ι H [] []
  | cons {k : Key} {w : W} {v : V} {ws : List (Key × W)} {vs : List (Key × V)} (h : RV K ι H w v) (t : RKs ι H ws vs) : RKs ι H ((k, w) :: ws) ((k, v) :: vs)
inductive RFs (N : Nm) (ι : List Addr) (H : Hp) : List (Nat × W) → List (Str × V) → Prop where
  | nil : RFs N ι H [] []
  | cons {f : Nat} {w : W} {v : V} {ws : List (Nat × W)} {vs : List (Str × V)} (h : RV K ι H w v) (t : RFs N ι H ws vs) : RFs N ι H ((f, w) :: ws) ((N.fld f, v) :: vs)
/-- a cell at an address -/
inductive RC (N : Nm) (ι : List Addr) (H : Hp) : Cell → Addr → Prop where
  | lst {a : Addr} {ws : List W} {vs : List V} (h : H a = some (.lst vs)) (r : RVs K ι H ws vs) : RC N ι H (.lst ws) a
  | dic {a : Addr} {ws : List (Key × W)} {vs : List (Key × V)} (h : H a = some (.dK vs)) (r : RKs K ι H ws vs) : RC N ι H (.dic ws) a
  | lck {a : Addr} {ws : List (Key × W)} {vs : List (Key × V)} {o : Obj} (h : H a = some (.frz o (.dK vs))) (r : RKs K ι H ws vs) : RC N ι H (.lck ws) a
  | ins {a C dx : Addr} {c : Nat} {ws : List (Nat × W)} {vs : List (Str × V)} (h : H a = some (.ins C dx vs)) (hc : N.cA c = some C) (r : RFs K N ι H ws vs) : RC N ι H (.ins c ws) a
structure SR (N : Nm) (ι : List Addr) (H : Hp) (st : Store) : Prop where
  len : ι.length = st.length
  nd : ι.Nodup
  cel : ∀ (n : Nat) (c : Cell), st[n]? = some c → ∃ a, ι[n]? = some a ∧ RC K N ι H c a
def RS (ι : List Addr) (H : Hp) (ρ : Loc) (σ : L2.St) : Prop := ρ.length = σ.length ∧ ∀ (i : Nat) (w : W), ρ[i]? = some (some w) → ∃ v, σ[i]? = some (some v) ∧ RV K ι H w v
end
structure Ext (ι : List Addr) (H : Hp) (ι' : List Addr) (H' : Hp) : Prop where
  pre : ∀ (n : Nat) (a : Addr), ι[n]? = some a → ι'[n]? = some a
  keep : ∀ b o, b ∉ ι → H b = some o → H' b = some o
  new : ∀ b, b ∈ ι' → b ∈ ι ∨ H b = none

section
variable {K : PySem.W.Frag} {N : Nm} {ι ι' ι1 ι2 : List Addr} {H H' H1 H2 : Hp} {st : Store}

theorem Ext.refl : Ext ι H ι H := ⟨fun _ _ h => h, fun _ _ _ h => h, fun _ h => .inl h⟩
theorem Ext.trans (a : Ext ι H ι1 H1) (b : Ext ι1 H1 ι2 H2) : Ext ι H ι2 H2 := by
  refine ⟨fun n x h => b.pre n x (a.pre n x h), fun c o hc h => ?_, fun c hc => ?_⟩
  · refine b.keep c o (fun h1 => ?_) (a.keep c o hc h)
    rcases a.new c h1 with z | z
    · exact hc z
    · rw [z] at h; cases h
  · by_cases hi : c ∈ ι
    · exact .inl hi
    · rcases b.new c hc with z | z
      · rcases a.new c z with y | y
        · exact .inl y
        · exact .inr y
      · refine .inr ?_
        cases q : H c with
        | none => rfl
        | some o => rw [a.keep c o hi q] at z; cases z

mutual
theorem RV.mono (hp : ∀ (n : Nat) (a : Addr), ι[n]? = some a → ι'[n]? = some a) (ht : ∀ a xs, SqT K H a xs → SqT K H' a xs) (hf : ∀ a xs, SqF K H a xs → SqF K H' a xs) : ∀ {w : W} {v : V}, RV K ι H w v → RV K ι' H' w v
  | _, _, .non => .non
  | _, _, .bl b => .bl b
  | _, _, .int i => .int i
  | _, _, .str z => .str z
  | _, _, .tup h r => .tup (ht _ _ h) (RVs.mono hp ht hf r)
  | _, _, .ref h => .ref (hp _ _ h)
  | _, _, .scr h => .scr (hf _ _ h)
theorem RVs.mono (hp : ∀ (n : Nat) (a : Addr), ι[n]? = some a → ι'[n]? = some a) (ht : ∀ a xs, SqT K H a xs → SqT K H' a xs) (hf : ∀ a xs, SqF K H a xs → SqF K H' a xs) : ∀ {ws : List W} {vs : List V}, RVs K ι H ws vs → RVs K ι' H' ws vs
  | _, _, .nil => .nil
  | _, _, .cons h t => .cons (RV.mono hp ht hf h) (RVs.mono hp ht hf t)
end
theorem RKs.mono (hp : ∀ (n : Nat) (a : Addr), ι[n]? = some a → ι'[n]? = some a) (ht : ∀ a xs, SqT K H a xs → SqT K H' a xs) (hf : ∀ a xs, SqF K H a xs → SqF K H' a xs) {ws : List (Key × W)} {vs : List (Key × V)} (h : RKs K ι H ws vs) : RKs K ι' H' ws vs := by
  induction h with
  | nil => exact .nil
  | cons h t ih => exact .cons (h.mono hp ht hf) ih
theorem RFs.mono (hp : ∀ (n : Nat) (a : Addr), ι[n]? = some a → ι'[n]? = some a) (ht : ∀ a xs, SqT K H a xs → SqT K H' a xs) (hf : ∀ a xs, SqF K H a xs → SqF K H' a xs) {ws : List (Nat × W)} {vs : List (Str × V)} (h : RFs K N ι H ws vs) : RFs K N ι' H' ws vs := by
  induction h with
  | nil => exact .nil
  | cons h t ih => exact .cons (h.mono hp ht hf) ih
theorem RC.noTup {c : Cell} {a : Addr} (r : RC K N ι H c a) (xs : List V) : ¬ Rd H a (.tup xs) := by
  intro z
  cases r with
  | lst h _ => rcases z with z | ⟨_, z⟩ <;> (rw [h] at z; cases z)
  | dic h _ => rcases z with z | ⟨_, z⟩ <;> (rw [h] at z; cases z)
  | lck h _ => rcases z with z | ⟨_, z⟩ <;> (rw [h] at z; cases z)
  | ins h _ _ => rcases z with z | ⟨_, z⟩ <;> (rw [h] at z; cases z)
theorem SR.at (S : SR K N ι H st) {n : Nat} {c : Cell} (h : st[n]? = some c) {a : Addr} (ha : ι[n]? = some a) : RC K N ι H c a := by
  obtain ⟨b, hb, r⟩ := S.cel n c h
  rw [ha] at hb
  cases hb
  exact r
theorem SR.mem (S : SR K N ι H st) {a : Addr} (ha : a ∈ ι) : ∃ (n : Nat) (c : Cell), ι[n]? = some a ∧ st[n]? = some c ∧ RC K N ι H c a := by
  obtain ⟨n, hn⟩ := List.mem_iff_getElem?.mp ha
  have hl : n < st.length := by
    rw [← S.len]
    exact (List.getElem?_eq_some_iff.mp hn).1
  exact ⟨n, st[n], hn, List.getElem?_eq_getElem hl, S.at (List.getElem?_eq_getElem hl) hn⟩
theorem SR.tups (S : SR K N ι H st) (E : Ext ι H ι' H') (a : Addr) (xs : List V) (h : SqT K H a xs) : SqT K H' a xs := by
  have no : ∀ z : Rd H a (.tup xs), a ∉ ι := fun z hm => by
    obtain ⟨n, c, _, _, r⟩ := S.mem hm
    exact r.noTup xs z
  rcases h with h | h
  · have hn := no h
    rcases h with h | ⟨o, h⟩
    · exact .inl (.inl (E.keep _ _ hn h))
    · exact .inl (.inr ⟨o, E.keep _ _ hn h⟩)
  · exact .inr h
theorem RC.noFrz {c : Cell} {a : Addr} (r : RC K N ι H c a) (o : Obj) (xs : List V) : H a ≠ some (.frz o (.lst xs)) := by
  intro z
  cases r with
  | lst h _ => rw [h] at z; cases z
  | dic h _ => rw [h] at z; cases z
  | lck h _ => rw [h] at z; cases z
  | ins h _ _ => rw [h] at z; cases z
theorem SR.frzs (S : SR K N ι H st) (E : Ext ι H ι' H') (a : Addr) (xs : List V) (h : SqF K H a xs) : SqF K H' a xs := by
  rcases h with ⟨o, h⟩ | h
  · refine .inl ⟨o, E.keep _ _ (fun hm => ?_) h⟩
    obtain ⟨n, c, _, _, r⟩ := S.mem hm
    exact r.noFrz o xs h
  · exact .inr h
theorem RV.ext (S : SR K N ι H st) (E : Ext ι H ι' H') {w : W} {v : V} (h : RV K ι H w v) : RV K ι' H' w v := h.mono E.pre (S.tups E) (S.frzs E)
theorem RVs.ext (S : SR K N ι H st) (E : Ext ι H ι' H') {w : List W} {v : List V} (h : RVs K ι H w v) : RVs K ι' H' w v := h.mono E.pre (S.tups E) (S.frzs E)
theorem RS.ext (S : SR K N ι H st) (E : Ext ι H ι' H') {ρ : Loc} {σ : L2.St} (h : RS K ι H ρ σ) : RS K ι' H' ρ σ :=
  ⟨h.1, fun i w e => let ⟨v, e', r⟩ := h.2 i w e; ⟨v, e', r.ext S E⟩⟩

theorem RVs.length {ws : List W} {vs : List V} (h : RVs K ι H ws vs) : ws.length = vs.length := by
  induction ws generalizing vs with
  | nil => cases h; rfl
  | cons w ws ih => cases h with | cons h t => simp [ih t]
theorem RVs.get {ws : List W} {vs : List V} (h : RVs K ι H ws vs) : ∀ {i : Nat} {w : W}, ws[i]? = some w → ∃ v, vs[i]? = some v ∧ RV K ι H w v := by
  induction ws generalizing vs with
  | nil => intro i w e; simp at e
  | cons u ws ih =>
    cases h with
    | cons h t =>
      intro i w e
      cases i with
      | zero => simp at e; subst e; exact ⟨_, rfl, h⟩
      | succ i => simp at e; obtain ⟨v, e', r⟩ := ih t e; exact ⟨v, by simpa using e', r⟩
theorem RVs.getN {ws : List W} {vs : List V} (h : RVs K ι H ws vs) {i : Nat} (e : ws[i]? = none) : vs[i]? = none := by
  rw [List.getElem?_eq_none_iff] at e ⊢
  rw [← h.length]
  exact e
theorem RVs.append {ws us : List W} {vs xs : List V} (h : RVs K ι H ws vs) (g : RVs K ι H us xs) : RVs K ι H (ws ++ us) (vs ++ xs) := by
  induction ws generalizing vs with
  | nil => cases h; exact g
  | cons w ws ih => cases h with | cons h t => exact .cons h (ih t)
theorem RVs.one {w : W} {v : V} (h : RV K ι H w v) : RVs K ι H [w] [v] := .cons h .nil
theorem RVs.take {ws : List W} {vs : List V} (h : RVs K ι H ws vs) : ∀ n, RVs K ι H (ws.take n) (vs.take n) := by
  induction ws generalizing vs with
  | nil => intro n; cases h; simp; exact .nil
  | cons w ws ih =>
    cases h with
    | cons h t =>
      intro n
      cases n with
      | zero => exact .nil
      | succ n => exact .cons h (ih t n)
theorem RVs.drop {ws : List W} {vs : List V} (h : RVs K ι H ws vs) : ∀ n, RVs K ι H (ws.drop n) (vs.drop n) := by
  induction ws generalizing vs with
  | nil => intro n; cases h; simp; exact .nil
  | cons w ws ih =>
    cases h with
    | cons h t =>
      intro n
      cases n with
      | zero => exact .cons h t
      | succ n => exact ih t n
theorem RVs.set {ws : List W} {vs : List V} (h : RVs K ι H ws vs) {w : W} {v : V} (r : RV K ι H w v) : ∀ n, RVs K ι H (ws.set n w) (vs.set n v) := by
  induction ws generalizing vs with
  | nil => intro n; cases h; exact .nil
  | cons w ws ih =>
    cases h with
    | cons h t =>
      intro n
      cases n with
      | zero => exact .cons r t
      | succ n => exact .cons h (ih t n)
theorem RVs.reverse {ws : List W} {vs : List V} (h : RVs K ι H ws vs) : RVs K ι H ws.reverse vs.reverse := by
  induction ws generalizing vs with
  | nil => cases h; exact .nil
  | cons w ws ih => cases h with | cons h t => simp only [List.reverse_cons]; exact (ih t).append (.one h)
theorem RVs.rep {ws : List W} {vs : List V} (h : RVs K ι H ws vs) (n : Nat) : RVs K ι H (List.replicate n ws).flatten (List.replicate n vs).flatten := by
  induction n with
  | zero => exact .nil
  | succ n ih => simp only [List.replicate_succ, List.flatten_cons]; exact h.append ih
theorem RVs.dropLast {ws : List W} {vs : List V} (h : RVs K ι H ws vs) : RVs K ι H ws.dropLast vs.dropLast := by
  rw [List.dropLast_eq_take, List.dropLast_eq_take, h.length]
  exact h.take _
theorem RVs.eraseIdx {ws : List W} {vs : List V} (h : RVs K ι H ws vs) (n : Nat) : RVs K ι H (ws.eraseIdx n) (vs.eraseIdx n) := by
  rw [List.eraseIdx_eq_take_drop_succ, List.eraseIdx_eq_take_drop_succ]
  exact (h.take _).append (h.drop _)
theorem RVs.cut {ws : List W} {vs : List V} (h : RVs K ι H ws vs) (lo hi : Option Int) : RVs K ι H (cutW ws lo hi) (cutV vs lo hi) := by
  unfold cutW cutV
  rw [h.length]
  exact (h.drop _).take _

theorem lstAt_eq {n : Nat} {ws : List W} (h : lstAt st n = some ws) : st[n]? = some (.lst ws) := by
  unfold lstAt at h
  split at h
  · rename_i e; cases h; exact e
  · cases h
theorem SR.lst (S : SR K N ι H st) {n : Nat} {ws : List W} (h : lstAt st n = some ws) {a : Addr} (ha : ι[n]? = some a) : ∃ vs, H a = some (.lst vs) ∧ RVs K ι H ws vs := by
  cases S.at (lstAt_eq h) ha with | lst h r => exact ⟨_, h, r⟩
theorem SR.lt (S : SR K N ι H st) {n : Nat} {c : Cell} (h : st[n]? = some c) : ∃ a, ι[n]? = some a := let ⟨a, h, _⟩ := S.cel n c h; ⟨a, h⟩

theorem SR.no (S : SR K N ι H st) {p : Addr} (hp : H p = none) : p ∉ ι := fun hm => by
  obtain ⟨n, c, _, _, r⟩ := S.mem hm
  cases r with
  | lst h _ => rw [hp] at h; cases h
  | dic h _ => rw [hp] at h; cases h
  | lck h _ => rw [hp] at h; cases h
  | ins h _ _ => rw [hp] at h; cases h
/-- the same cells in a heap that keeps them -/
theorem RC.keep {c : Cell} {a : Addr} (r : RC K N ι H c a) (hp : ∀ (n : Nat) (a : Addr), ι[n]? = some a → ι'[n]? = some a) (ht : ∀ a xs, SqT K H a xs → SqT K H' a xs) (hf : ∀ a xs, SqF K H a xs → SqF K H' a xs)
    (ha : ∀ o, H a = some o → H' a = some o) : RC K N ι' H' c a := by
  cases r with
  | lst h r => exact .lst (ha _ h) (r.mono hp ht hf)
  | dic h r => exact .dic (ha _ h) (r.mono hp ht hf)
  | lck h r => exact .lck (ha _ h) (r.mono hp ht hf)
  | ins h hc r => exact .ins (ha _ h) hc (r.mono hp ht hf)
/-- a new cell -/
theorem SR.push (S : SR K N ι H st) {p : Addr} (hp : H p = none) {H' : Hp} {c : Cell} (E : Ext ι H (ι ++ [p]) H') (hk : ∀ b o, b ∈ ι → H b = some o → H' b = some o)
    (hc : RC K N (ι ++ [p]) H' c p) : SR K N (ι ++ [p]) H' (st ++ [c]) := by
  refine ⟨by simp [S.len], ?_, fun n d h => ?_⟩
  · rw [List.nodup_append]
    refine ⟨S.nd, by simp, fun x hx y hy => ?_⟩
    simp at hy
    subst hy
    exact fun e => S.no hp (e ▸ hx)
  · by_cases hn : n < st.length
    · rw [List.getElem?_append_left hn] at h
      obtain ⟨a, ha, r⟩ := S.cel n d h
      have ham : a ∈ ι := List.mem_of_getElem? ha
      refine ⟨a, E.pre _ _ ha, r.keep E.pre (S.tups E) (S.frzs E) (fun o => hk a o ham)⟩
    · have e : n = st.length := by
        have := (List.getElem?_eq_some_iff.mp h).1
        simp at this; omega
      subst e
      simp at h
      subst h
      refine ⟨p, by rw [← S.len]; simp, hc⟩
/-- the plain case: one object is laid at p -/
theorem Ext.laid (S : SR K N ι H st) {p : Addr} {o : HO} (hp : H p = none) : Ext ι H (ι ++ [p]) (upd H p o) := by
  refine ⟨fun n a h => ?_, fun b u hb h => ?_, fun b hb => ?_⟩
  · rw [List.getElem?_append_left (List.getElem?_eq_some_iff.mp h).1]; exact h
  · rw [upd_ne (ne_of_none h hp)]; exact h
  · rw [List.mem_append] at hb
    rcases hb with z | z
    · exact .inl z
    · simp at z; subst z; exact .inr hp
theorem Ext.hid {p : Addr} {o : HO} (hp : H p = none) : Ext ι H ι (upd H p o) :=
  ⟨fun _ _ h => h, fun b u _ h => by rw [upd_ne (ne_of_none h hp)]; exact h, fun _ h => .inl h⟩
/-- a list, a dict .. laid at p -/
theorem SR.laid (S : SR K N ι H st) {p : Addr} {o : HO} {c : Cell} (hp : H p = none) (hc : RC K N (ι ++ [p]) (upd H p o) c p) : SR K N (ι ++ [p]) (upd H p o) (st ++ [c]) :=
  S.push hp (Ext.laid S hp) (fun b u _ h => by rw [upd_ne (ne_of_none h hp)]; exact h) hc
/-- something laid that is no cell -/
theorem SR.hid (S : SR K N ι H st) {p : Addr} {o : HO} (hp : H p = none) : SR K N ι (upd H p o) st :=
  ⟨S.len, S.nd, fun n c h => let ⟨a, ha, r⟩ := S.cel n c h; ⟨a, ha, r.keep (fun _ _ h => h) (S.tups (Ext.hid hp)) (S.frzs (Ext.hid hp)) fun u h => by rw [upd_ne (ne_of_none h hp)]; exact h⟩⟩
theorem Ext.wrote {a : Addr} {o : HO} (ha : a ∈ ι) : Ext ι H ι (upd H a o) :=
  ⟨fun _ _ h => h, fun b u hb h => by rw [upd_ne (show b ≠ a from fun e => hb (by rw [e]; exact ha))]; exact h, fun _ h => .inl h⟩
/-- a cell is written -/
theorem SR.wrote (S : SR K N ι H st) {n : Nat} {a : Addr} {o : HO} {c : Cell} (ha : ι[n]? = some a) (hc : RC K N ι (upd H a o) c a) : SR K N ι (upd H a o) (st.set n c) := by
  have ham : a ∈ ι := List.mem_of_getElem? ha
  refine ⟨by simp [S.len], S.nd, fun m d h => ?_⟩
  by_cases hm : m = n
  · subst hm
    have hl : m < st.length := by
      have := (List.getElem?_eq_some_iff.mp h).1
      simpa using this
    rw [List.getElem?_set_self hl] at h
    cases h
    exact ⟨a, ha, hc⟩
  · rw [List.getElem?_set_ne (Ne.symm hm)] at h
    obtain ⟨b, hb, r⟩ := S.cel m d h
    have hne : b ≠ a := fun e => by
      subst e
      obtain ⟨h1, e1⟩ := List.getElem?_eq_some_iff.mp hb
      obtain ⟨h2, e2⟩ := List.getElem?_eq_some_iff.mp ha
      exact hm ((List.getElem_inj S.nd).mp (e1.trans e2.symm))
    exact ⟨b, hb, r.keep (fun _ _ h => h) (S.tups (Ext.wrote ham)) (S.frzs (Ext.wrote ham)) fun u h => by rw [upd_ne hne]; exact h⟩
theorem RV.up (S : SR K N ι H st) {p : Addr} {o : HO} (hp : H p = none) {w : W} {v : V} (h : RV K ι H w v) : RV K ι (upd H p o) w v := h.ext S (Ext.hid hp)
theorem RVs.up (S : SR K N ι H st) {p : Addr} {o : HO} (hp : H p = none) {w : List W} {v : List V} (h : RVs K ι H w v) : RVs K ι (upd H p o) w v := h.ext S (Ext.hid hp)
theorem RVs.upl (S : SR K N ι H st) {p : Addr} {o : HO} (hp : H p = none) {w : List W} {v : List V} (h : RVs K ι H w v) : RVs K (ι ++ [p]) (upd H p o) w v := h.ext S (Ext.laid S hp)

/-! ### what is wanted behind a step -/
def Go (K : PySem.W.Frag) (N : Nm) (ι : List Addr) (H : Hp) (st' : Store) (Φ : List Addr → Hp → Prop) : Prop := ∀ ι' H', SR K N ι' H' st' → Ext ι H ι' H' → Φ ι' H'
/-- an exception's dict -/
def RX (K : PySem.W.Frag) (N : Nm) (ι : List Addr) (H : Hp) : List (Nat × W) → Option Addr → Prop
  | [], d => d = none
  | fs, d => ∃ dd vs, d = some dd ∧ H dd = some (.xd vs) ∧ RFs K N ι H fs vs
def resP {α : Type} (K : PySem.W.Frag) (N : Nm) (ι : List Addr) (H : Hp) (X : XK) (r : R α) (P : α → List Addr → Hp → Prop) : Prop := match r with
  | .ok a st' => Go K N ι H st' (P a)
  | .exc c fs st' => Go K N ι H st' fun ι' H' => ∀ C d, N.xA c = some C → RX K N ι' H' fs d → X (.ref C) d H'
  | .bad => False
theorem Go.step {Φ : List Addr → Hp → Prop} (h : Go K N ι H st Φ) (E : Ext ι H ι1 H1) : Go K N ι1 H1 st Φ := fun ι' H' S E' => h ι' H' S (E.trans E')
theorem resP.step {α : Type} {X : XK} {r : R α} {P : α → List Addr → Hp → Prop} (h : resP K N ι H X r P) (E : Ext ι H ι1 H1) : resP K N ι1 H1 X r P := by
  cases r with
  | ok a st' => exact Go.step h E
  | exc c fs st' => exact Go.step (K := K) (N := N) (ι := ι) (H := H) (st := st') h E
  | bad => exact h
theorem resP.ok {α : Type} {X : XK} {a : α} {P : α → List Addr → Hp → Prop} (h : resP K N ι H X (.ok a st) P) (S : SR K N ι H st) : P a ι H := h ι H S .refl
end
end Mx

/-! The readings of code. -/
namespace Mx
open PySem PySem.Spec PyProof.Rows L2

section
variable (K : PySem.W.Frag) (N : Nm) (X : WX)
def rdE (ev : Loc → Store → R W) : TE := fun σ H Q => ∃ ι st ρ, SR K N ι H st ∧ RS K ι H ρ σ ∧ resP K N ι H (fun c d H' => X c d σ H') (ev ρ st) fun w ι' H' => ∀ v, RV K ι' H' w v → Q v H'
def rdT (ev : Loc → Store → R Bool) : TT := fun σ H Q => ∃ ι st ρ, SR K N ι H st ∧ RS K ι H ρ σ ∧ resP K N ι H (fun c d H' => X c d σ H') (ev ρ st) fun b _ H' => Q b H'
def rdA (ev : Loc → Store → R (List W)) : TA := fun σ H Q => ∃ ι st ρ, SR K N ι H st ∧ RS K ι H ρ σ ∧ resP K N ι H (fun c d H' => X c d σ H') (ev ρ st) fun ws ι' H' => ∀ vs, RVs K ι' H' ws vs → Q vs H'
def rdO (ev : Loc → Store → R (Option Int)) : TO := fun σ H Q => ∃ ι st ρ, SR K N ι H st ∧ RS K ι H ρ σ ∧ resP K N ι H (fun c d H' => X c d σ H') (ev ρ st) fun o _ H' => Q o H'
inductive IR (ι : List Addr) (H : Hp) : Iter → It → Prop where
  | lst {n l : Nat} {a : Addr} (h : ι[n]? = some a) : IR ι H (.lst n l) (Itl K a)
  | tup {ws : List W} {vs : List V} {a : Addr} (h : SqT K H a vs) (r : RVs K ι H ws vs) : IR ι H (.tup ws) (Itt K a)
  | rng {lo : Int} {n : Nat} : IR ι H (.rng lo n) (Itr lo n)
  | rngC {lo c : Int} {n : Nat} : IR ι H (.rngC lo c n) (Itc lo c n)
  | str {z : Str} : IR ι H (.str z) (Its z)
  | enum {n l : Nat} {a : Addr} (h : ι[n]? = some a) : IR ι H (.enum n l) (Ite K a)
  | zip {n m l : Nat} {a b : Addr} (h : ι[n]? = some a) (h2 : ι[m]? = some b) : IR ι H (.zip n m l) (Itz K a b)
  | zipT {ws us : List W} {vs xs : List V} {a b : Addr} (h : SqT K H a vs) (r : RVs K ι H ws vs) (h2 : SqT K H b xs) (r2 : RVs K ι H us xs) : IR ι H (.zipT ws us) (RZ.ItzT K a b)
  | rev {n l : Nat} {a : Addr} (h : ι[n]? = some a) : IR ι H (.rev n l) (Itv K a l)
def rdI (ev : Loc → Store → R Iter) : TI := fun σ H Q => ∃ ι st ρ, SR K N ι H st ∧ RS K ι H ρ σ ∧ resP K N ι H (fun c d H' => X c d σ H') (ev ρ st) fun it ι' H' => ∀ J, IR K ι' H' it J → Q J H'
def rdG (sl : List Nat) (ev : W → Loc → Store → R Loc) : TG := fun v σ H Q => ∃ ι st ρ w, SR K N ι H st ∧ RS K ι H ρ σ ∧ RV K ι H w v ∧ resP K N ι H (fun c d H' => X c d σ H') (ev w ρ st) fun ρ' ι' H' =>
  ∀ σ', σ'.length = σ.length → (∀ j, j ∉ sl → σ'[j]? = σ[j]?) → RS K ι' H' ρ' σ' → Q σ' H'
def rdGs (sl : List Nat) (ev : List W → Loc → Store → R Loc) : TGs := fun vs σ H Q => ∃ ι st ρ ws, SR K N ι H st ∧ RS K ι H ρ σ ∧ RVs K ι H ws vs ∧ resP K N ι H (fun c d H' => X c d σ H') (ev ws ρ st) fun ρ' ι' H' =>
  ∀ σ', σ'.length = σ.length → (∀ j, j ∉ sl → σ'[j]? = σ[j]?) → RS K ι' H' ρ' σ' → Q σ' H'
def outP (ι : List Addr) (H : Hp) (D : Ends) (x : Out) : Prop := match x with
  | .nx ρ st => Go K N ι H st fun ι' H' => ∀ σ', RS K ι' H' ρ σ' → D.nx σ' H'
  | .rt w st => Go K N ι H st fun ι' H' => ∀ v, RV K ι' H' w v → D.rt v H'
  | .bk ρ st => Go K N ι H st fun ι' H' => ∀ σ', RS K ι' H' ρ σ' → D.bk σ' H'
  | .ct ρ st => Go K N ι H st fun ι' H' => ∀ σ', RS K ι' H' ρ σ' → D.ct σ' H'
  | .exc c fs ρ st => Go K N ι H st fun ι' H' => ∀ C d σ', RS K ι' H' ρ σ' → N.xA c = some C → RX K N ι' H' fs d → X (.ref C) d σ' H'
  | .bad => False
def rdS (ev : Loc → Store → Out) : TS := fun D σ H => ∃ ι st ρ, SR K N ι H st ∧ RS K ι H ρ σ ∧ outP K N X ι H D (ev ρ st)
/-- a def's promise -/
def spF (n : Nat) (run : List W → Store → R W) : Sp := fun vs H Q E => vs.length = n ∧ ∃ ι st ws, SR K N ι H st ∧ RVs K ι H ws vs ∧ resP K N ι H E (run ws st) fun w ι' H' => ∀ v, RV K ι' H' w v → Q v H'
end

section
variable {K : PySem.W.Frag} {N : Nm} {X : WX} {ι ι' ι1 ι2 : List Addr} {H H' H1 H2 : Hp} {st : Store} {ρ : Loc} {σ : L2.St}

theorem outP.step {D : Ends} {x : Out} (h : outP K N X ι H D x) (E : Ext ι H ι1 H1) : outP K N X ι1 H1 D x := by
  cases x with
  | nx ρ st => exact Go.step (K := K) (N := N) (st := st) h E
  | rt ρ st => exact Go.step (K := K) (N := N) (st := st) h E
  | bk ρ st => exact Go.step (K := K) (N := N) (st := st) h E
  | ct ρ st => exact Go.step (K := K) (N := N) (st := st) h E
  | exc c fs ρ st => exact Go.step (K := K) (N := N) (st := st) h E
  | bad => exact h

theorem resP.imp {α : Type} {E : XK} {r : R α} {P P' : α → List Addr → Hp → Prop} (h : resP K N ι H E r P) (g : ∀ a ι' H', P a ι' H' → P' a ι' H') : resP K N ι H E r P' := by
  cases r with
  | ok a st' => exact fun ι' H' S' E' => g _ _ _ (h ι' H' S' E')
  | exc c fs st' => exact h
  | bad => exact h
/-- first one thing, then the rest -/
theorem resP.bind {α β : Type} {E : XK} {x : R α} {f : α → Store → R β} {P : β → List Addr → Hp → Prop} (h : resP K N ι H E (x.bind f) P) :
    resP K N ι H E x fun a ι1 H1 => ∀ st1, (∃ st0, x = .ok a st0 ∧ st0 = st1) → resP K N ι1 H1 E (f a st1) P := by
  cases x with
  | ok a st0 =>
    intro ι1 H1 S1 E1 st1 e
    obtain ⟨st0', e1, e2⟩ := e
    cases e1
    subst e2
    exact resP.step h E1
  | exc c fs st0 => exact h
  | bad => exact h
/-- the same with the store at hand -/
theorem resP.bindS {α β : Type} {E : XK} {x : R α} {f : α → Store → R β} {P : β → List Addr → Hp → Prop} (h : resP K N ι H E (x.bind f) P) :
    resP K N ι H E x fun a ι1 H1 => ∃ st1, SR K N ι1 H1 st1 ∧ Ext ι H ι1 H1 ∧ resP K N ι1 H1 E (f a st1) P := by
  cases x with
  | ok a st0 => exact fun ι1 H1 S1 E1 => ⟨st0, S1, E1, resP.step h E1⟩
  | exc c fs st0 => exact h
  | bad => exact h

/-- an expression, then the rest; pending values are carried -/
theorem rdE_then {β : Type} {ev : Loc → Store → R W} {f : W → Store → R β} {P : β → List Addr → Hp → Prop} {ws : List W} {vs : List V} (S : SR K N ι H st) (r : RS K ι H ρ σ) (p : RVs K ι H ws vs)
    (h : resP K N ι H (fun c d H' => X c d σ H') ((ev ρ st).bind f) P) :
    rdE K N X ev σ H fun v H1 => ∃ ι1 st1 w, SR K N ι1 H1 st1 ∧ RS K ι1 H1 ρ σ ∧ RVs K ι1 H1 (w :: ws) (v :: vs) ∧ Ext ι H ι1 H1 ∧ resP K N ι1 H1 (fun c d H' => X c d σ H') (f w st1) P :=
  ⟨ι, st, ρ, S, r, h.bindS.imp fun _ _ _ ⟨st1, S1, E1, q⟩ _ rv => ⟨_, st1, _, S1, r.ext S E1, .cons rv (p.ext S E1), E1, q⟩⟩
theorem rdT_then {β : Type} {ev : Loc → Store → R Bool} {f : Bool → Store → R β} {P : β → List Addr → Hp → Prop} {ws : List W} {vs : List V} (S : SR K N ι H st) (r : RS K ι H ρ σ) (p : RVs K ι H ws vs)
    (h : resP K N ι H (fun c d H' => X c d σ H') ((ev ρ st).bind f) P) :
    rdT K N X ev σ H fun b H1 => ∃ ι1 st1, SR K N ι1 H1 st1 ∧ RS K ι1 H1 ρ σ ∧ RVs K ι1 H1 ws vs ∧ Ext ι H ι1 H1 ∧ resP K N ι1 H1 (fun c d H' => X c d σ H') (f b st1) P :=
  ⟨ι, st, ρ, S, r, h.bindS.imp fun _ _ _ ⟨st1, S1, E1, q⟩ => ⟨_, st1, S1, r.ext S E1, p.ext S E1, E1, q⟩⟩
theorem rdA_then {β : Type} {ev : Loc → Store → R (List W)} {f : List W → Store → R β} {P : β → List Addr → Hp → Prop} {ws : List W} {vs : List V} (S : SR K N ι H st) (r : RS K ι H ρ σ) (p : RVs K ι H ws vs)
    (h : resP K N ι H (fun c d H' => X c d σ H') ((ev ρ st).bind f) P) :
    rdA K N X ev σ H fun xs H1 => ∃ ι1 st1 us, SR K N ι1 H1 st1 ∧ RS K ι1 H1 ρ σ ∧ RVs K ι1 H1 us xs ∧ RVs K ι1 H1 ws vs ∧ Ext ι H ι1 H1 ∧ resP K N ι1 H1 (fun c d H' => X c d σ H') (f us st1) P :=
  ⟨ι, st, ρ, S, r, h.bindS.imp fun _ _ _ ⟨st1, S1, E1, q⟩ _ rv => ⟨_, st1, _, S1, r.ext S E1, rv, p.ext S E1, E1, q⟩⟩
theorem rdO_then {β : Type} {ev : Loc → Store → R (Option Int)} {f : Option Int → Store → R β} {P : β → List Addr → Hp → Prop} {ws : List W} {vs : List V} (S : SR K N ι H st) (r : RS K ι H ρ σ) (p : RVs K ι H ws vs)
    (h : resP K N ι H (fun c d H' => X c d σ H') ((ev ρ st).bind f) P) :
    rdO K N X ev σ H fun b H1 => ∃ ι1 st1, SR K N ι1 H1 st1 ∧ RS K ι1 H1 ρ σ ∧ RVs K ι1 H1 ws vs ∧ Ext ι H ι1 H1 ∧ resP K N ι1 H1 (fun c d H' => X c d σ H') (f b st1) P :=
  ⟨ι, st, ρ, S, r, h.bindS.imp fun _ _ _ ⟨st1, S1, E1, q⟩ => ⟨_, st1, S1, r.ext S E1, p.ext S E1, E1, q⟩⟩
/-- the same at a statement -/
theorem outP.bindS {α : Type} {x : R α} {f : α → Store → Out} {D : Ends} (r : RS K ι H ρ σ) (S : SR K N ι H st) (h : outP K N X ι H D (x.out ρ f)) :
    resP K N ι H (fun c d H' => X c d σ H') x fun a ι1 H1 => ∃ st1, SR K N ι1 H1 st1 ∧ Ext ι H ι1 H1 ∧ outP K N X ι1 H1 D (f a st1) := by
  cases x with
  | ok a st0 => exact fun ι1 H1 S1 E1 => ⟨st0, S1, E1, outP.step h E1⟩
  | exc c fs st0 => exact fun ι1 H1 S1 E1 C d hc hx => h ι1 H1 S1 E1 C d σ (r.ext S E1) hc hx
  | bad => exact h
theorem rdE_out {ev : Loc → Store → R W} {f : W → Store → Out} {D : Ends} {ws : List W} {vs : List V} (S : SR K N ι H st) (r : RS K ι H ρ σ) (p : RVs K ι H ws vs)
    (h : outP K N X ι H D ((ev ρ st).out ρ f)) :
    rdE K N X ev σ H fun v H1 => ∃ ι1 st1 w, SR K N ι1 H1 st1 ∧ RS K ι1 H1 ρ σ ∧ RVs K ι1 H1 (w :: ws) (v :: vs) ∧ outP K N X ι1 H1 D (f w st1) :=
  ⟨ι, st, ρ, S, r, (outP.bindS r S h).imp fun _ _ _ ⟨st1, S1, E1, q⟩ _ rv => ⟨_, st1, _, S1, r.ext S E1, .cons rv (p.ext S E1), q⟩⟩
theorem rdT_out {ev : Loc → Store → R Bool} {f : Bool → Store → Out} {D : Ends} (S : SR K N ι H st) (r : RS K ι H ρ σ)
    (h : outP K N X ι H D ((ev ρ st).out ρ f)) :
    rdT K N X ev σ H fun b H1 => ∃ ι1 st1, SR K N ι1 H1 st1 ∧ RS K ι1 H1 ρ σ ∧ Ext ι H ι1 H1 ∧ outP K N X ι1 H1 D (f b st1) :=
  ⟨ι, st, ρ, S, r, (outP.bindS r S h).imp fun _ _ _ ⟨st1, S1, E1, q⟩ => ⟨_, st1, S1, r.ext S E1, E1, q⟩⟩
theorem rdI_out {ev : Loc → Store → R Iter} {f : Iter → Store → Out} {D : Ends} (S : SR K N ι H st) (r : RS K ι H ρ σ)
    (h : outP K N X ι H D ((ev ρ st).out ρ f)) :
    rdI K N X ev σ H fun J H1 => ∃ ι1 st1 it, SR K N ι1 H1 st1 ∧ RS K ι1 H1 ρ σ ∧ IR K ι1 H1 it J ∧ Ext ι H ι1 H1 ∧ outP K N X ι1 H1 D (f it st1) :=
  ⟨ι, st, ρ, S, r, (outP.bindS r S h).imp fun _ _ _ ⟨st1, S1, E1, q⟩ _ rv => ⟨_, st1, _, S1, r.ext S E1, rv, E1, q⟩⟩
theorem rdG_out {sl : List Nat} {ev : W → Loc → Store → R Loc} {f : Loc → Store → Out} {D : Ends} {w : W} {v : V} (S : SR K N ι H st) (r : RS K ι H ρ σ) (p : RV K ι H w v)
    (h : outP K N X ι H D ((ev w ρ st).out ρ f)) :
    rdG K N X sl ev v σ H fun σ1 H1 => ∃ ι1 st1 ρ1, SR K N ι1 H1 st1 ∧ RS K ι1 H1 ρ1 σ1 ∧ Ext ι H ι1 H1 ∧ outP K N X ι1 H1 D (f ρ1 st1) :=
  ⟨ι, st, ρ, w, S, r, p, (outP.bindS r S h).imp fun _ _ _ ⟨st1, S1, E1, q⟩ _ _ _ rv => ⟨_, st1, _, S1, rv, E1, q⟩⟩

theorem IR.ext (S : SR K N ι H st) (E : Ext ι H ι' H') {it : Iter} {J : It} (h : IR K ι H it J) : IR K ι' H' it J := by
  cases h with
  | lst h => exact .lst (E.pre _ _ h)
  | tup h r => exact .tup (S.tups E _ _ h) (r.ext S E)
  | rng => exact .rng
  | rngC => exact .rngC
  | str => exact .str
  | enum h => exact .enum (E.pre _ _ h)
  | zip h h2 => exact .zip (E.pre _ _ h) (E.pre _ _ h2)
  | zipT h r h2 r2 => exact .zipT (S.tups E _ _ h) (r.ext S E) (S.tups E _ _ h2) (r2.ext S E)
  | rev h => exact .rev (E.pre _ _ h)

theorem SqL.injH {a : Addr} {xs ys : List V} (h : H a = some (.lst xs)) (g : SqL K H a ys) (hk : K.lookup a = none) : ys = xs := by
  rcases g with (g | ⟨o, g⟩) | ⟨o, _, _, g, _⟩
  · rw [h] at g; cases g; rfl
  · rw [h] at g; cases g
  · rw [hk] at g; cases g
theorem some_lst {n : Nat} {i : Nat} {w : W} (S : SR K N ι H st) (h : (lstAt st n).map (fun ws => ws[i]?) = some (some w)) {a : Addr} (ha : ι[n]? = some a) :
    ∃ vs v, H a = some (.lst vs) ∧ vs[i]? = some v ∧ RV K ι H w v := by
  cases e : lstAt st n with
  | none => rw [e] at h; cases h
  | some ws =>
    rw [e] at h
    have h' : ws[i]? = some w := Option.some.inj h
    obtain ⟨vs, hv, r⟩ := S.lst e ha
    obtain ⟨v, h2, rv⟩ := r.get h'
    exact ⟨vs, v, hv, h2, rv⟩
theorem none_lst {n : Nat} {i : Nat} (S : SR K N ι H st) (h : (lstAt st n).map (fun ws => ws[i]?) = some none) {a : Addr} (ha : ι[n]? = some a) :
    ∃ vs, H a = some (.lst vs) ∧ vs.length ≤ i := by
  cases e : lstAt st n with
  | none => rw [e] at h; cases h
  | some ws =>
    rw [e] at h
    have h' : ws[i]? = none := Option.some.inj h
    obtain ⟨vs, hv, r⟩ := S.lst e ha
    exact ⟨vs, hv, List.getElem?_eq_none_iff.mp (r.getN h')⟩

/-- a turn's item -/
theorem IR.item {it : Iter} {J : It} {i : Nat} {w : W} (S : SR K N ι H st) (h : IR K ι H it J) (g : it.get st i = some (some w)) :
    J.go i H ∧ ∀ x H', J.yld i H x H' → SR K N ι H' st ∧ Ext ι H ι H' ∧ RV K ι H' w x := by
  cases h with
  | lst h =>
    obtain ⟨vs, v, hv, e, rv⟩ := some_lst S g h
    refine ⟨⟨vs, v, .of hv, e⟩, fun x H' y => ?_⟩
    obtain ⟨rfl, y⟩ := y
    have := y vs (.of hv)
    rw [e] at this
    cases this
    exact ⟨S, .refl, rv⟩
  | tup h r =>
    have g' := Option.some.inj g
    obtain ⟨v, e, rv⟩ := r.get g'
    refine ⟨⟨_, v, h, e⟩, fun x H' y => ?_⟩
    obtain ⟨rfl, y⟩ := y
    have := y _ h
    rw [e] at this
    cases this
    exact ⟨S, .refl, rv⟩
  | @rng lo n =>
    have g' : (if i < n then some (W.int (lo + i)) else none) = some w := Option.some.inj g
    by_cases hi : i < n
    · rw [if_pos hi] at g'
      cases g'
      refine ⟨hi, fun x H' y => ?_⟩
      obtain ⟨rfl, rfl⟩ := y
      exact ⟨S, .refl, .int _⟩
    · rw [if_neg hi] at g'; cases g'
  | @rngC lo c n =>
    have g' : (if i < n then some (W.int (lo + (i : Nat) * c)) else none) = some w := Option.some.inj g
    by_cases hi : i < n
    · rw [if_pos hi] at g'
      cases g'
      refine ⟨hi, fun x H' y => ?_⟩
      obtain ⟨rfl, rfl⟩ := y
      exact ⟨S, .refl, .int _⟩
    · rw [if_neg hi] at g'; cases g'
  | @str z =>
    have g' : z.cps[i]?.map (fun c => W.str ⟨#[c]⟩) = some w := Option.some.inj g
    cases e : z.cps[i]? with
    | none => rw [e] at g'; cases g'
    | some c =>
      rw [e] at g'
      cases g'
      refine ⟨(Array.getElem?_eq_some_iff.mp e).1, fun x H' y => ?_⟩
      obtain ⟨rfl, c', e', rfl⟩ := y
      rw [e] at e'
      cases e'
      exact ⟨S, .refl, .str _⟩
  | @enum n l a h =>
    have g2 : (lstAt st n).map (fun ws => ws[i]?.map fun w => W.tup [.int (i : Nat), w]) = some (some w) := g
    cases e : lstAt st n with
    | none => rw [e] at g2; cases g2
    | some ws =>
      rw [e] at g2
      have g3 : ws[i]?.map (fun w => W.tup [.int (i : Nat), w]) = some w := Option.some.inj g2
      cases e2 : ws[i]? with
      | none => rw [e2] at g3; cases g3
      | some u =>
        rw [e2] at g3
        cases g3
        obtain ⟨vs, hv, r⟩ := S.lst e h
        obtain ⟨v, e3, rv⟩ := r.get e2
        refine ⟨⟨vs, v, .of hv, e3⟩, fun x H' y => ?_⟩
        obtain ⟨T, z, rfl, hT, rfl, y⟩ := y
        have := y vs (.of hv)
        rw [e3] at this
        cases this
        exact ⟨S.hid hT, Ext.hid hT, .tup (.of upd_same) (.cons (.int _) (.one (rv.up S hT)))⟩
  | @zip n m l a b h h2 =>
    simp only [Iter.get] at g
    cases e : lstAt st n with
    | none => rw [e] at g; cases g
    | some ws =>
      cases e' : lstAt st m with
      | none => rw [e, e'] at g; cases g
      | some us =>
        rw [e, e'] at g
        simp only [Option.some.injEq] at g
        cases e2 : ws[i]? with
        | none => rw [e2] at g; cases g
        | some u =>
          cases e3 : us[i]? with
          | none => rw [e2, e3] at g; cases g
          | some t =>
            rw [e2, e3] at g
            cases g
            obtain ⟨vs, hv, r⟩ := S.lst e h
            obtain ⟨xs, hx, r'⟩ := S.lst e' h2
            obtain ⟨v, f1, rv⟩ := r.get e2
            obtain ⟨x, f2, rx⟩ := r'.get e3
            refine ⟨⟨vs, xs, v, x, .of hv, .of hx, f1, f2⟩, fun z H' y => ?_⟩
            obtain ⟨T, z1, z2, rfl, hT, rfl, y1, y2⟩ := y
            have q1 := y1 vs (.of hv)
            have q2 := y2 xs (.of hx)
            rw [f1] at q1
            rw [f2] at q2
            cases q1
            cases q2
            exact ⟨S.hid hT, Ext.hid hT, .tup (.of upd_same) (.cons (rv.up S hT) (.one (rx.up S hT)))⟩
  | @zipT ws us vs xs a b h r h2 r2 =>
    simp only [Iter.get, Option.some.injEq] at g
    cases e2 : ws[i]? with
    | none => rw [e2] at g; cases g
    | some u =>
      cases e3 : us[i]? with
      | none => rw [e2, e3] at g; cases g
      | some t =>
        rw [e2, e3] at g
        cases g
        obtain ⟨v, f1, rv⟩ := r.get e2
        obtain ⟨x, f2, rx⟩ := r2.get e3
        refine ⟨⟨vs, xs, v, x, h, h2, f1, f2⟩, fun z H' y => ?_⟩
        obtain ⟨T, z1, z2, rfl, hT, rfl, y1, y2⟩ := y
        have q1 := y1 vs h
        have q2 := y2 xs h2
        rw [f1] at q1
        rw [f2] at q2
        cases q1
        cases q2
        exact ⟨S.hid hT, Ext.hid hT, .tup (.of upd_same) (.cons (rv.up S hT) (.one (rx.up S hT)))⟩
  | @rev n l a h =>
    simp only [Iter.get] at g
    by_cases hi : i < l
    · rw [if_pos hi] at g
      cases e : lstAt st n with
      | none => rw [e] at g; cases g
      | some ws =>
        rw [e] at g
        simp only at g
        cases e2 : ws[l - 1 - i]? with
        | none => rw [e2] at g; cases g
        | some u =>
          rw [e2] at g
          cases g
          obtain ⟨vs, hv, r⟩ := S.lst e h
          obtain ⟨v, e3, rv⟩ := r.get e2
          refine ⟨⟨hi, vs, v, .of hv, e3⟩, fun x H' y => ?_⟩
          obtain ⟨rfl, y⟩ := y
          have := y vs (.of hv)
          rw [e3] at this
          cases this
          exact ⟨S, .refl, rv⟩
    · rw [if_neg hi] at g; cases g
/-- the end -/
theorem IR.stop {it : Iter} {J : It} {i : Nat} (S : SR K N ι H st) (h : IR K ι H it J) (g : it.get st i = some none) : J.stop i H := by
  cases h with
  | lst h =>
    obtain ⟨vs, hv, l⟩ := none_lst S g h
    exact ⟨vs, .of hv, l⟩
  | tup h r => exact ⟨_, h, List.getElem?_eq_none_iff.mp (r.getN (Option.some.inj g))⟩
  | @rng lo n =>
    have g' : (if i < n then some (W.int (lo + i)) else none) = none := Option.some.inj g
    by_cases hi : i < n
    · rw [if_pos hi] at g'; cases g'
    · exact Nat.le_of_not_lt hi
  | @rngC lo c n =>
    have g' : (if i < n then some (W.int (lo + (i : Nat) * c)) else none) = none := Option.some.inj g
    by_cases hi : i < n
    · rw [if_pos hi] at g'; cases g'
    · exact Nat.le_of_not_lt hi
  | @str z =>
    have g' : z.cps[i]?.map (fun c => W.str ⟨#[c]⟩) = none := Option.some.inj g
    cases e : z.cps[i]? with
    | none => exact Array.getElem?_eq_none_iff.mp e
    | some c => rw [e] at g'; cases g'
  | @enum n l a h =>
    have g2 : (lstAt st n).map (fun ws => ws[i]?.map fun w => W.tup [.int (i : Nat), w]) = some none := g
    cases e : lstAt st n with
    | none => rw [e] at g2; cases g2
    | some ws =>
      rw [e] at g2
      have g3 : ws[i]?.map (fun w => W.tup [.int (i : Nat), w]) = none := Option.some.inj g2
      cases e2 : ws[i]? with
      | some u => rw [e2] at g3; cases g3
      | none =>
        obtain ⟨vs, hv, r⟩ := S.lst e h
        exact ⟨vs, .of hv, List.getElem?_eq_none_iff.mp (r.getN e2)⟩
  | @zip n m l a b h h2 =>
    simp only [Iter.get] at g
    cases e : lstAt st n with
    | none => rw [e] at g; cases g
    | some ws =>
      cases e' : lstAt st m with
      | none => rw [e, e'] at g; cases g
      | some us =>
        rw [e, e'] at g
        simp only [Option.some.injEq] at g
        obtain ⟨vs, hv, r⟩ := S.lst e h
        obtain ⟨xs, hx, r'⟩ := S.lst e' h2
        refine ⟨vs, xs, .of hv, .of hx, ?_⟩
        cases e2 : ws[i]? with
        | none => exact .inl (List.getElem?_eq_none_iff.mp (r.getN e2))
        | some u =>
          cases e3 : us[i]? with
          | none => exact .inr (List.getElem?_eq_none_iff.mp (r'.getN e3))
          | some t => rw [e2, e3] at g; cases g
  | @zipT ws us vs xs a b h r h2 r2 =>
    simp only [Iter.get, Option.some.injEq] at g
    refine ⟨vs, xs, h, h2, ?_⟩
    cases e2 : ws[i]? with
    | none => exact .inl (List.getElem?_eq_none_iff.mp (r.getN e2))
    | some u =>
      cases e3 : us[i]? with
      | none => exact .inr (List.getElem?_eq_none_iff.mp (r2.getN e3))
      | some t => rw [e2, e3] at g; cases g
  | @rev n l a h =>
    simp only [Iter.get] at g
    by_cases hi : i < l
    · rw [if_pos hi] at g
      cases e : lstAt st n with
      | none => rw [e] at g; cases g
      | some ws =>
        rw [e] at g
        simp only at g
        cases e2 : ws[l - 1 - i]? with
        | none => rw [e2] at g; cases g
        | some u => rw [e2] at g; cases g
    · exact Nat.le_of_not_lt hi
end
end Mx

/-! The machine's operations are the layer's. -/
namespace Mx
open PySem PySem.Spec PyProof.Rows L2

section
variable {X : Cx} {N : Nm} {ι ι' : List Addr} {H H' : Hp} {st : Store} {E : XK} {Q : VK}

abbrev PQ (K : PySem.W.Frag) (Q : VK) : W → List Addr → Hp → Prop := fun w ι' H' => ∀ v, RV K ι' H' w v → Q v H'

/-- a new list -/
theorem newLst_ok {K : PySem.W.Frag} {ws : List W} {vs : List V} (S : SR K N ι H st) (r : RVs K ι H ws vs) (h : resP K N ι H E (newLst ws st) (PQ K Q)) : vs.length ≤ sizeLine ∧ ∀ p, H p = none → Q (.ref p) (upd H p (.lst vs)) := by
  unfold newLst at h
  by_cases hz : ws.length ≤ sizeLine
  · rw [if_pos hz] at h
    refine ⟨by rw [← r.length]; exact hz, fun p hp => ?_⟩
    refine h (ι ++ [p]) _ (S.laid hp (.lst upd_same (r.upl S hp))) (Ext.laid S hp) _ (.ref ?_)
    rw [← S.len]
    simp
  · rw [if_neg hz] at h; exact h.elim
theorem tup_ok {K : PySem.W.Frag} {ws : List W} {vs : List V} (S : SR K N ι H st) (r : RVs K ι H ws vs) (h : resP K N ι H E (.ok (.tup ws) st) (PQ K Q)) : ∀ p, H p = none → Q (.ref p) (upd H p (.tup vs)) :=
  fun p hp => h ι _ (S.hid hp) (Ext.hid hp) _ (.tup (.of upd_same) (r.up S hp))
theorem val_ok {K : PySem.W.Frag} {w : W} {v : V} (S : SR K N ι H st) (r : RV K ι H w v) (h : resP K N ι H E (.ok w st) (PQ K Q)) : Q v H := h ι H S .refl v r

/-- // by any divisor but 0 below 2 ^ 9000 -/
def CDivG (_ j : Int) : Prop := j ≠ 0 ∧ j.natAbs.log2 < 9000
theorem op_fdivG : OpR X (binaryOp .FloorDiv) (rI CDivG fun i j => .int (i.fdiv j)) := opI fun i j _ _ _ _ _ hc q => floordiv_int hc.1 q (.inl (PyProof.noPylong_of_log2 hc.2))

theorem opBin_ok {op : Operator} {a b : W} {x y : V} (S : SR X.K N ι H st) (ra : RV X.K ι H a x) (rb : RV X.K ι H b y) (h : resP X.K N ι H E (opBin op a b st) (PQ X.K Q)) :
    ∃ r, OpR X (binaryOp op) r ∧ r x y H Q := by
  unfold opBin at h
  split at h
  · cases ra; cases rb
    exact ⟨_, op_add, _, _, rfl, rfl, val_ok S (.int _) h⟩
  · cases ra; cases rb
    split at h
    · rename_i hz
      exact ⟨_, op_add_str, _, _, rfl, rfl, hz, val_ok S (.str _) h⟩
    · exact h.elim
  · split at h
    · rename_i hz
      cases ra with
      | tup h1 r1 =>
        cases rb with
        | tup h2 r2 =>
          refine ⟨_, op_catA, _, _, _, _, rfl, rfl, h1, h2, by rw [← r1.length, ← r2.length]; exact hz, fun e => ?_, fun _ e => ?_, fun _ _ => ?_⟩
          · subst e
            cases r1
            exact val_ok S (.tup h2 r2) h
          · subst e
            cases r2
            rw [List.append_nil] at h
            exact val_ok S (.tup h1 r1) h
          · exact tup_ok S (r1.append r2) h
    · exact h.elim
  · split at h
    · rename_i e1 e2
      cases ra with
      | ref h1 =>
        cases rb with
        | ref h2 =>
          obtain ⟨vs, hv, r1⟩ := S.lst e1 h1
          obtain ⟨xs, hx, r2⟩ := S.lst e2 h2
          have q := newLst_ok S (r1.append r2) h
          refine ⟨_, op_cat, _, _, _, _, rfl, rfl, hv, hx, ?_, q.2⟩
          have := q.1
          rw [List.length_append] at this
          exact this
    · exact h.elim
  · cases ra; cases rb
    exact ⟨_, op_sub, _, _, rfl, rfl, val_ok S (.int _) h⟩
  · cases ra; cases rb
    split at h
    · rename_i hz
      exact ⟨_, op_mulW, _, _, rfl, rfl, hz, val_ok S (.int _) h⟩
    · exact h.elim
  · split at h
    · rename_i e1
      split at h
      · rename_i hz
        cases ra with
        | ref h1 =>
          cases rb
          obtain ⟨vs, hv, r1⟩ := S.lst e1 h1
          have q := newLst_ok S (r1.rep _) h
          exact ⟨_, op_rep, _, _, _, rfl, rfl, hv, hz.1, hz.2.1, by rw [← r1.length]; exact hz.2.2, q.2⟩
      · exact h.elim
    · exact h.elim
  · cases ra; cases rb
    split at h
    · rename_i hz
      exact ⟨_, op_fdivG, _, _, rfl, rfl, hz, val_ok S (.int _) h⟩
    · exact h.elim
  · cases ra; cases rb
    split at h
    · rename_i hz
      exact ⟨_, op_modN, _, _, rfl, rfl, hz, val_ok S (.int _) h⟩
    · exact h.elim
  · cases ra; cases rb
    split at h
    · rename_i hz
      exact ⟨_, op_pow, _, _, rfl, rfl, hz, val_ok S (.int _) h⟩
    · exact h.elim
  · exact h.elim

/-! ### data -/
theorem mapM_cons_some {α β : Type} {f : α → Option β} {a : α} {l : List α} {ds : List β} (h : (a :: l).mapM f = some ds) : ∃ d r, f a = some d ∧ l.mapM f = some r ∧ ds = d :: r := by
  rw [List.mapM_cons] at h
  cases e : f a with
  | none => rw [e] at h; cases h
  | some d =>
    rw [e] at h
    cases e2 : l.mapM f with
    | none =>
      have h' : (l.mapM f >>= fun r => pure (d :: r)) = some ds := h
      rw [e2] at h'; cases h'
    | some r =>
      have h' : (l.mapM f >>= fun r => pure (d :: r)) = some ds := h
      rw [e2] at h'
      cases h'
      exact ⟨d, r, rfl, rfl, rfl⟩
theorem toD_ok {K : PySem.W.Frag} (S : SR K N ι H st) : ∀ (f : Nat) (w : W) (v : V) (d : PyData), RV K ι H w v → toD st f w = some d → Dp K H v d := by
  intro f
  induction f with
  | zero => intro w v d _ h; cases h
  | succ f ih =>
    have all : ∀ (ws : List W) (vs : List V) (ds : List PyData), RVs K ι H ws vs → ws.mapM (toD st f) = some ds → DpAll K H vs ds := by
      intro ws
      induction ws with
      | nil =>
        intro vs ds r h
        cases r
        rw [List.mapM_nil] at h
        cases h
        exact .nil
      | cons w ws ihw =>
        intro vs ds r h
        cases r with
        | cons r t =>
          obtain ⟨d, rest, h1, h2, rfl⟩ := mapM_cons_some h
          exact .cons (ih _ _ _ r h1) (ihw _ _ t h2)
    intro w v d r h
    cases w with
    | non => cases r; cases h; exact .non
    | bl b => cases r; cases h; exact .bl b
    | int i => cases r; cases h; exact .int i
    | str z => cases r; cases h; exact .str z
    | tup ws =>
      cases r with
      | tup hq r =>
        cases e : ws.mapM (toD st f) with
        | none =>
          have h' : (ws.mapM (toD st f)).map PyData.tuple = some d := h
          rw [e] at h'; cases h'
        | some ds =>
          have h' : (ws.mapM (toD st f)).map PyData.tuple = some d := h
          rw [e] at h'
          cases h'
          exact .tup hq (all _ _ _ r e)
    | ref n =>
      cases r with
      | ref hn =>
        simp only [toD] at h
        split at h
        · rename_i ws e1
          obtain ⟨vs, hv, r⟩ := S.lst e1 hn
          cases e : ws.mapM (toD st f) with
          | none => rw [e] at h; cases h
          | some ds =>
            rw [e] at h
            cases h
            exact .lst (.of hv) (all _ _ _ r e)
        · cases h
    | scr is =>
      cases r with
      | scr hq =>
        simp only [toD] at h
        cases h
        refine .lst hq.l ?_
        clear hq
        induction is with
        | nil => exact .nil
        | cons i is ih => exact .cons (.int i) ih

theorem flat_ok {K : PySem.W.Frag} {w : W} {v : V} (r : RV K ι H w v) (h : isFlat w = true) : flatV v = true := by
  cases r <;> first | rfl | cases h
theorem flats_ok {K : PySem.W.Frag} : ∀ {ws : List W} {vs : List V}, RVs K ι H ws vs → ws.all isFlat = true → vs.all flatV = true
  | _, _, .nil, _ => rfl
  | _, _, .cons r t, h => by
    rw [List.all_cons, Bool.and_eq_true] at h ⊢
    exact ⟨flat_ok r h.1, flats_ok t h.2⟩
theorem flatEq_ok {K : PySem.W.Frag} {w u : W} {v x : V} (r : RV K ι H w v) (q : RV K ι H u x) (h1 : isFlat w = true) (h2 : isFlat u = true) : flatEq w u = eqV v x := by
  cases r with
  | non => cases q <;> first | rfl | cases h2
  | bl b => cases q <;> first | rfl | cases h2
  | int i => cases q <;> first | rfl | cases h2
  | str z => cases q <;> first | rfl | cases h2
  | tup _ _ => cases h1
  | ref _ => cases h1
  | scr _ => cases h1
theorem any_ok {K : PySem.W.Frag} {u : W} {x : V} (q : RV K ι H u x) (h2 : isFlat u = true) : ∀ {ws : List W} {vs : List V}, RVs K ι H ws vs → ws.all isFlat = true → (ws.any fun y => flatEq y u) = inV x vs
  | _, _, .nil, _ => rfl
  | _, _, .cons (w := w) (v := v) (ws := ws) (vs := vs) r t, h => by
    rw [List.all_cons, Bool.and_eq_true] at h
    have e := any_ok q h2 t h.2
    unfold inV at e ⊢
    rw [List.any_cons, List.any_cons, flatEq_ok r q h.1 h2, e]
theorem isNon_ok {K : PySem.W.Frag} {w : W} {v : V} (r : RV K ι H w v) : isNonW w = decide (v = .non) := by
  cases r <;> rfl

theorem key_ok {K : PySem.W.Frag} {w : W} {v : V} {k : Key} (r : RV K ι H w v) (h : keyOf w = some k) : v = kV k := by
  cases r <;> first | (cases h; rfl) | cases h
theorem kW_ok {K : PySem.W.Frag} (k : Key) : RV K ι H (kW k) (kV k) := by
  cases k with
  | inl i => exact .int i
  | inr z => exact .str z
theorem RKs.length {K : PySem.W.Frag} {ws : List (Key × W)} {vs : List (Key × V)} (r : RKs K ι H ws vs) : ws.length = vs.length := by
  induction r with
  | nil => rfl
  | cons _ _ ih => simp [ih]
theorem RKs.find {K : PySem.W.Frag} {ws : List (Key × W)} {vs : List (Key × V)} (r : RKs K ι H ws vs) (k : Key) : (∀ w, findK k ws = some w → ∃ v, valV vs k = some v ∧ RV K ι H w v) ∧ (findK k ws = none → valV vs k = none) := by
  induction r with
  | nil => exact ⟨fun w h => (by cases h), fun _ => rfl⟩
  | @cons k' w v ws vs h t ih =>
    unfold findK valV at ih ⊢
    by_cases e : k' = k
    · subst e
      simp only [List.find?_cons, decide_true]
      exact ⟨fun u hu => (by cases hu; exact ⟨v, rfl, h⟩), fun hu => (by cases hu)⟩
    · simp only [List.find?_cons, decide_eq_false e]
      exact ih

/-- in, not in a dict -/
theorem op_dinR (hu : X.A.units + 1 < cLine) : OpR X (compareOp .In) (fun y x H Q => ∃ a o, x = .ref a ∧ DGet H a y o ∧ Q (.bl o.isSome) H) := by
  intro pins s σ H y x v u Q I ry rx h
  obtain ⟨a, o, rfl, g, q⟩ := h
  cases rx
  exact d_in hu I g ry fun s' I' => ⟨.bl _, _, I', rfl, q⟩
theorem op_dnotinR (hu : X.A.units + 1 < cLine) : OpR X (compareOp .NotIn) (fun y x H Q => ∃ a o, x = .ref a ∧ DGet H a y o ∧ Q (.bl (!o.isSome)) H) := by
  intro pins s σ H y x v u Q I ry rx h
  obtain ⟨a, o, rfl, g, q⟩ := h
  cases rx
  exact d_notIn hu I g ry fun s' I' => ⟨.bl _, _, I', rfl, q⟩
theorem some_iff_find {K : PySem.W.Frag} {ws : List (Key × W)} {vs : List (Key × V)} (r : RKs K ι H ws vs) (k : Key) : (findK k ws).isSome = (valV vs k).isSome := by
  obtain ⟨f1, f2⟩ := r.find k
  cases e : findK k ws with
  | none => rw [f2 e]; rfl
  | some w => obtain ⟨v, e2, _⟩ := f1 w e; rw [e2]; rfl

theorem eqW_ok {a b : W} {x y : V} {c : Bool} {K : PySem.W.Frag} (S : SR K N ι H st) (ra : RV K ι H a x) (rb : RV K ι H b y) (h : eqW st a b = some c) :
    ∃ d e, Dp K H x d ∧ Dp K H y e ∧ SeqAt.shaped d = true ∧ SeqAt.shaped e = true ∧ PyData.eqv d e = c := by
  unfold eqW at h
  split at h
  · rename_i d e h1 h2
    split at h
    · rename_i hs
      cases h
      exact ⟨d, e, toD_ok S _ _ _ _ ra h1, toD_ok S _ _ _ _ rb h2, hs.1, hs.2, rfl⟩
    · cases h
  · cases h
theorem inW_ok {a b : W} {x y : V} {c : Bool} (S : SR X.K N ι H st) (hu : X.A.units + 64 < cLine) (ra : RV X.K ι H a x) (rb : RV X.K ι H b y) (h : inW st a b = some c) :
    (∃ r, OpR X (compareOp .In) r ∧ ∀ Q : VK, Q (.bl c) H → r x y H Q) ∧ ∃ r, OpR X (compareOp .NotIn) r ∧ ∀ Q : VK, Q (.bl (!c)) H → r x y H Q := by
  have hu1 : X.A.units + 1 < cLine := by omega
  have seq : ∀ (p : Addr) (ws : List W) (vs : List V), y = .ref p → (SqL X.K H p vs ∨ SqT X.K H p vs) → RVs X.K ι H ws vs → (if isFlat a = true ∧ ws.all isFlat = true then some (ws.any fun y => flatEq y a) else none) = some c →
      (∃ r, OpR X (compareOp .In) r ∧ ∀ Q : VK, Q (.bl c) H → r x y H Q) ∧ ∃ r, OpR X (compareOp .NotIn) r ∧ ∀ Q : VK, Q (.bl (!c)) H → r x y H Q := by
    intro p ws vs ey hq r h
    split at h
    · rename_i hf
      cases h
      rw [any_ok ra hf.1 r hf.2]
      exact ⟨⟨_, op_in_seq, fun Q q => ⟨p, vs, ey, hq, flat_ok ra hf.1, flats_ok r hf.2, q⟩⟩, ⟨_, op_notIn_seq, fun Q q => ⟨p, vs, ey, hq, flat_ok ra hf.1, flats_ok r hf.2, q⟩⟩⟩
    · cases h
  unfold inW at h
  split at h
  · split at h
    · cases ra; cases rb
      cases h
      exact ⟨⟨_, op_in_str, fun Q q => ⟨_, _, rfl, rfl, q⟩⟩, ⟨_, op_notIn_str, fun Q q => ⟨_, _, rfl, rfl, q⟩⟩⟩
    · cases h
  · cases rb with
    | ref hn =>
      split at h
      · rename_i e
        cases S.at e hn with
        | dic hd rk =>
          cases e2 : keyOf a with
          | none => rw [e2] at h; cases h
          | some k =>
            rw [e2] at h
            cases h
            have ek := key_ok ra e2
            subst ek
            simp only [some_iff_find rk k]
            exact ⟨⟨_, op_dinR hu1, fun Q q => ⟨_, _, rfl, .k hd, q⟩⟩, ⟨_, op_dnotinR hu1, fun Q q => ⟨_, _, rfl, .k hd, q⟩⟩⟩
      · rename_i e
        cases S.at e hn with
        | lst hl rl => exact seq _ _ _ rfl (.inl (.of hl)) rl h
      · cases h
  · cases rb with
    | tup ht rt => exact seq _ _ _ rfl (.inr ht) rt h
  · cases h
/-- a comparison -/
theorem opCmp_ok {op : CmpOp} {a b : W} {x y : V} {c : Bool} (S : SR X.K N ι H st) (hu : X.A.units + 64 < cLine) (ra : RV X.K ι H a x) (rb : RV X.K ι H b y) (h : opCmp op a b st = some c) (q : Q (.bl c) H) :
    ∃ r, OpR X (compareOp op) r ∧ r x y H Q := by
  cases op with
  | Eq =>
    obtain ⟨d, e, h1, h2, h3, h4, rfl⟩ := eqW_ok S ra rb h
    exact ⟨_, op_eqD hu, d, e, h1, h2, h3, h4, q⟩
  | NotEq =>
    have h' : (eqW st a b).map (!·) = some c := h
    cases e1 : eqW st a b with
    | none => rw [e1] at h'; cases h'
    | some k =>
      rw [e1] at h'
      cases h'
      obtain ⟨d, e, h1, h2, h3, h4, rfl⟩ := eqW_ok S ra rb e1
      exact ⟨_, op_neD hu, d, e, h1, h2, h3, h4, q⟩
  | In => exact let ⟨⟨r, h1, h2⟩, _⟩ := inW_ok S hu ra rb h; ⟨r, h1, h2 Q q⟩
  | NotIn =>
    have h' : (inW st a b).map (!·) = some c := h
    cases e1 : inW st a b with
    | none => rw [e1] at h'; cases h'
    | some k =>
      rw [e1] at h'
      cases h'
      exact let ⟨_, r, h1, h2⟩ := inW_ok S hu ra rb e1; ⟨r, h1, h2 Q q⟩
  | Lt =>
    simp only [opCmp] at h
    split at h
    · cases ra; cases rb; cases h; exact ⟨_, op_lt, _, _, rfl, rfl, q⟩
    · cases ra; cases rb; cases h; exact ⟨_, op_lt_str, _, _, rfl, rfl, q⟩
    · cases h
  | LtE =>
    simp only [opCmp] at h
    split at h
    · cases ra; cases rb; cases h; exact ⟨_, op_le, _, _, rfl, rfl, q⟩
    · cases ra; cases rb; cases h; exact ⟨_, op_le_str, _, _, rfl, rfl, q⟩
    · cases h
  | Gt =>
    simp only [opCmp] at h
    split at h
    · cases ra; cases rb; cases h; exact ⟨_, op_gt, _, _, rfl, rfl, q⟩
    · cases ra; cases rb; cases h; exact ⟨_, op_gt_str, _, _, rfl, rfl, q⟩
    · cases h
  | GtE =>
    simp only [opCmp] at h
    split at h
    · cases ra; cases rb; cases h; exact ⟨_, op_ge, _, _, rfl, rfl, q⟩
    · cases ra; cases rb; cases h; exact ⟨_, op_ge_str, _, _, rfl, rfl, q⟩
    · cases h
  | Is =>
    simp only [opCmp] at h
    split at h
    · cases rb; cases h; rw [isNon_ok ra] at q; exact ⟨_, op_isN, rfl, q⟩
    · split at h
      · cases ra; cases rb; cases h; exact ⟨_, op_isBl, _, _, rfl, rfl, q⟩
      · cases h
    · cases h
  | IsNot =>
    simp only [opCmp] at h
    split at h
    · cases rb; cases h; rw [isNon_ok ra] at q; exact ⟨_, op_notN, rfl, q⟩
    · split at h
      · cases ra; cases rb; cases h; exact ⟨_, op_notBl, _, _, rfl, rfl, q⟩
      · cases h
    · cases h

/-! ### items, slices, truth -/
theorem atI_ok {K : PySem.W.Frag} {ws : List W} {vs : List V} {i : Int} {w : W} (r : RVs K ι H ws vs) (h : atI ws i = some w) : ∃ v, atI vs i = some v ∧ RV K ι H w v := by
  unfold atI at h ⊢
  rw [← r.length]
  cases e : ixN ws.length i with
  | none => rw [e] at h; cases h
  | some j =>
    rw [e] at h
    exact r.get h
theorem ix_dict (hu : X.A.units + 1 < cLine) : IxR X (fun x y H Q => ∃ a v, x = .ref a ∧ DGet H a y (some v) ∧ Q v H) := by
  intro value slice pins s σ H x y v u Q I rx ry h hs
  obtain ⟨a, z, rfl, g, q⟩ := h
  cases rx
  exact tail_any (dict_typeIs I g) PySem.F.slot_dict_getitem.lookup (d_getItem hu I g ry fun w' s' I' r' => ⟨z, H, I', r', q⟩) hs
theorem atI_map {α β : Type} (f : α → β) (xs : List α) (i : Int) : atI (xs.map f) i = (atI xs i).map f := by
  unfold atI
  rw [List.length_map]
  cases ixN xs.length i with
  | none => rfl
  | some j => simp
theorem ixW_ok {a i w : W} {x y : V} (S : SR X.K N ι H st) (hu : X.A.units + 64 < cLine) (ra : RV X.K ι H a x) (ri : RV X.K ι H i y) (h : ixW st a i = some w) (q : ∀ v, RV X.K ι H w v → Q v H) :
    ∃ r, IxR X r ∧ r x y H Q := by
  unfold ixW at h
  split at h
  · cases ri
    cases ra with
    | tup hq r =>
      obtain ⟨v, e, rv⟩ := atI_ok r h
      exact ⟨_, ix_tup, _, _, _, v, rfl, rfl, hq, e, q v rv⟩
  · cases ri
    cases ra with
    | scr hq =>
      rename_i is k _
      cases e : atI is k with
      | none => rw [e] at h; cases h
      | some j =>
        rw [e] at h
        cases h
        exact ⟨_, ix_list, _, _, _, .int j, rfl, rfl, hq.l, by rw [atI_map, e]; rfl, q _ (.int j)⟩
  · cases ri
    cases ra
    rename_i z k
    split at h
    · rename_i hz
      cases e : atI z.cps.toList k with
      | none => rw [e] at h; cases h
      | some c =>
        rw [e] at h
        cases h
        exact ⟨_, ix_str, z, k, c, rfl, rfl, hz, e, q _ (.str _)⟩
    · cases h
  · cases ra with
    | ref hn =>
      split at h
      · rename_i e
        cases S.at e hn with
        | lst hl r =>
          split at h
          · cases ri
            obtain ⟨v, e, rv⟩ := atI_ok r h
            exact ⟨_, ix_list, _, _, _, v, rfl, rfl, .of hl, e, q v rv⟩
          · cases h
      · rename_i e
        cases S.at e hn with
        | dic hd rk =>
          cases e2 : keyOf i with
          | none => rw [e2] at h; cases h
          | some k =>
            rw [e2] at h
            have ek := key_ok ri e2
            subst ek
            obtain ⟨v, e3, rv⟩ := (rk.find k).1 w h
            exact ⟨_, ix_dict (by omega), _, v, rfl, .inl ⟨_, k, .inl hd, rfl, e3.symm⟩, q v rv⟩
      · cases h
  · cases h
theorem rvs_ints {K : PySem.W.Frag} : ∀ is : List Int, RVs K ι H (is.map W.int) (is.map V.int)
  | [] => .nil
  | i :: is => .cons (.int i) (rvs_ints is)
theorem slW_ok {a : W} {x : V} {lo hi : Option Int} (S : SR X.K N ι H st) (ra : RV X.K ι H a x) (h : resP X.K N ι H E (slW st a lo hi) (PQ X.K Q)) : ∃ r, SlR X r ∧ r x lo hi H Q := by
  unfold slW at h
  split at h
  · cases ra with
    | ref hn =>
      split at h
      · rename_i e
        obtain ⟨vs, hv, r⟩ := S.lst e hn
        exact ⟨_, sl_list, _, _, rfl, .of hv, (newLst_ok S (r.cut lo hi) h).2⟩
      · exact h.elim
  · cases ra with
    | tup hq r =>
      rename_i ws a vs
      refine ⟨_, sl_tupA, _, vs, rfl, hq, fun e => ?_, fun _ => tup_ok S (r.cut lo hi) h⟩
      refine val_ok S (.tup hq ?_) h
      have := r.cut lo hi
      unfold cutV at this
      rw [e.1, e.2] at this
      simpa using this
  · cases ra
    split at h
    · rename_i hz
      exact ⟨_, sl_str, _, rfl, hz, val_ok S (.str _) h⟩
    · exact h.elim
  · cases ra with
    | scr hq => exact ⟨_, sl_list, _, _, rfl, hq.l, (newLst_ok S ((rvs_ints _).cut lo hi) h).2⟩
  · exact h.elim
theorem isEmpty_ok {K : PySem.W.Frag} {ws : List W} {vs : List V} (r : RVs K ι H ws vs) : ws.isEmpty = vs.isEmpty := by cases r <;> rfl
theorem truW_ok {K : PySem.W.Frag} {w : W} {v : V} {c : Bool} (S : SR K N ι H st) (r : RV K ι H w v) (h : truW st w = some c) : TruV K v H c := by
  cases r with
  | non => cases h; rfl
  | bl b => cases h; rfl
  | int i => cases h; rfl
  | str z =>
    simp only [truW] at h
    split at h
    · rename_i hz; cases h; exact ⟨hz, rfl⟩
    · cases h
  | tup hq r => cases h; exact .inr (.inl ⟨_, hq, by rw [isEmpty_ok r]⟩)
  | scr hq => cases h; exact .inl ⟨_, hq.l, by simp⟩
  | ref hn =>
    simp only [truW] at h
    split at h
    · rename_i e
      cases S.at e hn with
      | lst hl r => cases h; exact .inl ⟨_, .of hl, by rw [isEmpty_ok r]⟩
    · rename_i e
      cases S.at e hn with
      | dic hd rk => cases h; exact .inr (.inr ⟨_, hd, by cases rk <;> rfl⟩)
    · cases h
end
end Mx

/-! Built-in functions and methods. -/
namespace Mx
open PySem PySem.Spec PyProof.Rows L2
section
variable {X : Cx} {N : Nm} {ι ι' : List Addr} {H H' : Hp} {st : Store} {E : XK} {Q : VK}

def Bi.val : Bi → Value
  | .len => .builtin "len"
  | .abs => .builtin "abs"
  | .min2 => .builtin "min"
  | .max2 => .builtin "max"
  | .minL => .builtin "min"
  | .maxL => .builtin "max"
  | .int => .type "int"
  | .str => .type "str"
  | .list => .type "list"
  | .tuple => .type "tuple"
  | .divmod => .builtin "divmod"
  | .any => .builtin "any"
  | .sum => .builtin "sum"

theorem intsOf_ok {K : PySem.W.Frag} : ∀ {ws : List W} {vs : List V} {is : List Int}, RVs K ι H ws vs → intsOf ws = some is → vs = is.map V.int
  | [], _, _, r, h => by cases r; cases h; rfl
  | w :: ws, _, is, r, h => by
    cases r with
    | cons r t =>
      cases r with
      | int i =>
        simp only [intsOf] at h
        cases e : intsOf ws with
        | none => rw [e] at h; cases h
        | some js =>
          rw [e] at h
          cases h
          rw [intsOf_ok t e]; rfl
      | _ => cases h
theorem blsOf_ok {K : PySem.W.Frag} : ∀ {ws : List W} {vs : List V} {is : List Bool}, RVs K ι H ws vs → blsOf ws = some is → vs = is.map V.bl
  | [], _, _, r, h => by cases r; cases h; rfl
  | w :: ws, _, is, r, h => by
    cases r with
    | cons r t =>
      cases r with
      | bl i =>
        simp only [blsOf] at h
        cases e : blsOf ws with
        | none => rw [e] at h; cases h
        | some js =>
          rw [e] at h
          cases h
          rw [blsOf_ok t e]; rfl
      | _ => cases h
theorem foldl_min_mem : ∀ (is : List Int) (i : Int), is.foldl min i ∈ i :: is ∧ ∀ j ∈ i :: is, is.foldl min i ≤ j
  | [], i => ⟨by simp, fun j hj => by simp at hj; subst hj; exact Int.le_refl _⟩
  | k :: is, i => by
    obtain ⟨h1, h2⟩ := foldl_min_mem is (min i k)
    refine ⟨?_, fun j hj => ?_⟩
    · show is.foldl min (min i k) ∈ _
      rcases List.mem_cons.mp h1 with e | e
      · rw [e]
        rcases Int.le_total i k with l | l
        · rw [Int.min_eq_left l]; simp
        · rw [Int.min_eq_right l]; simp
      · simp [e]
    · show is.foldl min (min i k) ≤ j
      have h3 := h2 (min i k) (by simp)
      rcases List.mem_cons.mp hj with e | e
      · subst e; exact Int.le_trans h3 (Int.min_le_left _ _)
      · rcases List.mem_cons.mp e with e | e
        · subst e; exact Int.le_trans h3 (Int.min_le_right _ _)
        · exact h2 j (by simp [e])
theorem foldl_max_mem : ∀ (is : List Int) (i : Int), is.foldl max i ∈ i :: is ∧ ∀ j ∈ i :: is, j ≤ is.foldl max i
  | [], i => ⟨by simp, fun j hj => by simp at hj; subst hj; exact Int.le_refl _⟩
  | k :: is, i => by
    obtain ⟨h1, h2⟩ := foldl_max_mem is (max i k)
    refine ⟨?_, fun j hj => ?_⟩
    · show is.foldl max (max i k) ∈ _
      rcases List.mem_cons.mp h1 with e | e
      · rw [e]
        rcases Int.le_total i k with l | l
        · rw [Int.max_eq_right l]; simp
        · rw [Int.max_eq_left l]; simp
      · simp [e]
    · show j ≤ is.foldl max (max i k)
      have h3 := h2 (max i k) (by simp)
      rcases List.mem_cons.mp hj with e | e
      · subst e; exact Int.le_trans (Int.le_max_left _ _) h3
      · rcases List.mem_cons.mp e with e | e
        · subst e; exact Int.le_trans (Int.le_max_right _ _) h3
        · exact h2 j (by simp [e])

theorem biW_ok {f : Bi} {ws : List W} {vs : List V} (S : SR X.K N ι H st) (hc : X.calm = true) (r : RVs X.K ι H ws vs) (h : resP X.K N ι H E (biW f ws st) (PQ X.K Q)) :
    ∃ r, CallR X f.val r ∧ r vs H Q := by
  unfold biW at h
  split at h
  · cases r with | cons r t => cases t; cases r with | tup hq r => exact ⟨_, call_len_seq, _, _, rfl, .inr hq, by rw [← r.length]; exact val_ok S (.int _) h⟩
  · cases r with | cons r t => cases t; cases r with | scr hq => exact ⟨_, call_len_seq, _, _, rfl, .inl hq.l, by rw [List.length_map]; exact val_ok S (.int _) h⟩
  · cases r with | cons r t =>
    cases t; cases r
    split at h
    · rename_i hz; exact ⟨_, call_len_str, _, rfl, hz, val_ok S (.int _) h⟩
    · exact h.elim
  · cases r with | cons r t =>
    cases t
    cases r with
    | ref hn =>
      split at h
      · rename_i e
        cases S.at e hn with
        | lst hl r => exact ⟨_, call_len_seq, _, _, rfl, .inl (.of hl), by rw [← r.length]; exact val_ok S (.int _) h⟩
      · rename_i e
        cases S.at e hn with
        | dic hd rk => exact ⟨_, call_lenD, _, _, rfl, hd, by rw [← rk.length]; exact val_ok S (.int _) h⟩
      · exact h.elim
  · cases r with | cons r t => cases t; cases r; exact ⟨_, call_abs, _, rfl, val_ok S (.int _) h⟩
  · cases r with | cons r t => cases t with | cons r2 t => cases t; cases r; cases r2; exact ⟨_, call_max2 hc, _, _, rfl, val_ok S (.int _) h⟩
  · cases r with | cons r t => cases t with | cons r2 t => cases t; cases r; cases r2; exact ⟨_, call_min2 hc, _, _, rfl, val_ok S (.int _) h⟩
  · cases r with | cons r t => cases t; cases r; exact ⟨_, call_int1, .inl ⟨_, rfl, val_ok S (.int _) h⟩⟩
  · cases r with | cons r t => cases t; cases r; exact ⟨_, call_int1, .inr ⟨_, rfl, val_ok S (.int _) h⟩⟩
  · cases r with | cons r t =>
    cases t; cases r
    split at h
    · rename_i e
      split at h
      · rename_i hz; exact ⟨_, call_int_str, _, _, rfl, e, hz, val_ok S (.int _) h⟩
      · exact h.elim
    · exact h.elim
  · cases r with | cons r t =>
    cases t; cases r
    split at h
    · rename_i hz; exact ⟨_, call_str_int, _, rfl, hz, val_ok S (.str _) h⟩
    · exact h.elim
  · cases r with | cons r t =>
    cases t
    split at h
    · rename_i w ws e
      cases r with
      | tup hq r =>
        cases e
        exact ⟨_, call_list_of, _, _, rfl, .inr hq, (newLst_ok S r h).2⟩
      | ref hn =>
        obtain ⟨vs, hv, r⟩ := S.lst e hn
        exact ⟨_, call_list_of, _, _, rfl, .inl (.of hv), (newLst_ok S r h).2⟩
      | _ => cases e
    · exact h.elim
  · cases r with | cons r t => cases t; cases r with | tup hq r => exact ⟨_, call_tuple_of, _, _, rfl, .inr ⟨hq, val_ok S (.tup hq r) h⟩⟩
  · cases r with | cons r t =>
    cases t
    cases r with
    | ref hn =>
      split at h
      · rename_i e
        obtain ⟨vs, hv, r⟩ := S.lst e hn
        exact ⟨_, call_tuple_of, _, _, rfl, .inl ⟨.of hv, tup_ok S r h⟩⟩
      · exact h.elim
  · cases r with | cons r t =>
    cases t with | cons r2 t =>
    cases t; cases r; cases r2
    split at h
    · rename_i hz
      exact ⟨_, call_divmod, _, _, rfl, hz, tup_ok S (.cons (.int _) (.one (.int _))) h⟩
    · exact h.elim
  · cases r with | cons r t =>
    cases t
    cases r with
    | ref hn =>
      rename_i n _
      cases e : lstAt st n with
      | none => rw [e] at h; exact h.elim
      | some ws =>
        rw [e] at h
        obtain ⟨vs, hv, r⟩ := S.lst e hn
        cases e2 : blsOf ws with
        | none =>
          have h' : resP X.K N ι H E (match blsOf ws with | some bs => R.ok (.bl (bs.any id)) st | none => .bad) (PQ X.K Q) := h
          rw [e2] at h'; exact h'.elim
        | some bs =>
          have h' : resP X.K N ι H E (match blsOf ws with | some bs => R.ok (.bl (bs.any id)) st | none => .bad) (PQ X.K Q) := h
          rw [e2] at h'
          have e3 := blsOf_ok r e2
          subst e3
          exact ⟨_, cr_any hc, _, _, rfl, .of hv, val_ok S (.bl _) h'⟩
  · cases r with | cons r t =>
    cases t
    cases r with
    | ref hn =>
      rename_i n _
      cases e : lstAt st n with
      | none => rw [e] at h; exact h.elim
      | some ws =>
        rw [e] at h
        obtain ⟨vs, hv, r⟩ := S.lst e hn
        cases e2 : intsOf ws with
        | none =>
          have h' : resP X.K N ι H E (match intsOf ws with | some is => R.ok (.int is.sum) st | none => .bad) (PQ X.K Q) := h
          rw [e2] at h'; exact h'.elim
        | some bs =>
          have h' : resP X.K N ι H E (match intsOf ws with | some is => R.ok (.int is.sum) st | none => .bad) (PQ X.K Q) := h
          rw [e2] at h'
          have e3 := intsOf_ok r e2
          subst e3
          exact ⟨_, cr_sum hc, _, _, rfl, .of hv, val_ok S (.int _) h'⟩
  · cases r with | cons r t =>
    cases t
    cases r with
    | ref hn =>
      rename_i n _
      split at h
      · rename_i i is e0
        cases e : lstAt st n with
        | none => rw [e] at e0; cases e0
        | some ws =>
          rw [e] at e0
          obtain ⟨vs, hv, r⟩ := S.lst e hn
          have e3 := intsOf_ok r e0
          subst e3
          refine ⟨_, cr_min hc, _, i :: is, rfl, .of hv, by simp, fun m hm hl => ?_⟩
          obtain ⟨g1, g2⟩ := foldl_min_mem is i
          have em : m = is.foldl min i := Int.le_antisymm (hl _ g1) (g2 _ hm)
          rw [em]
          exact val_ok S (.int _) h
      · exact h.elim
  · cases r with | cons r t =>
    cases t
    cases r with
    | ref hn =>
      rename_i n _
      split at h
      · rename_i i is e0
        cases e : lstAt st n with
        | none => rw [e] at e0; cases e0
        | some ws =>
          rw [e] at e0
          obtain ⟨vs, hv, r⟩ := S.lst e hn
          have e3 := intsOf_ok r e0
          subst e3
          refine ⟨_, cr_max hc, _, i :: is, rfl, .of hv, by simp, fun m hm hl => ?_⟩
          obtain ⟨g1, g2⟩ := foldl_max_mem is i
          have em : m = is.foldl max i := Int.le_antisymm (g2 _ hm) (hl _ g1)
          rw [em]
          exact val_ok S (.int _) h
      · exact h.elim
  · exact h.elim

/-! ### methods -/
def Bm.name : Bm → Str
  | .append => "append"
  | .extend => "extend"
  | .pop => "pop"
  | .popAt => "pop"
  | .clear => "clear"
  | .insert => "insert"
  | .reverse => "reverse"
def Bm.id : Bm → String
  | .append => "list.append"
  | .extend => "list.extend"
  | .pop => "list.pop"
  | .popAt => "list.pop"
  | .clear => "list.clear"
  | .insert => "list.insert"
  | .reverse => "list.reverse"
theorem Bm.slot (m : Bm) : Slot "list" m.name m.id := by
  cases m
  · exact PySem.F.slot_list_append
  · exact PySem.F.slot_list_extend
  · exact PySem.F.slot_list_pop
  · exact PySem.F.slot_list_pop
  · exact PySem.F.slot_list_clear
  · exact PySem.F.slot_list_insert
  · exact PySem.F.slot_list_reverse
theorem Bm.ty (m : Bm) : typeOf (.builtin m.id) = pure (.type "method_descriptor") := by
  cases m
  · exact PySem.F.type_list_append
  · exact PySem.F.type_list_extend
  · exact PySem.F.type_list_pop
  · exact PySem.F.type_list_pop
  · exact PySem.F.type_list_clear
  · exact PySem.F.type_list_insert
  · exact PySem.F.type_list_reverse
theorem wrote_ok {K : PySem.W.Frag} {n : Nat} {a : Addr} {ws us : List W} {vs : List V} (S : SR K N ι H st) (ha : ι[n]? = some a) (r : RVs K ι H us vs) {w : W} {v : V} (rv : RV K ι H w v)
    (h : resP K N ι H E (.ok w (st.set n (.lst us))) (PQ K Q)) : Q v (upd H a (.lst vs)) := by
  have ham : a ∈ ι := List.mem_of_getElem? ha
  have e := Ext.wrote (H := H) (o := .lst vs) ham
  exact h ι _ (S.wrote ha (.lst upd_same (r.ext S e))) e v (rv.ext S e)
theorem bmW_ok {m : Bm} {o : W} {x : V} {ws : List W} {vs : List V} (S : SR X.K N ι H st) (ro : RV X.K ι H o x) (r : RVs X.K ι H ws vs) (h : resP X.K N ι H E (bmW m o ws st) (PQ X.K Q)) :
    ∃ r, MtR X m.id r ∧ r x vs H Q := by
  unfold bmW at h
  split at h
  · cases ro with
    | ref hn =>
      split at h
      · cases r with | cons r1 t =>
        cases t
        split at h
        · rename_i e
          obtain ⟨xs, hx, rx⟩ := S.lst e hn
          split at h
          · rename_i hz
            exact ⟨_, mt_append, _, _, _, rfl, rfl, hx, by rw [← rx.length]; exact hz, wrote_ok (ws := []) S hn (rx.append (.one r1)) .non h⟩
          · exact h.elim
        · exact h.elim
      · cases r with | cons r1 t =>
        cases t
        cases r1 with
        | ref hk =>
          split at h
          · rename_i e e2
            obtain ⟨xs, hx, rx⟩ := S.lst e hn
            obtain ⟨zs, hz, rz⟩ := S.lst e2 hk
            split at h
            · rename_i hl
              exact ⟨_, mt_extend, _, _, _, _, rfl, rfl, hx, hz, by rw [← rx.length, ← rz.length]; exact hl, wrote_ok (ws := []) S hn (rx.append rz) .non h⟩
            · exact h.elim
          · exact h.elim
      · cases r
        split at h
        · rename_i e
          obtain ⟨xs, hx, rx⟩ := S.lst e hn
          split at h
          · rename_i e2
            rw [rx.length] at e2
            obtain ⟨v, e3, rv⟩ := rx.get e2
            exact ⟨_, mt_pop, _, _, _, rfl, rfl, hx, e3, wrote_ok (ws := []) S hn rx.dropLast rv h⟩
          · exact h.elim
        · exact h.elim
      · cases r with | cons r1 t =>
        cases t; cases r1
        split at h
        · rename_i e
          obtain ⟨xs, hx, rx⟩ := S.lst e hn
          split at h
          · rename_i hi
            split at h
            · rename_i e1
              split at h
              · rename_i e2
                obtain ⟨v, e3, rv⟩ := rx.get e2
                rw [rx.length] at e1
                exact ⟨_, mt_popAt, _, _, _, _, _, rfl, rfl, hx, hi.1, hi.2, (ixN_seq e1).1, e3, wrote_ok (ws := []) S hn (rx.eraseIdx _) rv h⟩
              · exact h.elim
            · exact h.elim
          · exact h.elim
        · exact h.elim
      · cases r
        split at h
        · rename_i e
          obtain ⟨xs, hx, rx⟩ := S.lst e hn
          exact ⟨_, mt_clear, _, _, rfl, rfl, hx, wrote_ok (ws := []) S hn .nil .non h⟩
        · exact h.elim
      · cases r with | cons r1 t =>
        cases t with | cons r2 t =>
        cases t; cases r1
        split at h
        · rename_i e
          obtain ⟨xs, hx, rx⟩ := S.lst e hn
          split at h
          · rename_i hi
            exact ⟨_, mt_insert, _, _, _, _, rfl, rfl, hx, by rw [← rx.length]; exact hi.1, hi.2.1, hi.2.2, wrote_ok (ws := []) S hn (((rx.take _).append (.one r2)).append (rx.drop _)) .non h⟩
          · exact h.elim
        · exact h.elim
      · cases r
        split at h
        · rename_i e
          obtain ⟨xs, hx, rx⟩ := S.lst e hn
          exact ⟨_, mt_reverse, _, _, rfl, rfl, hx, wrote_ok (ws := []) S hn rx.reverse .non h⟩
        · exact h.elim
      · exact h.elim
  · exact h.elim
end
end Mx

/-! That a piece of code is a piece of the text. -/
namespace Mx
open PySem PySem.Spec PyProof.Rows L2

/-- names by number -/
structure Tb where
  fn : Nat → Str
  gl : Nat → Str
  cl : Nat → Str
  me : Nat → Str
  fl : Nat → Str
  nc : Nat
  /-- so many fields -/
  nf : Nat
  isf : Nat → Bool
  ism : Nat → Bool
  /-- exceptions' classes -/
  xl : Nat → Str := fun _ => ""
  nx : Nat := 0
/-- where one stands: names by slot, the scope, a comprehension's own scope -/
structure Stc where
  T : Tb
  N : List Str
  sc : Scope
  own : Option Scope
def Stc.ix (S : Stc) (i : Nat) (x : Str) : Bool := decide (S.N[i]? = some x)
def Stc.vis (S : Stc) (x : Str) : Bool := match S.sc.names.lookup x with
  | some .local => true
  | some .cell => true
  | some .free => true
  | _ => false
def Stc.isLoc (S : Stc) (x : Str) : Bool := decide (S.sc.names.lookup x = some .local)
/-- a name that may be stored -/
def Stc.sto (S : Stc) (x : Str) : Bool := match S.sc.names.lookup x with
  | some .local => true
  | some .cell => match S.own with
    | none => true
    | some s => decide (s.names.lookup x = some .cell)
  | _ => false
def Stc.gl (S : Stc) (x : Str) : Bool := decide (S.sc.names.lookup x = some .globalImplicit)
def plainN (x : Str) : Bool := decide ((x == ("__debug__" : Str)) = false) && decide ((x == ("__classdict__" : Str)) = false) && decide (x ≠ "__name__")

def Bi.name : Bi → Str
  | .len => "len"
  | .abs => "abs"
  | .min2 => "min"
  | .max2 => "max"
  | .minL => "min"
  | .maxL => "max"
  | .int => "int"
  | .str => "str"
  | .list => "list"
  | .tuple => "tuple"
  | .divmod => "divmod"
  | .any => "any"
  | .sum => "sum"
def notStar : Expr → Bool
  | .Starred _ _ => false
  | _ => true
def notSlice : Expr → Bool
  | .Slice _ _ _ _ => false
  | _ => true
/-- no comprehension, no set -/
def notComp : Expr → Bool
  | .ListComp _ _ _ _ => false
  | .SetComp _ _ _ _ => false
  | .DictComp _ _ _ _ _ => false
  | _ => true
def notSet : Expr → Bool
  | .Set _ _ _ => false
  | _ => true
def notSuper : Expr → Bool
  | .Call (.Name _ _) [] [] _ => false
  | _ => true
def notTup : Expr → Bool
  | .Tuple _ _ _ => false
  | _ => true
/-- no set's, no dict's comprehension -/
def notSD : Expr → Bool
  | .SetComp _ _ _ _ => false
  | .DictComp _ _ _ _ _ => false
  | _ => true
/-- no tuple of targets for a tuple -/
def tupOk : Expr → Expr → Bool
  | .Tuple _ _ _, x => notTup x
  | .List _ _, x => notTup x
  | _, _ => true
/-- built-in types' names, from 1 on -/
def tyName : Nat → String
  | 0 => "NoneType"
  | 1 => "bool"
  | 2 => "int"
  | 3 => "str"
  | 4 => "tuple"
  | 5 => "list"
  | _ => "dict"

mutual
def CT.slots : CT → List Nat
  | .name i => [i]
  | .tup ts => ts.slots
  | _ => []
def CTs.slots : CTs → List Nat
  | .nil => []
  | .cons t ts => t.slots ++ ts.slots
end

/-- a class's name in isinstance -/
def okCl (S : Stc) (c : Nat) : Expr → Bool
  | .Name x _ => S.gl x && plainN x && (if c < 16 then decide (0 < c) && decide (c < 7) && decide (x = (tyName c : Str)) else decide (c - 16 < S.T.nc) && decide (x = S.T.cl (c - 16)))
  | _ => false
def okC1 (S : Stc) (cs : List Nat) (e : Expr) : Bool := match cs with
  | [c] => okCl S c e
  | _ => false
def okCls (S : Stc) : List Nat → List Expr → Bool
  | [], [] => true
  | c :: cs, e :: es => okCl S c e && notStar e && okCls S cs es
  | _, _ => false

mutual
def okE (S : Stc) : CE → Expr → Bool
  | .var i, .Name x _ => S.ix i x && S.vis x && plainN x
  | .glb g, .Name x _ => decide (x = S.T.gl g) && S.gl x && plainN x
  | .int i, .Constant (.int j) _ _ => decide (i = j)
  | .bl b, .Constant (.bool c) _ _ => decide (b = c)
  | .non, .Constant .none _ _ => true
  | .str z, .Constant (.str y) _ _ => decide (z = y)
  | .bop op a b, .BinOp x o y _ => decide (op = o) && okE S a x && okE S b y
  | .neg a, .UnaryOp .USub x _ => okE S a x
  | .cmp op a b, .Compare x [o] [y] _ => decide (op = o) && !behindInMarks op y && okE S a x && okE S b y
  | .chn op op' a b c, .Compare x [o, o'] [y, z] _ => decide (op = o) && decide (op' = o') && okE S a x && okE S b y && okE S c z && notSet z
  | .and1 a, .BoolOp .And [x] _ => okE S a x
  | .and a b, .BoolOp .And (x :: y :: r) p => okE S a x && okE S b (.BoolOp .And (y :: r) p)
  | .or1 a, .BoolOp .Or [x] _ => okE S a x
  | .or a b, .BoolOp .Or (x :: y :: r) p => okE S a x && okE S b (.BoolOp .Or (y :: r) p)
  | .not a, .UnaryOp .Not x _ => okE S a x
  | .ife c a b, .IfExp x y z _ => okE S c x && okE S a y && okE S b z
  | .tup es, .Tuple xs _ _ => okA S es xs
  | .lst es, .List xs _ => okA S es xs
  | .dct, .Dict [] [] _ => true
  | .call f es, .Call (.Name x _) (y :: ys) [] _ => S.T.isf f && decide (x = S.T.fn f) && S.gl x && plainN x && okA S es (y :: ys)
  | .bi f es, .Call (.Name x _) (y :: ys) [] _ => decide (x = f.name) && S.gl x && okA S es (y :: ys)
  | .mk c es, .Call (.Name x _) ys [] _ => S.T.ism c && decide (x = S.T.cl c) && S.gl x && plainN x && okA S es ys
  | .mth o m es, .Call (.Attribute x n ap) ys [] cp => decide (n = S.T.me m) && (ap.endLine == cp.line) && notSuper x && decide (ys.length < 30) && okE S o x && okA S es ys
  | .bm m o es, .Call (.Attribute x n ap) ys [] cp => decide (n = m.name) && (ap.endLine == cp.line) && notSuper x && decide (ys.length < 30) && okE S o x && okA S es ys
  | .idx a i, .Subscript x y _ => notSlice y && okE S a x && okE S i y
  | .slc a lo hi, .Subscript x (.Slice l h none _) _ => okE S a x && okO S lo l && okO S hi h
  | .fld o f, .Attribute x n _ => decide (f < S.T.nf) && decide (n = S.T.fl f) && notSuper x && okE S o x
  | .isi x cs, .Call (.Name n _) [e, .Tuple ys _ _] [] _ => decide (n = ("isinstance" : Str)) && S.gl n && okE S x e && notStar e && okCls S cs ys
  | .isi x cs, .Call (.Name n _) [e, y] [] _ => decide (n = ("isinstance" : Str)) && S.gl n && okE S x e && notStar e && notStar y && okC1 S cs y
  | .lc own t it ifs e, .ListComp el [⟨tg, iter, is, 0⟩] scope _ =>
    blkC S.N S.sc scope (own.map fun i => (S.N.getD i "", i)) && (t.slots.all fun i => own.contains i) && notSet iter && okI S it tg iter &&
      okG ⟨S.T, S.N, relS scope S.sc, some scope⟩ t tg && okTs ⟨S.T, S.N, relS scope S.sc, some scope⟩ ifs is && okE ⟨S.T, S.N, relS scope S.sc, some scope⟩ e el
  | _, _ => false
def okTs (S : Stc) : CA → List Expr → Bool
  | .nil, [] => true
  | .cons c .nil, [x] => okE S c x
  | _, _ => false
def okA (S : Stc) : CA → List Expr → Bool
  | .nil, [] => true
  | .cons e es, x :: xs => notStar x && okE S e x && okA S es xs
  | _, _ => false
def okO (S : Stc) : CO → Option Expr → Bool
  | .no, none => true
  | .yes e, some x => okE S e x
  | _, _ => false
def okI (S : Stc) : CI → Expr → Expr → Bool
  | .val e, _, x => okE S e x
  | .rng1 a, _, .Call (.Name n _) [x] [] _ => decide (n = ("range" : Str)) && S.gl n && notStar x && okE S a x
  | .rng2 a b, _, .Call (.Name n _) [x, y] [] _ => decide (n = ("range" : Str)) && S.gl n && notStar x && notStar y && okE S a x && okE S b y
  | .rng3 a b c, _, .Call (.Name n _) [x, y, z] [] _ => decide (n = ("range" : Str)) && S.gl n && notStar x && notStar y && notStar z && okE S a x && okE S b y && okE S c z
  | .enum a, .Tuple _ _ _, .Call (.Name n _) [x] [] _ => decide (n = ("enumerate" : Str)) && S.gl n && notStar x && okE S a x
  | .zip a b, .Tuple _ _ _, .Call (.Name n _) [x, y] [] _ => decide (n = ("zip" : Str)) && S.gl n && notStar x && notStar y && okE S a x && okE S b y
  | .rev a, _, .Call (.Name n _) [x] [] _ => decide (n = ("reversed" : Str)) && S.gl n && notStar x && okE S a x
  | _, _, _ => false
def okG (S : Stc) : CT → Expr → Bool
  | .name i, .Name x _ => S.ix i x && S.sto x
  | .tup ts, .Tuple xs _ _ => okGs S ts xs
  | .idx o i, .Subscript x y _ => notSlice y && okE S o x && okE S i y
  | .fld o f, .Attribute x n _ => decide (f < S.T.nf) && decide (n = S.T.fl f) && okE S o x
  | _, _ => false
def okGs (S : Stc) : CTs → List Expr → Bool
  | .nil, [] => true
  | .cons t ts, x :: xs => notStar x && okG S t x && okGs S ts xs
  | _, _ => false
end

/-! ### except suites -/
/-- a local name, by slot -/
def Stc.locI (S : Stc) (i : Nat) (x : Str) : Bool := S.ix i x && S.isLoc x && plainN x
structure PickT where
  y0 : Str
  y1 : Str
  e : Str
  x : Str
/-- ['..', '..'][int(isinstance(e, x))] -/
def pickOf : Expr → Option PickT
  | .Subscript (.List [.Constant (.str y0) _ _, .Constant (.str y1) _ _] _) (.Call (.Name n1 _) [.Call (.Name n2 _) [.Name e _, .Name x _] [] _] [] _) _ =>
    if n1 = ("int" : Str) ∧ n2 = ("isinstance" : Str) then some ⟨y0, y1, e, x⟩ else none
  | _ => none
def okX (S : Stc) (i : Option Nat) : XV → Expr → Bool
  | .non, .Constant .none _ _ => true
  | .str z, .Constant (.str y) _ _ => decide (z = y)
  | .int j, .Constant (.int y) _ _ => decide (j = y)
  | .cat a b, .BinOp x .Add y _ => okX S i a x && okX S i b y
  | .pick z0 z1 d, e => match pickOf e, i with
    | some p, some i => decide (z0 = p.y0) && decide (z1 = p.y1) && S.locI i p.e && decide (d < S.T.nx) && decide (p.x = S.T.xl d) && S.gl p.x && plainN p.x && S.gl "int" && S.gl "isinstance"
    | _, _ => false
  | _, _ => false
def okXS (S : Stc) (i : Option Nat) : XS → Stmt → Bool
  | .set j v, .Assign [.Name x _] e _ => S.locI j x && decide (i ≠ some j) && okX S i v e
  | .put l k v, .Assign [.Subscript (.Name x _) (.Constant (.int j) _ _) _] e _ => S.locI l x && decide (i ≠ some l) && decide (k = j) && okX S i v e
  | _, _ => false
/-- the swap of a comprehension's stores -/
def swapB (S : Stc) (y : Str) (py : Pos) (scope : Scope) (cp : Pos) : Bool :=
  S.isLoc y && (py.line == cp.line) && !(scope.names.any fun (n, k) => n == y && (k == .local || k == .cell))
mutual
def okS (S : Stc) : CS → Stmt → Bool
  | .skip, .Pass _ => true
  | .skip, .Expr (.Constant (.str _) _ _) _ => true
  | .set t e, .Assign [tg] x _ => notSD x && tupOk tg x && okG S t tg && okE S e x
  | .par i j a b, .Assign [.Tuple [.Name x px, .Name y py] k p] (.Tuple [u, v] k2 p2) _ =>
    S.ix i x && S.ix j y && decide (i ≠ j) && S.isLoc x && S.isLoc y && notStar u && notStar v && okE S a u && okE S b v && (px.line == py.line) && !(foldedForSure 8 u && foldedForSure 8 v) && !(constantsAlone 8 u && constantsAlone 8 v)
  | .aug i op e, .AugAssign (.Name x _) o y _ => S.ix i x && S.sto x && decide (op = o) && okE S e y
  | .expr e, .Expr x _ => notComp x && okE S e x
  | .ret e, .Return (some x) _ => okE S e x
  | .retN, .Return none _ => true
  | .brk, .Break _ => true
  | .cnt, .Continue _ => true
  | .ife c a b, .If x y z _ => okE S c x && okB S a y && okB S b z
  | .whl c b, .While x y [] _ => okE S c x && okB S b y
  | .for t it b, .For tg iter y [] _ => notSet iter && okG S t tg && okI S it tg iter && okB S b y
  | .never, _ => true
  | .rse c, .Raise (some (.Call (.Name x _) [.Constant (.str _) _ _] [] _)) none _ => decide (c < S.T.nx) && decide (x = S.T.xl c) && S.gl x && plainN x
  | .trx b (some i) h s, .Try body [.ExceptHandler (some (.Name x _)) (some n) [e] _] [] [] _ => decide (h < S.T.nx) && decide (x = S.T.xl h) && S.gl x && plainN x && S.locI i n && S.own.isNone && okB S b body && okXS S (some i) s e
  | .trx b none h s, .Try body [.ExceptHandler (some (.Name x _)) none [e] _] [] [] _ => decide (h < S.T.nx) && decide (x = S.T.xl h) && S.gl x && plainN x && S.own.isNone && okB S b body && okXS S none s e
  | _, _ => false
def okB (S : Stc) : CB → List Stmt → Bool
  | .nil, [] => true
  | .cons s b, x :: xs => okS S s x && okB S b xs
  | _, _ => false
end

/-! ### the small facts of the text -/
section
variable {X : Cx} {e : Expr} {es : List Expr}
theorem star_cons (env : Env) (h : notStar e = true) : starEach (e :: es) env = (false, eval e env) :: starEach es env := by
  cases e <;> first | rfl | cases h
theorem star_any {S : Stc} {pos : Pos} (env : Env) : ∀ {a : CA} {es : List Expr}, okA S a es = true → (backTo pos (starEach es env)).any (·.1) = false
  | .nil, [], _ => rfl
  | .nil, _ :: _, h => by simp [okA] at h
  | .cons _ _, [], h => by simp [okA] at h
  | .cons _ _, x :: xs, h => by
    simp only [okA, Bool.and_eq_true] at h
    rw [star_cons env h.1.1]
    show (false || (backTo pos (starEach xs env)).any (·.1)) = false
    rw [star_any env h.2]; rfl
theorem sub_plain (h : notSlice e = true) : PlainIx e := fun o i => by
  cases e <;> first | rfl | cases h
theorem comp_no (h : notComp e = true) (t : Option Expr) (l : Nat) (env : Env) : swapsWith e t l env = pure false := by
  cases e <;> first | rfl | cases h
theorem set_no (h : notSet e = true) (env : Env) (x : Value) : foldedSetIterable e env x = pure x := by
  cases e <;> first | rfl | cases h
theorem super_no (h : notSuper e = true) (f : Str) (env : Env) (w : Sem Value) : attributeBase e f env w = w := by
  cases e with
  | Call fn args kws pos =>
    cases fn <;> first | rfl | (cases args <;> first | rfl | (cases kws <;> first | rfl | cases h))
  | _ => rfl
theorem tup_no {t : Expr} (h : tupOk t e = true) (env : Env) : swappedStores [t] e env = pure none := by
  cases t <;> first
    | rfl
    | (cases e <;> first | rfl | (cases h; done))
/-- whether a comprehension's store is swapped -/
theorem sw_cases {t : Expr} (h : notSD e = true) (l : Nat) (env : Env) : swapsWith e (some t) l env = pure false ∨ ∃ el gs scope cp y py, e = .ListComp el gs scope cp ∧ t = .Name y py ∧ env.scope.names.lookup y = some .local ∧ (py.line == cp.line) = true ∧ (scope.names.any fun (n, k) => n == y && (k == .local || k == .cell)) = false := by
  cases e with
  | ListComp el gs scope cp =>
    cases t with
    | Name y py =>
      by_cases h1 : env.scope.names.lookup y = some .local ∧ (py.line == cp.line) = true ∧ (scope.names.any fun (n, k) => n == y && (k == .local || k == .cell)) = false
      · exact .inr ⟨el, gs, scope, cp, y, py, rfl, rfl, h1.1, h1.2.1, h1.2.2⟩
      · refine .inl ?_
        have e1 : swapsWith (.ListComp el gs scope cp) (some (.Name y py)) l env = pure (env.blockKind == .function && env.kindOf y == some .local && py.line == cp.line && !(scope.names.any fun (n, k) => n == y && (k == .local || k == .cell))) := rfl
        rw [e1]
        congr 1
        cases hb : (env.blockKind == .function && env.kindOf y == some .local && py.line == cp.line && !(scope.names.any fun (n, k) => n == y && (k == .local || k == .cell))) with
        | false => rfl
        | true =>
          exfalso
          simp only [Bool.and_eq_true, beq_iff_eq, Bool.not_eq_true'] at hb
          exact h1 ⟨hb.1.1.2, by rw [beq_iff_eq]; exact hb.1.2, hb.2⟩
    | _ => exact .inl rfl
  | SetComp _ _ _ _ => cases h
  | DictComp _ _ _ _ _ => cases h
  | _ => exact .inl rfl
theorem all_few {S : Stc} {pos : Pos} (env : Env) : ∀ {a : CA} {es : List Expr}, okA S a es = true → (backTo pos (starEach es env)).all (fun x => !x.1) = true
  | .nil, [], _ => rfl
  | .nil, _ :: _, h => by simp [okA] at h
  | .cons _ _, [], h => by simp [okA] at h
  | .cons _ _, x :: xs, h => by
    simp only [okA, Bool.and_eq_true] at h
    rw [star_cons env h.1.1]
    show (true && (backTo pos (starEach xs env)).all (fun x => !x.1)) = true
    rw [all_few env h.2]; rfl
theorem asg_cons (env : Env) (h : notStar e = true) : (assignEach (e :: es) env).map (·.2) = assign e env :: (assignEach es env).map (·.2) := by
  cases e <;> first | rfl | cases h
theorem asg_len {S : Stc} (env : Env) : ∀ {a : CTs} {es : List Expr}, okGs S a es = true → (assignEach es env).length = es.length ∧ (assignEach es env).findIdx? (·.1) = none
  | .nil, [], _ => ⟨rfl, rfl⟩
  | .nil, _ :: _, h => by simp [okGs] at h
  | .cons _ _, [], h => by simp [okGs] at h
  | .cons _ _, x :: xs, h => by
    simp only [okGs, Bool.and_eq_true] at h
    have e : assignEach (x :: xs) env = (false, assign x env) :: assignEach xs env := by
      have hx := h.1.1
      cases x <;> first | rfl | cases hx
    obtain ⟨h1, h2⟩ := asg_len env h.2
    rw [e]
    exact ⟨by simp [h1], by simp [List.findIdx?_cons, h2]⟩
end
end Mx

/-! Soundness: code that is a piece of the text does what the machine does. -/
namespace Mx
open PySem PySem.Spec PyProof.Rows L2

/-- the built-in names that must not be the module's own -/
def bltNames : List Str := ["len", "abs", "min", "max", "int", "str", "list", "tuple", "divmod", "any", "sum", "isinstance", "range", "zip", "enumerate", "reversed", "bool", "dict"]
/-- a class's value -/
def clsV (N : Nm) (c : Nat) : Value := if c < 16 then .type (tyName c) else .ref ((N.cA (c - 16)).getD 0)

/-- a def that is called by its name -/
def FnF (X : Cx) (N : Nm) (k : Nat) (x : Str) (run : List W → Store → R W) : Prop :=
  ∃ fa fd ps n, X.mg x = some (.ref fa) ∧ PySem.W.keepIn X.K (.ref fa) = true ∧ Binds X.K fd ps [] ∧ FnOk X.prog X.w X.K X.mg X.base (L2.CX X.prog X.w) k fa fd ps (spF X.K N n run) ∧ ∀ ws st, run ws st ≠ .bad → ws.length = n
/-- a class that is called -/
def MkF (X : Cx) (N : Nm) (k c : Nat) (x : Str) (run : List W → Store → R W) : Prop :=
  ∃ C f fd ps n j init, N.cA c = some C ∧ X.mg x = some (.ref C) ∧ L2.Mk X.K C f ∧ Binds X.K fd ps [] ∧ j + 1 ≤ k ∧ FnOk X.prog X.w X.K X.mg X.base (L2.CX X.prog X.w) j f fd ps (spF X.K N n init) ∧ (∀ ws st, init ws st ≠ .bad → ws.length = n) ∧
    ∀ ws st, run ws st = (init (.ref st.length :: ws) (st ++ [.ins c []])).bind fun w st' => match w with
      | .non => .ok (.ref st.length) st'
      | _ => .bad
/-- a method -/
def MthF (X : Cx) (N : Nm) (k c : Nat) (m : Str) (run : List W → Store → R W) : Prop :=
  ∃ C f fd ps q, N.cA c = some C ∧ Meth X.K C m f ∧ Binds X.K fd ps [] ∧ FnOk X.prog X.w X.K X.mg X.base (L2.CX X.prog X.w) k f fd ps (spF X.K N q run) ∧ ∀ ws st, run ws st ≠ .bad → ws.length = q
/-- what an exception's class must have -/
structure ExF (K : PySem.W.Frag) (C : Addr) : Prop where
  xin : PySem.W.excIn K C [.type "ValueError", .type "Exception", .type "BaseException", .type "object"] "ValueError.__new__" = true
  kp : PySem.W.keepIn K (.ref C) = true
  ty : PySem.W.typeIn K (.ref C) = some (.type "type")
  cc : ExcC K C
structure PEnv (T : Tb) (o : Orc) (N : Nm) (k : Nat) (X : Cx) : Prop where
  room : Room k X.A
  blt : ∀ x ∈ bltNames, X.mg x = none
  fld : N.fld = T.fl
  call : ∀ f, T.isf f = true → FnF X N k (T.fn f) (o.call f)
  glb : ∀ g w, o.glb g = some w → ∃ u v, X.mg (T.gl g) = some u ∧ RelV v u ∧ ∀ ι H, RV X.K ι H w v
  cls : ∀ c, c < T.nc → ∃ C, N.cA c = some C ∧ X.mg (T.cl c) = some (.ref C)
  isi : ∀ st w cs b, o.isi st w cs = some b → ∀ ι H v, SR X.K N ι H st → RV X.K ι H w v → cs.length ≤ 100 ∧ ∃ t, TyX X.K H v t ∧ PySem.W.kitAny X.K t (cs.map (clsV N)) = some b
  make : ∀ c, T.ism c = true → MkF X N k c (T.cl c) (o.make c)
  mth : ∀ c m f, o.cm c m = some f → MthF X N k c (T.me m) (o.call f)
  nofm : ∀ f m, T.fl f ≠ T.me m
  inj : ∀ f g, T.fl f = T.fl g → f = g
  noat : ∀ c C, N.cA c = some C → Cls X.K C ∧ ∀ f, f < T.nf → NoAttr X.K C (T.fl f)
  exc : ∀ c, c < T.nx → ∃ C, N.xA c = some C ∧ X.mg (T.xl c) = some (.ref C) ∧ ExF X.K C
  exf : ∀ c C, N.xA c = some C → ExF X.K C
  exm : ∀ c d C D, N.xA c = some C → N.xA d = some D → PySem.W.exmOne X.K (.ref C) (.ref D) = some (o.sub c d) ∧ PySem.W.kitOne X.K (.ref C) (.ref D) = some (o.sub c d)
structure Good (S : Stc) (o : Orc) (N : Nm) (k : Nat) (Wx : WX) (X : Cx) : Prop where
  n : X.N = S.N
  nd : S.N.Nodup
  sc : X.env.scope = S.sc
  fn : ∀ x, S.sto x = true → X.fn x = true ∨ X.env.scope.names.lookup x = some .local
  calm : X.calm = true
  own : PassesOwn (model X.prog X.w) X.A X.env X.xe
  tk : Takes X Wx
  env : PEnv S.T o N k X
  kind : X.env.scope.kind = .function
  stk : S.own = none → X.stack = X.env :: X.outer ∧ X.env.frame = some X.env.locals

section
variable {S : Stc} {o : Orc} {N : Nm} {k : Nat} {Wx : WX} {X : Cx}
theorem Good.vis (G : Good S o N k Wx X) {x : Str} (h : S.vis x = true) : Vis X.env.scope x := by
  unfold Stc.vis at h
  rw [← G.sc] at h
  unfold Vis
  split at h <;> first | exact .inl (by assumption) | exact .inr (.inl (by assumption)) | exact .inr (.inr (by assumption)) | cases h
theorem Good.ix (G : Good S o N k Wx X) {i : Nat} {x : Str} (h : S.ix i x = true) : X.N[i]? = some x := by
  rw [G.n]; exact of_decide_eq_true h
theorem Good.gl (G : Good S o N k Wx X) {x : Str} (h : S.gl x = true) : Gl X x := by
  have := of_decide_eq_true h
  rw [← G.sc] at this
  exact this
theorem Good.sto (G : Good S o N k Wx X) {x : Str} (h : S.sto x = true) : L2.Loc X.env.scope x := by
  unfold Stc.sto at h
  rw [← G.sc] at h
  split at h
  · exact .inl (by assumption)
  · exact .inr (by assumption)
  · cases h
theorem Good.loc (G : Good S o N k Wx X) {x : Str} (h : S.isLoc x = true) : X.env.scope.names.lookup x = some .local := by
  rw [G.sc]; exact of_decide_eq_true h
theorem plainN1 {x : Str} (h : plainN x = true) : (x == ("__debug__" : Str)) = false ∧ (x == ("__classdict__" : Str)) = false ∧ x ≠ "__name__" := by
  unfold plainN at h
  simp only [Bool.and_eq_true, decide_eq_true_eq] at h
  exact ⟨h.1.1, h.1.2, h.2⟩
theorem Good.hu (G : Good S o N k Wx X) : X.A.units + 64 < cLine := G.env.room.units
theorem Good.none (G : Good S o N k Wx X) {x : Str} (h : x ∈ bltNames) : X.mg x = Option.none := G.env.blt x h
theorem PE.imp {e : Expr} {t t' : TE} (h : PE X e t) (g : ∀ σ H Q, t' σ H Q → t σ H Q) : PE X e t' := ⟨fun pins s σ H Q I q => h.run pins s σ H Q I (g _ _ _ q)⟩
/-- the reading of a whole expression, its evaluation at hand -/
theorem PE.at {e : Expr} {ev : Loc → Store → R W} (h : ∀ ι st ρ σ H Q, SR X.K N ι H st → RS X.K ι H ρ σ → resP X.K N ι H (fun c d H' => Wx c d σ H') (ev ρ st) (PQ X.K Q) → ∃ t, PE X e t ∧ t σ H Q) : PE X e (rdE X.K N Wx ev) := by
  refine ⟨fun pins s σ H Q I q => ?_⟩
  obtain ⟨ι, st, ρ, S, r, q⟩ := q
  obtain ⟨t, ht, q'⟩ := h ι st ρ σ H Q S r q
  exact ht.run pins s σ H Q I q'
theorem PT.at {e : Expr} {ev : Loc → Store → R Bool} (h : ∀ ι st ρ σ H Q, SR X.K N ι H st → RS X.K ι H ρ σ → resP X.K N ι H (fun c d H' => Wx c d σ H') (ev ρ st) (fun b _ H' => Q b H') → ∃ t, PT X e t ∧ t σ H Q) : PT X e (rdT X.K N Wx ev) := by
  refine ⟨fun pins s σ H Q I q => ?_⟩
  obtain ⟨ι, st, ρ, S, r, q⟩ := q
  obtain ⟨t, ht, q'⟩ := h ι st ρ σ H Q S r q
  exact ht.run pins s σ H Q I q'
theorem PW.at {e : Expr} {ev : Loc → Store → R Bool} (h : ∀ ι st ρ σ H Q, SR X.K N ι H st → RS X.K ι H ρ σ → resP X.K N ι H (fun c d H' => Wx c d σ H') (ev ρ st) (fun b _ H' => Q b H') → ∃ t, PW X e t ∧ t σ H Q) : PW X e (rdT X.K N Wx ev) := by
  refine ⟨fun wh pins s σ H Q I q => ?_⟩
  obtain ⟨ι, st, ρ, S, r, q⟩ := q
  obtain ⟨t, ht, q'⟩ := h ι st ρ σ H Q S r q
  exact ht.run wh pins s σ H Q I q'
theorem PS.at {e : Stmt} {ev : Loc → Store → Out} (h : ∀ ι st ρ σ H D, SR X.K N ι H st → RS X.K ι H ρ σ → outP X.K N Wx ι H D (ev ρ st) → ∃ t, PS X e t ∧ t D σ H) : PS X e (rdS X.K N Wx ev) := by
  refine ⟨fun pins s σ H D I q => ?_⟩
  obtain ⟨ι, st, ρ, S, r, q⟩ := q
  obtain ⟨t, ht, q'⟩ := h ι st ρ σ H D S r q
  exact ht.run pins s σ H D I q'
theorem PI.at {tg e : Expr} {ev : Loc → Store → R Iter} (h : ∀ ι st ρ σ H Q, SR X.K N ι H st → RS X.K ι H ρ σ → resP X.K N ι H (fun c d H' => Wx c d σ H') (ev ρ st) (fun it ι' H' => ∀ J, IR X.K ι' H' it J → Q J H') → ∃ t, PI X tg e t ∧ t σ H Q) : PI X tg e (rdI X.K N Wx ev) := by
  refine ⟨fun pins s σ H Q I q => ?_⟩
  obtain ⟨ι, st, ρ, S, r, q⟩ := q
  obtain ⟨t, ht, q'⟩ := h ι st ρ σ H Q S r q
  exact ht.run pins s σ H Q I q'

/-- what a call may let out here -/
theorem Good.pass (G : Good S o N k Wx X) (σ : L2.St) : PassesAt (L2.CX X.prog X.w) X σ (WE Wx σ) := passAt G.tk σ

/-! ### own rules: a method by the receiver's class, an object made -/
def MthR (X : Cx) (Wx : WX) (m : Str) (σ : L2.St) (x : V) (H1 : Hp) (R : (List V → Hp → VK → Prop) → Prop) : Prop := ∃ a C dx fs f fd ps sp k, x = .ref a ∧ H1 a = some (.ins C dx fs) ∧ Cls X.K C ∧ Meth X.K C m f ∧ fs.lookup m = none ∧
  FnOk X.prog X.w X.K X.mg X.base (L2.CX X.prog X.w) k f fd ps sp ∧ Room k X.A ∧ Binds X.K fd ps [] ∧ R fun vs H2 Q => sp (x :: vs) H2 Q (WE Wx σ)
def tMthD (X : Cx) (Wx : WX) (m : Str) (ta : TE) (t : TA) : TE := fun σ H Q => ta σ H fun x H1 => MthR X Wx m σ x H1 fun go => t σ H1 fun vs H2 => go vs H2 Q
def tMth0 (X : Cx) (Wx : WX) (m : Str) (ta : TE) : TE := fun σ H Q => ta σ H fun x H1 => MthR X Wx m σ x H1 fun go => go [] H1 Q
theorem pe_mthD {pl : Sem Bool} {oe e : Expr} {es : List Expr} {m : Str} {apos pos : Pos} {ta : TE} {t : TA} (he : PE X oe ta) (ha : PA X (e :: es) t) (tk : Takes X Wx)
    (hs : starEach (e :: es) X.env = (false, eval e X.env) :: starEach es X.env) (hpl : (backTo pos (starEach es X.env)).any (·.1) = false)
    (ht : eval (.Call (.Attribute oe m apos) (e :: es) [] pos) X.env = (do
      let ov ← eval oe X.env
      standAt apos.atName
      let (f, first) ← holding [ov] (getMethod ov m pl)
      callWith pos f first (backTo pos (starEach (e :: es) X.env)) (backToKw pos (keywordEach [] X.env)))) :
    PE X (.Call (.Attribute oe m apos) (e :: es) [] pos) (tMthD X Wx m ta t) := by
  refine ⟨fun pins s σ H Q I h => PySem.W.methodCall_KW (pl := pl) (thn (he.run pins s σ H _ I h) ?_) ht⟩
  rintro ov s1 ⟨x, H1, J, rx, a, C, dx, fs, f, fd, ps, sp, k, ex, ea, hc, hm, l, F, hr, hb, q⟩
  subst ex
  obtain rfl : ov = Value.ref a := rx
  refine getmeth_ok J ea hc hm l (PySem.W.callWith_K (first := [.ref a]) (h₀ := X.base) J.ok.mod.kin hm.kp (thn (ha.run pos pins s1 σ H1 _ J q) ?_) hs hpl)
  rintro us s2 ⟨vs, H2, J2, rv, q2⟩
  exact ⟨J2.kIn, run_fnS (E := WE Wx) (us := .ref a :: us) (vs := .ref a :: vs) F hr hb (passAt tk σ) J2 (.cons rfl rv) q2⟩
theorem pe_mth0 {pl : Sem Bool} {oe : Expr} {m : Str} {apos pos : Pos} {ta : TE} (he : PE X oe ta) (tk : Takes X Wx)
    (ht : eval (.Call (.Attribute oe m apos) [] [] pos) X.env = (do
      let ov ← eval oe X.env
      standAt apos.atName
      let (f, first) ← holding [ov] (getMethod ov m pl)
      callWith pos f first (backTo pos (starEach [] X.env)) (backToKw pos (keywordEach [] X.env)))) :
    PE X (.Call (.Attribute oe m apos) [] [] pos) (tMth0 X Wx m ta) := by
  refine ⟨fun pins s σ H Q I h => PySem.W.methodCall_KW (pl := pl) (thn (he.run pins s σ H _ I h) ?_) ht⟩
  rintro ov s1 ⟨x, H1, J, rx, a, C, dx, fs, f, fd, ps, sp, k, ex, ea, hc, hm, l, F, hr, hb, q⟩
  subst ex
  obtain rfl : ov = Value.ref a := rx
  exact getmeth_ok J ea hc hm l (PySem.W.callWith_K0 (first := [.ref a]) J.kIn hm.kp (run_fnS (E := WE Wx) (us := [.ref a]) (vs := [.ref a]) F hr hb (passAt tk σ) J (.cons rfl .nil) q))
/-- what is asked of a new object's __init__ -/
def MadeR (C : Addr) (sp : Sp) (vs : List V) (H1 : Hp) (Q : VK) (E : XK) : Prop := ∀ x dx, H1 x = none → H1 dx = none → dx ≠ x →
  sp (.ref x :: vs) (upd (upd H1 dx (.own x)) x (.ins C dx [])) (fun v H2 => v = .non ∧ Q (.ref x) H2) E
theorem run_mk {pins : List (Addr × Obj)} {σ : L2.St} {H : Hp} {s : Shared} {Q : VK} {us : List Value} {vs : List V} {C f : Addr} {fd : FuncData} {ps : List Str} {sp : Sp} {j : Nat} (M : L2.Mk X.K C f) (F : FnOk X.prog X.w X.K X.mg X.base (L2.CX X.prog X.w) j f fd ps sp)
    (hr : Room (j + 1) X.A) (hb : Binds X.K fd ps []) (tk : Takes X Wx) (I : Inv X pins σ H s) (r : Vals vs us) (h : MadeR C sp vs H Q (WE Wx σ)) : wpAny (model X.prog X.w) X.A (call (.ref C) us) (EP X pins σ Q) X.xe s := by
  have hq := h (s.heap.objs.size + 1) s.heap.objs.size (I.hok.fresh (Nat.le_succ _)) (I.hok.fresh (Nat.le_refl _)) (Nat.ne_of_lt (Nat.lt_succ_self _))
  have J := Inv.made (C := C) I
  have r2 : Vals (V.ref (s.heap.objs.size + 1) :: vs) (Value.ref (s.heap.objs.size + 1) :: us) := .cons rfl r
  have hl : (Value.ref (s.heap.objs.size + 1) :: us).length = ps.length := by rw [← r2.length]; exact F.len _ _ _ _ hq
  have bnd := hb _ (Value.ref (s.heap.objs.size + 1) :: us) J.kIn (by rw [List.append_nil]; exact hl)
  rw [List.append_nil] at bnd
  refine wpAny_call (make_map (f := f) I.kIn M.makes M.init (beq_iff_eq.mp M.fn) (codeAny_mono (F.run _ X.stack _ _ ⟨Value.ref (s.heap.objs.size + 1) :: us, []⟩ _ _ _ _ (hr.make C us []) (J.env0.make C us []) bnd r2 hq) ?_))
  intro r s' hq'
  cases r with
  | error e => exact passAt tk σ pins _ _ e s' J hq'
  | ok fl =>
    cases fl with
    | ret u =>
      obtain ⟨v, H', J3, rv, ev, q3⟩ := J.after hq'
      subst ev
      exact ⟨rv, ⟨V.ref (s.heap.objs.size + 1), H', J3, rfl, q3⟩⟩
    | next => exact hq'.elim
    | brk => exact hq'.elim
    | cont => exact hq'.elim
theorem pe_mkD {x : Str} {p pos : Pos} {e : Expr} {es : List Expr} {t : TA} {C f : Addr} {fd : FuncData} {ps : List Str} {sp : Sp} {j : Nat} (M : L2.Mk X.K C f) (F : FnOk X.prog X.w X.K X.mg X.base (L2.CX X.prog X.w) j f fd ps sp)
    (hr : Room (j + 1) X.A) (hb : Binds X.K fd ps []) (tk : Takes X Wx) (hg : Gl X x) (hm : X.mg x = some (.ref C)) (ha : PA X (e :: es) t) (hdb : (x == ("__debug__" : Str)) = false)
    (hs : starEach (e :: es) X.env = (false, eval e X.env) :: starEach es X.env) (hpl : (backTo pos (starEach es X.env)).any (·.1) = false) :
    PE X (.Call (.Name x p) (e :: es) [] pos) (fun σ H Q => t σ H fun vs H1 => MadeR C sp vs H1 Q (WE Wx σ)) := by
  refine ⟨fun pins s σ H Q I h => wpAny_Call_Name_kw (ld_glob I hg hm ?_ hdb)⟩
  refine PySem.W.callWith_K (h₀ := X.base) I.ok.mod.kin M.kp (thn (ha.run pos pins s σ H _ I h) ?_) hs hpl
  rintro us s1 ⟨vs, H1, J, r, q⟩
  exact ⟨J.kIn, run_mk M F hr hb tk J r q⟩
theorem pe_mk0 {x : Str} {p pos : Pos} {C f : Addr} {fd : FuncData} {ps : List Str} {sp : Sp} {j : Nat} (M : L2.Mk X.K C f) (F : FnOk X.prog X.w X.K X.mg X.base (L2.CX X.prog X.w) j f fd ps sp)
    (hr : Room (j + 1) X.A) (hb : Binds X.K fd ps []) (tk : Takes X Wx) (hg : Gl X x) (hm : X.mg x = some (.ref C)) (hdb : (x == ("__debug__" : Str)) = false) :
    PE X (.Call (.Name x p) [] [] pos) (fun σ H Q => MadeR C sp [] H Q (WE Wx σ)) := by
  refine ⟨fun pins s σ H Q I h => wpAny_Call_Name_kw (ld_glob I hg hm ?_ hdb)⟩
  exact PySem.W.callWith_K0 I.kIn M.kp (run_mk (us := []) M F hr hb tk I .nil h)
end
end Mx

/-! What a check that holds tells (printed by geninv.py). -/
namespace Mx
open PySem PySem.Spec PyProof.Rows L2
theorem inv_var {S : Stc} {i : Nat} {e : Expr} (h : okE S (.var i) e = true) : ∃ x p, e = .Name x p ∧ S.ix i x = true ∧ S.vis x = true ∧ plainN x = true := by
  cases e <;> try (cases h; done)
  rename_i x p
  have h' : (S.ix i x && S.vis x && plainN x) = true := h
  simp only [Bool.and_eq_true, decide_eq_true_eq, Bool.not_eq_true'] at h'
  exact ⟨x, p, rfl, h'.1.1, h'.1.2, h'.2⟩
theorem inv_glb {S : Stc} {g : Nat} {e : Expr} (h : okE S (.glb g) e = true) : ∃ x p, e = .Name x p ∧ x = S.T.gl g ∧ S.gl x = true ∧ plainN x = true := by
  cases e <;> try (cases h; done)
  rename_i x p
  have h' : (decide (x = S.T.gl g) && S.gl x && plainN x) = true := h
  simp only [Bool.and_eq_true, decide_eq_true_eq, Bool.not_eq_true'] at h'
  exact ⟨x, p, rfl, h'.1.1, h'.1.2, h'.2⟩
theorem inv_int {S : Stc} {i : Int} {e : Expr} (h : okE S (.int i) e = true) : ∃ k p, e = .Constant (.int i) k p := by
  cases e <;> try (cases h; done)
  rename_i v k p
  cases v <;> try (cases h; done)
  rename_i j
  have h' : (decide (i = j)) = true := h
  simp only [decide_eq_true_eq] at h'
  subst h'
  exact ⟨k, p, rfl⟩
theorem inv_bl {S : Stc} {i : Bool} {e : Expr} (h : okE S (.bl i) e = true) : ∃ k p, e = .Constant (.bool i) k p := by
  cases e <;> try (cases h; done)
  rename_i v k p
  cases v <;> try (cases h; done)
  rename_i j
  have h' : (decide (i = j)) = true := h
  simp only [decide_eq_true_eq] at h'
  subst h'
  exact ⟨k, p, rfl⟩
theorem inv_str {S : Stc} {i : Str} {e : Expr} (h : okE S (.str i) e = true) : ∃ k p, e = .Constant (.str i) k p := by
  cases e <;> try (cases h; done)
  rename_i v k p
  cases v <;> try (cases h; done)
  rename_i j
  have h' : (decide (i = j)) = true := h
  simp only [decide_eq_true_eq] at h'
  subst h'
  exact ⟨k, p, rfl⟩
theorem inv_non {S : Stc}  {e : Expr} (h : okE S (.non) e = true) : ∃ k p, e = .Constant .none k p := by
  cases e <;> try (cases h; done)
  rename_i v k p
  cases v <;> try (cases h; done)
  exact ⟨k, p, rfl⟩
theorem inv_bop {S : Stc} {op : Operator} {a b : CE} {e : Expr} (h : okE S (.bop op a b) e = true) : ∃ x y p, e = .BinOp x op y p ∧ okE S a x = true ∧ okE S b y = true := by
  cases e <;> try (cases h; done)
  rename_i x o y p
  have h' : (decide (op = o) && okE S a x && okE S b y) = true := h
  simp only [Bool.and_eq_true, decide_eq_true_eq, Bool.not_eq_true'] at h'
  obtain ⟨⟨rfl, h1⟩, h2⟩ := h'
  exact ⟨x, y, p, rfl, h1, h2⟩
theorem inv_neg {S : Stc} {a : CE} {e : Expr} (h : okE S (.neg a) e = true) : ∃ x p, e = .UnaryOp .USub x p ∧ okE S a x = true := by
  cases e <;> try (cases h; done)
  rename_i o x p
  cases o <;> try (cases h; done)
  have h' : (okE S a x) = true := h
  skip
  exact ⟨x, p, rfl, h'⟩
theorem inv_not {S : Stc} {a : CE} {e : Expr} (h : okE S (.not a) e = true) : ∃ x p, e = .UnaryOp .Not x p ∧ okE S a x = true := by
  cases e <;> try (cases h; done)
  rename_i o x p
  cases o <;> try (cases h; done)
  have h' : (okE S a x) = true := h
  skip
  exact ⟨x, p, rfl, h'⟩
theorem inv_cmp {S : Stc} {op : CmpOp} {a b : CE} {e : Expr} (h : okE S (.cmp op a b) e = true) : ∃ x y p, e = .Compare x [op] [y] p ∧ behindInMarks op y = false ∧ okE S a x = true ∧ okE S b y = true := by
  cases e <;> try (cases h; done)
  rename_i x ops ys p
  cases ops <;> try (cases h; done)
  rename_i o ops
  cases ops <;> try (cases h; done)
  cases ys <;> try (cases h; done)
  rename_i y ys
  cases ys <;> try (cases h; done)
  have h' : (decide (op = o) && !behindInMarks op y && okE S a x && okE S b y) = true := h
  simp only [Bool.and_eq_true, decide_eq_true_eq, Bool.not_eq_true'] at h'
  obtain ⟨⟨⟨rfl, h1⟩, h2⟩, h3⟩ := h'
  exact ⟨x, y, p, rfl, h1, h2, h3⟩
theorem inv_chn {S : Stc} {op op' : CmpOp} {a b c : CE} {e : Expr} (h : okE S (.chn op op' a b c) e = true) : ∃ x y z p, e = .Compare x [op, op'] [y, z] p ∧ okE S a x = true ∧ okE S b y = true ∧ okE S c z = true ∧ notSet z = true := by
  cases e <;> try (cases h; done)
  rename_i x ops ys p
  cases ops <;> try (cases h; done)
  rename_i o ops
  cases ops <;> try (cases h; done)
  rename_i o' ops
  cases ops <;> try (cases h; done)
  cases ys <;> try (cases h; done)
  rename_i y ys
  cases ys <;> try (cases h; done)
  rename_i z ys
  cases ys <;> try (cases h; done)
  have h' : (decide (op = o) && decide (op' = o') && okE S a x && okE S b y && okE S c z && notSet z) = true := h
  simp only [Bool.and_eq_true, decide_eq_true_eq, Bool.not_eq_true'] at h'
  obtain ⟨⟨⟨⟨⟨rfl, rfl⟩, h1⟩, h2⟩, h3⟩, h4⟩ := h'
  exact ⟨x, y, z, p, rfl, h1, h2, h3, h4⟩
theorem inv_and1 {S : Stc} {a : CE} {e : Expr} (h : okE S (.and1 a) e = true) : ∃ x p, e = .BoolOp .And [x] p ∧ okE S a x = true := by
  cases e <;> try (cases h; done)
  rename_i o xs p
  cases o <;> try (cases h; done)
  cases xs <;> try (cases h; done)
  rename_i x xs
  cases xs <;> try (cases h; done)
  have h' : (okE S a x) = true := h
  skip
  exact ⟨x, p, rfl, h'⟩
theorem inv_and {S : Stc} {a b : CE} {e : Expr} (h : okE S (.and a b) e = true) : ∃ x y r p, e = .BoolOp .And (x :: y :: r) p ∧ okE S a x = true ∧ okE S b (.BoolOp .And (y :: r) p) = true := by
  cases e <;> try (cases h; done)
  rename_i o xs p
  cases o <;> try (cases h; done)
  cases xs <;> try (cases h; done)
  rename_i x xs
  cases xs <;> try (cases h; done)
  rename_i y xs
  have h' : (okE S a x && okE S b (.BoolOp .And (y :: xs) p)) = true := h
  simp only [Bool.and_eq_true, decide_eq_true_eq, Bool.not_eq_true'] at h'
  exact ⟨x, y, xs, p, rfl, h'.1, h'.2⟩
theorem inv_or1 {S : Stc} {a : CE} {e : Expr} (h : okE S (.or1 a) e = true) : ∃ x p, e = .BoolOp .Or [x] p ∧ okE S a x = true := by
  cases e <;> try (cases h; done)
  rename_i o xs p
  cases o <;> try (cases h; done)
  cases xs <;> try (cases h; done)
  rename_i x xs
  cases xs <;> try (cases h; done)
  have h' : (okE S a x) = true := h
  skip
  exact ⟨x, p, rfl, h'⟩
theorem inv_or {S : Stc} {a b : CE} {e : Expr} (h : okE S (.or a b) e = true) : ∃ x y r p, e = .BoolOp .Or (x :: y :: r) p ∧ okE S a x = true ∧ okE S b (.BoolOp .Or (y :: r) p) = true := by
  cases e <;> try (cases h; done)
  rename_i o xs p
  cases o <;> try (cases h; done)
  cases xs <;> try (cases h; done)
  rename_i x xs
  cases xs <;> try (cases h; done)
  rename_i y xs
  have h' : (okE S a x && okE S b (.BoolOp .Or (y :: xs) p)) = true := h
  simp only [Bool.and_eq_true, decide_eq_true_eq, Bool.not_eq_true'] at h'
  exact ⟨x, y, xs, p, rfl, h'.1, h'.2⟩
theorem inv_ife {S : Stc} {c a b : CE} {e : Expr} (h : okE S (.ife c a b) e = true) : ∃ x y z p, e = .IfExp x y z p ∧ okE S c x = true ∧ okE S a y = true ∧ okE S b z = true := by
  cases e <;> try (cases h; done)
  rename_i x y z p
  have h' : (okE S c x && okE S a y && okE S b z) = true := h
  simp only [Bool.and_eq_true, decide_eq_true_eq, Bool.not_eq_true'] at h'
  exact ⟨x, y, z, p, rfl, h'.1.1, h'.1.2, h'.2⟩
theorem inv_tup {S : Stc} {es : CA} {e : Expr} (h : okE S (.tup es) e = true) : ∃ xs k p, e = .Tuple xs k p ∧ okA S es xs = true := by
  cases e <;> try (cases h; done)
  rename_i xs k p
  have h' : (okA S es xs) = true := h
  skip
  exact ⟨xs, k, p, rfl, h'⟩
theorem inv_lst {S : Stc} {es : CA} {e : Expr} (h : okE S (.lst es) e = true) : ∃ xs p, e = .List xs p ∧ okA S es xs = true := by
  cases e <;> try (cases h; done)
  rename_i xs p
  have h' : (okA S es xs) = true := h
  skip
  exact ⟨xs, p, rfl, h'⟩
theorem inv_dct {S : Stc}  {e : Expr} (h : okE S (.dct) e = true) : ∃ p, e = .Dict [] [] p := by
  cases e <;> try (cases h; done)
  rename_i ks vs p
  cases ks <;> try (cases h; done)
  cases vs <;> try (cases h; done)
  exact ⟨p, rfl⟩
theorem inv_call {S : Stc} {f : Nat} {es : CA} {e : Expr} (h : okE S (.call f es) e = true) : ∃ px y ys p, e = .Call (.Name (S.T.fn f) px) (y :: ys) [] p ∧ S.T.isf f = true ∧ S.gl (S.T.fn f) = true ∧ plainN (S.T.fn f) = true ∧ okA S es (y :: ys) = true := by
  cases e <;> try (cases h; done)
  rename_i g ys kws p
  cases g <;> try (cases h; done)
  rename_i x px
  cases ys <;> try (cases h; done)
  rename_i y ys
  cases kws <;> try (cases h; done)
  have h' : (S.T.isf f && decide (x = S.T.fn f) && S.gl x && plainN x && okA S es (y :: ys)) = true := h
  simp only [Bool.and_eq_true, decide_eq_true_eq, Bool.not_eq_true'] at h'
  obtain ⟨⟨⟨⟨h0, rfl⟩, h1⟩, h2⟩, h3⟩ := h'
  exact ⟨px, y, ys, p, rfl, h0, h1, h2, h3⟩
theorem inv_bi {S : Stc} {f : Bi} {es : CA} {e : Expr} (h : okE S (.bi f es) e = true) : ∃ px y ys p, e = .Call (.Name f.name px) (y :: ys) [] p ∧ S.gl f.name = true ∧ okA S es (y :: ys) = true := by
  cases e <;> try (cases h; done)
  rename_i g ys kws p
  cases g <;> try (cases h; done)
  rename_i x px
  cases ys <;> try (cases h; done)
  rename_i y ys
  cases kws <;> try (cases h; done)
  have h' : (decide (x = f.name) && S.gl x && okA S es (y :: ys)) = true := h
  simp only [Bool.and_eq_true, decide_eq_true_eq, Bool.not_eq_true'] at h'
  obtain ⟨⟨rfl, h1⟩, h2⟩ := h'
  exact ⟨px, y, ys, p, rfl, h1, h2⟩
theorem inv_mk {S : Stc} {c : Nat} {es : CA} {e : Expr} (h : okE S (.mk c es) e = true) : ∃ px ys p, e = .Call (.Name (S.T.cl c) px) ys [] p ∧ S.T.ism c = true ∧ S.gl (S.T.cl c) = true ∧ plainN (S.T.cl c) = true ∧ okA S es ys = true := by
  cases e <;> try (cases h; done)
  rename_i g ys kws p
  cases g <;> try (cases h; done)
  rename_i x px
  cases kws <;> try (cases h; done)
  have h' : (S.T.ism c && decide (x = S.T.cl c) && S.gl x && plainN x && okA S es ys) = true := h
  simp only [Bool.and_eq_true, decide_eq_true_eq, Bool.not_eq_true'] at h'
  obtain ⟨⟨⟨⟨h0, rfl⟩, h1⟩, h2⟩, h3⟩ := h'
  exact ⟨px, ys, p, rfl, h0, h1, h2, h3⟩
theorem inv_mth {S : Stc} {o : CE} {m : Nat} {es : CA} {e : Expr} (h : okE S (.mth o m es) e = true) : ∃ x ap ys cp, e = .Call (.Attribute x (S.T.me m) ap) ys [] cp ∧ (ap.endLine == cp.line) = true ∧ notSuper x = true ∧ ys.length < 30 ∧ okE S o x = true ∧ okA S es ys = true := by
  cases e <;> try (cases h; done)
  rename_i g ys kws cp
  cases g <;> try (cases h; done)
  rename_i x n ap
  cases kws <;> try (cases h; done)
  have h' : (decide (n = S.T.me m) && (ap.endLine == cp.line) && notSuper x && decide (ys.length < 30) && okE S o x && okA S es ys) = true := h
  simp only [Bool.and_eq_true, decide_eq_true_eq, Bool.not_eq_true'] at h'
  obtain ⟨⟨⟨⟨⟨rfl, h0⟩, h1⟩, h2⟩, h3⟩, h4⟩ := h'
  exact ⟨x, ap, ys, cp, rfl, h0, h1, h2, h3, h4⟩
theorem inv_bm {S : Stc} {o : CE} {m : Bm} {es : CA} {e : Expr} (h : okE S (.bm m o es) e = true) : ∃ x ap ys cp, e = .Call (.Attribute x m.name ap) ys [] cp ∧ (ap.endLine == cp.line) = true ∧ notSuper x = true ∧ ys.length < 30 ∧ okE S o x = true ∧ okA S es ys = true := by
  cases e <;> try (cases h; done)
  rename_i g ys kws cp
  cases g <;> try (cases h; done)
  rename_i x n ap
  cases kws <;> try (cases h; done)
  have h' : (decide (n = m.name) && (ap.endLine == cp.line) && notSuper x && decide (ys.length < 30) && okE S o x && okA S es ys) = true := h
  simp only [Bool.and_eq_true, decide_eq_true_eq, Bool.not_eq_true'] at h'
  obtain ⟨⟨⟨⟨⟨rfl, h0⟩, h1⟩, h2⟩, h3⟩, h4⟩ := h'
  exact ⟨x, ap, ys, cp, rfl, h0, h1, h2, h3, h4⟩
theorem inv_idx {S : Stc} {a i : CE} {e : Expr} (h : okE S (.idx a i) e = true) : ∃ x y p, e = .Subscript x y p ∧ notSlice y = true ∧ okE S a x = true ∧ okE S i y = true := by
  cases e <;> try (cases h; done)
  rename_i x y p
  have h' : (notSlice y && okE S a x && okE S i y) = true := h
  simp only [Bool.and_eq_true, decide_eq_true_eq, Bool.not_eq_true'] at h'
  exact ⟨x, y, p, rfl, h'.1.1, h'.1.2, h'.2⟩
theorem inv_slc {S : Stc} {a : CE} {lo hi : CO} {e : Expr} (h : okE S (.slc a lo hi) e = true) : ∃ x l u q p, e = .Subscript x (.Slice l u none q) p ∧ okE S a x = true ∧ okO S lo l = true ∧ okO S hi u = true := by
  cases e <;> try (cases h; done)
  rename_i x y p
  cases y <;> try (cases h; done)
  rename_i l u t q
  cases t <;> try (cases h; done)
  have h' : (okE S a x && okO S lo l && okO S hi u) = true := h
  simp only [Bool.and_eq_true, decide_eq_true_eq, Bool.not_eq_true'] at h'
  exact ⟨x, l, u, q, p, rfl, h'.1.1, h'.1.2, h'.2⟩
theorem inv_fld {S : Stc} {o : CE} {f : Nat} {e : Expr} (h : okE S (.fld o f) e = true) : ∃ x p, e = .Attribute x (S.T.fl f) p ∧ f < S.T.nf ∧ notSuper x = true ∧ okE S o x = true := by
  cases e <;> try (cases h; done)
  rename_i x n p
  have h' : (decide (f < S.T.nf) && decide (n = S.T.fl f) && notSuper x && okE S o x) = true := h
  simp only [Bool.and_eq_true, decide_eq_true_eq, Bool.not_eq_true'] at h'
  obtain ⟨⟨⟨h0, rfl⟩, h1⟩, h2⟩ := h'
  exact ⟨x, p, rfl, h0, h1, h2⟩
theorem inv_lc {S : Stc} {own : List Nat} {t : CT} {it : CI} {ifs : CA} {c : CE} {e : Expr} (h : okE S (.lc own t it ifs c) e = true) :
    ∃ el scope p tg iter is, e = .ListComp el [⟨tg, iter, is, 0⟩] scope p ∧ blkC S.N S.sc scope (own.map fun i => (S.N.getD i "", i)) = true ∧ (t.slots.all fun i => own.contains i) = true ∧ notSet iter = true ∧ okI S it tg iter = true ∧
      okG ⟨S.T, S.N, relS scope S.sc, some scope⟩ t tg = true ∧ okTs ⟨S.T, S.N, relS scope S.sc, some scope⟩ ifs is = true ∧ okE ⟨S.T, S.N, relS scope S.sc, some scope⟩ c el = true := by
  cases e <;> try (cases h; done)
  rename_i el gs scope p
  cases gs with
  | nil => cases h
  | cons g gs =>
    obtain ⟨tg, iter, is, a⟩ := g
    cases gs with
    | cons _ _ =>
      exfalso
      cases a with
      | ofNat n => cases n <;> (cases h; done)
      | negSucc n => cases h
    | nil =>
      cases a with
      | negSucc n => cases h
      | ofNat n =>
        cases n with
        | succ n => cases h
        | zero =>
          have h' : (blkC S.N S.sc scope (own.map fun i => (S.N.getD i "", i)) && (t.slots.all fun i => own.contains i) && notSet iter && okI S it tg iter && okG ⟨S.T, S.N, relS scope S.sc, some scope⟩ t tg && okTs ⟨S.T, S.N, relS scope S.sc, some scope⟩ ifs is && okE ⟨S.T, S.N, relS scope S.sc, some scope⟩ c el) = true := h
          simp only [Bool.and_eq_true] at h'
          obtain ⟨⟨⟨⟨⟨⟨h1, h2⟩, h3⟩, h4⟩, h5⟩, h6⟩, h7⟩ := h'
          exact ⟨el, scope, p, tg, iter, is, rfl, h1, h2, h3, h4, h5, h6, h7⟩
theorem inv_isi {S : Stc} {x : CE} {cs : List Nat} {e : Expr} (h : okE S (.isi x cs) e = true) : ∃ px a p, S.gl "isinstance" = true ∧ okE S x a = true ∧ notStar a = true ∧
    ((∃ ys k q, e = .Call (.Name "isinstance" px) [a, .Tuple ys k q] [] p ∧ okCls S cs ys = true) ∨ ∃ c y, cs = [c] ∧ e = .Call (.Name "isinstance" px) [a, y] [] p ∧ notStar y = true ∧ okCl S c y = true) := by
  cases e <;> try (cases h; done)
  rename_i g ys kws p
  cases g <;> try (cases h; done)
  rename_i n px
  cases ys <;> try (cases h; done)
  rename_i a ys
  cases ys <;> try (cases h; done)
  rename_i b ys
  cases ys with
  | cons z zs => cases b <;> (cases h; done)
  | nil =>
    cases kws with
    | cons z zs => cases b <;> (cases h; done)
    | nil =>
      have one : (decide (n = ("isinstance" : Str)) && S.gl n && okE S x a && notStar a && notStar b && okC1 S cs b) = true → ∃ px a' p', S.gl "isinstance" = true ∧ okE S x a' = true ∧ notStar a' = true ∧
    ((∃ ys k q, Expr.Call (.Name n px) [a, b] [] p = .Call (.Name "isinstance" px) [a', .Tuple ys k q] [] p' ∧ okCls S cs ys = true) ∨ ∃ c y, cs = [c] ∧ Expr.Call (.Name n px) [a, b] [] p = .Call (.Name "isinstance" px) [a', y] [] p' ∧ notStar y = true ∧ okCl S c y = true) := fun h' => by
        simp only [Bool.and_eq_true, decide_eq_true_eq] at h'
        obtain ⟨⟨⟨⟨⟨rfl, h1⟩, h2⟩, h3⟩, h4⟩, h5⟩ := h'
        cases cs with
        | nil => cases h5
        | cons c cs =>
          cases cs with
          | cons _ _ => cases h5
          | nil => exact ⟨px, a, p, h1, h2, h3, .inr ⟨c, b, rfl, rfl, h4, h5⟩⟩
      cases b with
      | Tuple zs k q =>
        have h' : (decide (n = ("isinstance" : Str)) && S.gl n && okE S x a && notStar a && okCls S cs zs) = true := h
        simp only [Bool.and_eq_true, decide_eq_true_eq] at h'
        obtain ⟨⟨⟨⟨rfl, h1⟩, h2⟩, h3⟩, h4⟩ := h'
        exact ⟨px, a, p, h1, h2, h3, .inl ⟨zs, k, q, rfl, h4⟩⟩
      | _ =>
        obtain ⟨px', a', p', g1, g2, g3, g4⟩ := one h
        rcases g4 with ⟨ys, k, q, g4, g5⟩ | ⟨c, y, g4, g5, g6, g7⟩
        · cases g4
        · cases g5
          exact ⟨px, a, p, g1, g2, g3, .inr ⟨c, _, g4, rfl, g6, g7⟩⟩
theorem inv_anil {S : Stc}  {es : List Expr} (h : okA S .nil es = true) : es = [] := by
  cases es <;> try (cases h; done)
  rfl
theorem inv_acons {S : Stc} {a : CE} {as : CA} {es : List Expr} (h : okA S (.cons a as) es = true) : ∃ x xs, es = x :: xs ∧ notStar x = true ∧ okE S a x = true ∧ okA S as xs = true := by
  cases es <;> try (cases h; done)
  rename_i x xs
  have h' : (notStar x && okE S a x && okA S as xs) = true := h
  simp only [Bool.and_eq_true, decide_eq_true_eq, Bool.not_eq_true'] at h'
  exact ⟨x, xs, rfl, h'.1.1, h'.1.2, h'.2⟩
theorem inv_tnil {S : Stc}  {es : List Expr} (h : okTs S .nil es = true) : es = [] := by
  cases es <;> try (cases h; done)
  rfl
theorem inv_tcons {S : Stc} {a : CE} {as : CA} {es : List Expr} (h : okTs S (.cons a as) es = true) : ∃ x, es = [x] ∧ okE S a x = true := by
  cases as <;> try (cases h; done)
  cases es <;> try (cases h; done)
  rename_i x xs
  cases xs <;> try (cases h; done)
  exact ⟨x, rfl, h⟩
theorem inv_ono {S : Stc}  {o : Option Expr} (h : okO S .no o = true) : o = none := by
  cases o <;> try (cases h; done)
  rfl
theorem inv_oyes {S : Stc} {a : CE} {o : Option Expr} (h : okO S (.yes a) o = true) : ∃ x, o = some x ∧ okE S a x = true := by
  cases o <;> try (cases h; done)
  rename_i x
  have h' : (okE S a x) = true := h
  skip
  exact ⟨x, rfl, h'⟩
theorem inv_rng1 {S : Stc} {a : CE} {tg e : Expr} (h : okI S (.rng1 a) tg e = true) : ∃ px x p, e = .Call (.Name "range" px) [x] [] p ∧ S.gl "range" = true ∧ notStar x = true ∧ okE S a x = true := by
  cases e <;> try (cases h; done)
  rename_i g ys kws p
  cases g <;> try (cases h; done)
  rename_i n px
  cases ys <;> try (cases h; done)
  rename_i x ys
  cases ys <;> try (cases h; done)
  cases kws <;> try (cases h; done)
  have h' : (decide (n = ("range" : Str)) && S.gl n && notStar x && okE S a x) = true := h
  simp only [Bool.and_eq_true, decide_eq_true_eq] at h'
  obtain ⟨⟨⟨rfl, g⟩, s0⟩, h0⟩ := h'
  exact ⟨px, x, p, rfl, g, s0, h0⟩
theorem inv_rng2 {S : Stc} {a b : CE} {tg e : Expr} (h : okI S (.rng2 a b) tg e = true) : ∃ px x y p, e = .Call (.Name "range" px) [x, y] [] p ∧ S.gl "range" = true ∧ notStar x = true ∧ notStar y = true ∧ okE S a x = true ∧ okE S b y = true := by
  cases e <;> try (cases h; done)
  rename_i g ys kws p
  cases g <;> try (cases h; done)
  rename_i n px
  cases ys <;> try (cases h; done)
  rename_i x ys
  cases ys <;> try (cases h; done)
  rename_i y ys
  cases ys <;> try (cases h; done)
  cases kws <;> try (cases h; done)
  have h' : (decide (n = ("range" : Str)) && S.gl n && notStar x && notStar y && okE S a x && okE S b y) = true := h
  simp only [Bool.and_eq_true, decide_eq_true_eq] at h'
  obtain ⟨⟨⟨⟨⟨rfl, g⟩, s0⟩, s1⟩, h0⟩, h1⟩ := h'
  exact ⟨px, x, y, p, rfl, g, s0, s1, h0, h1⟩
theorem inv_rng3 {S : Stc} {a b c : CE} {tg e : Expr} (h : okI S (.rng3 a b c) tg e = true) : ∃ px x y z p, e = .Call (.Name "range" px) [x, y, z] [] p ∧ S.gl "range" = true ∧ notStar x = true ∧ notStar y = true ∧ notStar z = true ∧ okE S a x = true ∧ okE S b y = true ∧ okE S c z = true := by
  cases e <;> try (cases h; done)
  rename_i g ys kws p
  cases g <;> try (cases h; done)
  rename_i n px
  cases ys <;> try (cases h; done)
  rename_i x ys
  cases ys <;> try (cases h; done)
  rename_i y ys
  cases ys <;> try (cases h; done)
  rename_i z ys
  cases ys <;> try (cases h; done)
  cases kws <;> try (cases h; done)
  have h' : (decide (n = ("range" : Str)) && S.gl n && notStar x && notStar y && notStar z && okE S a x && okE S b y && okE S c z) = true := h
  simp only [Bool.and_eq_true, decide_eq_true_eq] at h'
  obtain ⟨⟨⟨⟨⟨⟨⟨rfl, g⟩, s0⟩, s1⟩, s2⟩, h0⟩, h1⟩, h2⟩ := h'
  exact ⟨px, x, y, z, p, rfl, g, s0, s1, s2, h0, h1, h2⟩
theorem inv_enum {S : Stc} {a : CE} {tg e : Expr} (h : okI S (.enum a) tg e = true) : ∃ elts kk tpos px x p, tg = .Tuple elts kk tpos ∧ e = .Call (.Name "enumerate" px) [x] [] p ∧ S.gl "enumerate" = true ∧ notStar x = true ∧ okE S a x = true := by
  cases tg <;> try (cases h; done)
  rename_i elts kk tpos
  cases e <;> try (cases h; done)
  rename_i g ys kws p
  cases g <;> try (cases h; done)
  rename_i n px
  cases ys <;> try (cases h; done)
  rename_i x ys
  cases ys <;> try (cases h; done)
  cases kws <;> try (cases h; done)
  have h' : (decide (n = ("enumerate" : Str)) && S.gl n && notStar x && okE S a x) = true := h
  simp only [Bool.and_eq_true, decide_eq_true_eq] at h'
  obtain ⟨⟨⟨rfl, g⟩, s0⟩, h0⟩ := h'
  exact ⟨elts, kk, tpos, px, x, p, rfl, rfl, g, s0, h0⟩
theorem inv_zip {S : Stc} {a b : CE} {tg e : Expr} (h : okI S (.zip a b) tg e = true) : ∃ elts kk tpos px x y p, tg = .Tuple elts kk tpos ∧ e = .Call (.Name "zip" px) [x, y] [] p ∧ S.gl "zip" = true ∧ notStar x = true ∧ notStar y = true ∧ okE S a x = true ∧ okE S b y = true := by
  cases tg <;> try (cases h; done)
  rename_i elts kk tpos
  cases e <;> try (cases h; done)
  rename_i g ys kws p
  cases g <;> try (cases h; done)
  rename_i n px
  cases ys <;> try (cases h; done)
  rename_i x ys
  cases ys <;> try (cases h; done)
  rename_i y ys
  cases ys <;> try (cases h; done)
  cases kws <;> try (cases h; done)
  have h' : (decide (n = ("zip" : Str)) && S.gl n && notStar x && notStar y && okE S a x && okE S b y) = true := h
  simp only [Bool.and_eq_true, decide_eq_true_eq] at h'
  obtain ⟨⟨⟨⟨⟨rfl, g⟩, s0⟩, s1⟩, h0⟩, h1⟩ := h'
  exact ⟨elts, kk, tpos, px, x, y, p, rfl, rfl, g, s0, s1, h0, h1⟩
theorem inv_rev {S : Stc} {a : CE} {tg e : Expr} (h : okI S (.rev a) tg e = true) : ∃ px x p, e = .Call (.Name "reversed" px) [x] [] p ∧ S.gl "reversed" = true ∧ notStar x = true ∧ okE S a x = true := by
  cases e <;> try (cases h; done)
  rename_i g ys kws p
  cases g <;> try (cases h; done)
  rename_i n px
  cases ys <;> try (cases h; done)
  rename_i x ys
  cases ys <;> try (cases h; done)
  cases kws <;> try (cases h; done)
  have h' : (decide (n = ("reversed" : Str)) && S.gl n && notStar x && okE S a x) = true := h
  simp only [Bool.and_eq_true, decide_eq_true_eq] at h'
  obtain ⟨⟨⟨rfl, g⟩, s0⟩, h0⟩ := h'
  exact ⟨px, x, p, rfl, g, s0, h0⟩
theorem inv_gname {S : Stc} {i : Nat} {e : Expr} (h : okG S (.name i) e = true) : ∃ x p, e = .Name x p ∧ S.ix i x = true ∧ S.sto x = true := by
  cases e <;> try (cases h; done)
  rename_i x p
  have h' : (S.ix i x && S.sto x) = true := h
  simp only [Bool.and_eq_true, decide_eq_true_eq, Bool.not_eq_true'] at h'
  exact ⟨x, p, rfl, h'.1, h'.2⟩
theorem inv_gtup {S : Stc} {ts : CTs} {e : Expr} (h : okG S (.tup ts) e = true) : ∃ xs k p, e = .Tuple xs k p ∧ okGs S ts xs = true := by
  cases e <;> try (cases h; done)
  rename_i xs k p
  have h' : (okGs S ts xs) = true := h
  skip
  exact ⟨xs, k, p, rfl, h'⟩
theorem inv_gidx {S : Stc} {o i : CE} {e : Expr} (h : okG S (.idx o i) e = true) : ∃ x y p, e = .Subscript x y p ∧ notSlice y = true ∧ okE S o x = true ∧ okE S i y = true := by
  cases e <;> try (cases h; done)
  rename_i x y p
  have h' : (notSlice y && okE S o x && okE S i y) = true := h
  simp only [Bool.and_eq_true, decide_eq_true_eq, Bool.not_eq_true'] at h'
  exact ⟨x, y, p, rfl, h'.1.1, h'.1.2, h'.2⟩
theorem inv_gfld {S : Stc} {o : CE} {f : Nat} {e : Expr} (h : okG S (.fld o f) e = true) : ∃ x p, e = .Attribute x (S.T.fl f) p ∧ f < S.T.nf ∧ okE S o x = true := by
  cases e <;> try (cases h; done)
  rename_i x n p
  have h' : (decide (f < S.T.nf) && decide (n = S.T.fl f) && okE S o x) = true := h
  simp only [Bool.and_eq_true, decide_eq_true_eq, Bool.not_eq_true'] at h'
  obtain ⟨⟨h0, rfl⟩, h1⟩ := h'
  exact ⟨x, p, rfl, h0, h1⟩
theorem inv_gnil {S : Stc}  {es : List Expr} (h : okGs S .nil es = true) : es = [] := by
  cases es <;> try (cases h; done)
  rfl
theorem inv_gcons {S : Stc} {t : CT} {ts : CTs} {es : List Expr} (h : okGs S (.cons t ts) es = true) : ∃ x xs, es = x :: xs ∧ notStar x = true ∧ okG S t x = true ∧ okGs S ts xs = true := by
  cases es <;> try (cases h; done)
  rename_i x xs
  have h' : (notStar x && okG S t x && okGs S ts xs) = true := h
  simp only [Bool.and_eq_true, decide_eq_true_eq, Bool.not_eq_true'] at h'
  exact ⟨x, xs, rfl, h'.1.1, h'.1.2, h'.2⟩
theorem inv_skip {S : Stc} {s : Stmt} (h : okS S .skip s = true) : (∃ p, s = .Pass p) ∨ ∃ x j p q, s = .Expr (.Constant (.str x) j p) q := by
  cases s <;> try (cases h; done)
  · rename_i e q
    cases e <;> try (cases h; done)
    rename_i v j p
    cases v <;> try (cases h; done)
    exact .inr ⟨_, _, _, _, rfl⟩
  · exact .inl ⟨_, rfl⟩
theorem inv_set {S : Stc} {t : CT} {c : CE} {s : Stmt} (h : okS S (.set t c) s = true) : ∃ tg x p, s = .Assign [tg] x p ∧ notSD x = true ∧ tupOk tg x = true ∧ okG S t tg = true ∧ okE S c x = true := by
  cases s <;> try (cases h; done)
  rename_i ts x p
  cases ts <;> try (cases h; done)
  rename_i tg ts
  cases ts <;> try (cases h; done)
  have h' : (notSD x && tupOk tg x && okG S t tg && okE S c x) = true := h
  simp only [Bool.and_eq_true, decide_eq_true_eq, Bool.not_eq_true'] at h'
  exact ⟨tg, x, p, rfl, h'.1.1.1, h'.1.1.2, h'.1.2, h'.2⟩
theorem inv_par {S : Stc} {i j : Nat} {a b : CE} {s : Stmt} (h : okS S (.par i j a b) s = true) : ∃ x px y py kt pt u v k2 p2 q, s = .Assign [.Tuple [.Name x px, .Name y py] kt pt] (.Tuple [u, v] k2 p2) q ∧ S.ix i x = true ∧ S.ix j y = true ∧ i ≠ j ∧ S.isLoc x = true ∧ S.isLoc y = true ∧ notStar u = true ∧ notStar v = true ∧ okE S a u = true ∧ okE S b v = true ∧ (px.line == py.line) = true ∧ (foldedForSure 8 u && foldedForSure 8 v) = false ∧ (constantsAlone 8 u && constantsAlone 8 v) = false := by
  cases s <;> try (cases h; done)
  rename_i ts vv q
  cases ts <;> try (cases h; done)
  rename_i tt ts
  cases tt <;> try (cases h; done)
  rename_i ns kt pt
  cases ns <;> try (cases h; done)
  rename_i n1 ns
  cases n1 <;> try (cases h; done)
  rename_i x px
  cases ns <;> try (cases h; done)
  rename_i n2 ns
  cases n2 <;> try (cases h; done)
  rename_i y py
  cases ns <;> try (cases h; done)
  cases ts <;> try (cases h; done)
  cases vv <;> try (cases h; done)
  rename_i us k2 p2
  cases us <;> try (cases h; done)
  rename_i u us
  cases us <;> try (cases h; done)
  rename_i v us
  cases us <;> try (cases h; done)
  have h' : (S.ix i x && S.ix j y && decide (i ≠ j) && S.isLoc x && S.isLoc y && notStar u && notStar v && okE S a u && okE S b v && (px.line == py.line) && !(foldedForSure 8 u && foldedForSure 8 v) && !(constantsAlone 8 u && constantsAlone 8 v)) = true := h
  simp only [Bool.and_eq_true, decide_eq_true_eq, Bool.not_eq_true'] at h'
  obtain ⟨⟨⟨⟨⟨⟨⟨⟨⟨⟨⟨h1, h2⟩, h3⟩, h4⟩, h5⟩, h6⟩, h7⟩, h8⟩, h9⟩, h10⟩, h11⟩, h12⟩ := h'
  exact ⟨x, px, y, py, kt, pt, u, v, k2, p2, q, rfl, h1, h2, h3, h4, h5, h6, h7, h8, h9, h10, h11, h12⟩
theorem inv_aug {S : Stc} {i : Nat} {op : Operator} {c : CE} {s : Stmt} (h : okS S (.aug i op c) s = true) : ∃ x px y p, s = .AugAssign (.Name x px) op y p ∧ S.ix i x = true ∧ S.sto x = true ∧ okE S c y = true := by
  cases s <;> try (cases h; done)
  rename_i t o y p
  cases t <;> try (cases h; done)
  rename_i x px
  have h' : (S.ix i x && S.sto x && decide (op = o) && okE S c y) = true := h
  simp only [Bool.and_eq_true, decide_eq_true_eq, Bool.not_eq_true'] at h'
  obtain ⟨⟨⟨h1, h2⟩, rfl⟩, h3⟩ := h'
  exact ⟨x, px, y, p, rfl, h1, h2, h3⟩
theorem inv_expr {S : Stc} {c : CE} {s : Stmt} (h : okS S (.expr c) s = true) : ∃ x p, s = .Expr x p ∧ notComp x = true ∧ okE S c x = true := by
  cases s <;> try (cases h; done)
  rename_i x p
  have h' : (notComp x && okE S c x) = true := h
  simp only [Bool.and_eq_true, decide_eq_true_eq, Bool.not_eq_true'] at h'
  exact ⟨x, p, rfl, h'.1, h'.2⟩
theorem inv_ret {S : Stc} {c : CE} {s : Stmt} (h : okS S (.ret c) s = true) : ∃ x p, s = .Return (some x) p ∧ okE S c x = true := by
  cases s <;> try (cases h; done)
  rename_i v p
  cases v <;> try (cases h; done)
  rename_i x
  have h' : (okE S c x) = true := h
  skip
  exact ⟨x, p, rfl, h'⟩
theorem inv_retN {S : Stc}  {s : Stmt} (h : okS S (.retN) s = true) : ∃ p, s = .Return none p := by
  cases s <;> try (cases h; done)
  rename_i v p
  cases v <;> try (cases h; done)
  exact ⟨p, rfl⟩
theorem inv_brk {S : Stc}  {s : Stmt} (h : okS S (.brk) s = true) : ∃ p, s = .Break p := by
  cases s <;> try (cases h; done)
  rename_i p
  exact ⟨p, rfl⟩
theorem inv_cnt {S : Stc}  {s : Stmt} (h : okS S (.cnt) s = true) : ∃ p, s = .Continue p := by
  cases s <;> try (cases h; done)
  rename_i p
  exact ⟨p, rfl⟩
theorem inv_if {S : Stc} {c : CE} {a b : CB} {s : Stmt} (h : okS S (.ife c a b) s = true) : ∃ x y z p, s = .If x y z p ∧ okE S c x = true ∧ okB S a y = true ∧ okB S b z = true := by
  cases s <;> try (cases h; done)
  rename_i x y z p
  have h' : (okE S c x && okB S a y && okB S b z) = true := h
  simp only [Bool.and_eq_true, decide_eq_true_eq, Bool.not_eq_true'] at h'
  exact ⟨x, y, z, p, rfl, h'.1.1, h'.1.2, h'.2⟩
theorem inv_whl {S : Stc} {c : CE} {b : CB} {s : Stmt} (h : okS S (.whl c b) s = true) : ∃ x y p, s = .While x y [] p ∧ okE S c x = true ∧ okB S b y = true := by
  cases s <;> try (cases h; done)
  rename_i x y z p
  cases z <;> try (cases h; done)
  have h' : (okE S c x && okB S b y) = true := h
  simp only [Bool.and_eq_true, decide_eq_true_eq, Bool.not_eq_true'] at h'
  exact ⟨x, y, p, rfl, h'.1, h'.2⟩
theorem inv_for {S : Stc} {t : CT} {it : CI} {b : CB} {s : Stmt} (h : okS S (.for t it b) s = true) : ∃ tg iter y p, s = .For tg iter y [] p ∧ notSet iter = true ∧ okG S t tg = true ∧ okI S it tg iter = true ∧ okB S b y = true := by
  cases s <;> try (cases h; done)
  rename_i tg iter y z p
  cases z <;> try (cases h; done)
  have h' : (notSet iter && okG S t tg && okI S it tg iter && okB S b y) = true := h
  simp only [Bool.and_eq_true, decide_eq_true_eq, Bool.not_eq_true'] at h'
  exact ⟨tg, iter, y, p, rfl, h'.1.1.1, h'.1.1.2, h'.1.2, h'.2⟩
theorem inv_rse {S : Stc} {c : Nat} {s : Stmt} (h : okS S (.rse c) s = true) : ∃ px z kk r q p, s = .Raise (some (.Call (.Name (S.T.xl c) px) [.Constant (.str z) kk r] [] q)) none p ∧ c < S.T.nx ∧ S.gl (S.T.xl c) = true ∧ plainN (S.T.xl c) = true := by
  cases s <;> try (cases h; done)
  rename_i ex cz p
  cases ex <;> try (cases h; done)
  rename_i e
  cases e <;> try (cases h; done)
  rename_i g ys kws q
  cases g <;> try (cases h; done)
  rename_i x px
  cases ys <;> try (cases h; done)
  rename_i y ys
  cases y <;> try (cases h; done)
  rename_i v kk r
  cases v <;> try (cases h; done)
  rename_i z
  cases ys <;> try (cases h; done)
  cases kws <;> try (cases h; done)
  cases cz <;> try (cases h; done)
  have h' : (decide (c < S.T.nx) && decide (x = S.T.xl c) && S.gl x && plainN x) = true := h
  simp only [Bool.and_eq_true, decide_eq_true_eq, Bool.not_eq_true'] at h'
  obtain ⟨⟨⟨h0, rfl⟩, h1⟩, h2⟩ := h'
  exact ⟨px, z, kk, r, q, p, rfl, h0, h1, h2⟩
theorem inv_trxN {S : Stc} {b : CB} {h0 : Nat} {xs : XS} {s : Stmt} (h : okS S (.trx b none h0 xs) s = true) : ∃ body px e p' p, s = .Try body [.ExceptHandler (some (.Name (S.T.xl h0) px)) none [e] p'] [] [] p ∧ h0 < S.T.nx ∧ S.gl (S.T.xl h0) = true ∧ plainN (S.T.xl h0) = true ∧ S.own = none ∧ okB S b body = true ∧ okXS S none xs e = true := by
  cases s <;> try (cases h; done)
  rename_i body hs orelse fin p
  cases hs <;> try (cases h; done)
  rename_i hd hs
  cases hd <;> try (cases h; done)
  rename_i ty nm bd p'
  cases ty <;> try (cases h; done)
  rename_i t
  cases t <;> try (cases h; done)
  rename_i x px
  cases nm <;> try (cases h; done)
  cases bd <;> try (cases h; done)
  rename_i e es
  cases es <;> try (cases h; done)
  cases hs <;> try (cases h; done)
  cases orelse <;> try (cases h; done)
  cases fin <;> try (cases h; done)
  have h' : (decide (h0 < S.T.nx) && decide (x = S.T.xl h0) && S.gl x && plainN x && S.own.isNone && okB S b body && okXS S none xs e) = true := h
  simp only [Bool.and_eq_true, decide_eq_true_eq, Bool.not_eq_true'] at h'
  obtain ⟨⟨⟨⟨⟨⟨a0, rfl⟩, a1⟩, a2⟩, a3⟩, a4⟩, a5⟩ := h'
  exact ⟨body, px, e, p', p, rfl, a0, a1, a2, Option.isNone_iff_eq_none.mp a3, a4, a5⟩
theorem inv_trxS {S : Stc} {b : CB} {i h0 : Nat} {xs : XS} {s : Stmt} (h : okS S (.trx b (some i) h0 xs) s = true) : ∃ body px n e p' p, s = .Try body [.ExceptHandler (some (.Name (S.T.xl h0) px)) (some n) [e] p'] [] [] p ∧ h0 < S.T.nx ∧ S.gl (S.T.xl h0) = true ∧ plainN (S.T.xl h0) = true ∧ S.locI i n = true ∧ S.own = none ∧ okB S b body = true ∧ okXS S (some i) xs e = true := by
  cases s <;> try (cases h; done)
  rename_i body hs orelse fin p
  cases hs <;> try (cases h; done)
  rename_i hd hs
  cases hd <;> try (cases h; done)
  rename_i ty nm bd p'
  cases ty <;> try (cases h; done)
  rename_i t
  cases t <;> try (cases h; done)
  rename_i x px
  cases nm <;> try (cases h; done)
  rename_i n
  cases bd <;> try (cases h; done)
  rename_i e es
  cases es <;> try (cases h; done)
  cases hs <;> try (cases h; done)
  cases orelse <;> try (cases h; done)
  cases fin <;> try (cases h; done)
  have h' : (decide (h0 < S.T.nx) && decide (x = S.T.xl h0) && S.gl x && plainN x && S.locI i n && S.own.isNone && okB S b body && okXS S (some i) xs e) = true := h
  simp only [Bool.and_eq_true, decide_eq_true_eq, Bool.not_eq_true'] at h'
  obtain ⟨⟨⟨⟨⟨⟨⟨a0, rfl⟩, a1⟩, a2⟩, a6⟩, a3⟩, a4⟩, a5⟩ := h'
  exact ⟨body, px, n, e, p', p, rfl, a0, a1, a2, a6, Option.isNone_iff_eq_none.mp a3, a4, a5⟩
theorem inv_bnil {S : Stc}  {ss : List Stmt} (h : okB S .nil ss = true) : ss = [] := by
  cases ss <;> try (cases h; done)
  rfl
theorem inv_bcons {S : Stc} {c : CS} {b : CB} {ss : List Stmt} (h : okB S (.cons c b) ss = true) : ∃ x xs, ss = x :: xs ∧ okS S c x = true ∧ okB S b xs = true := by
  cases ss <;> try (cases h; done)
  rename_i x xs
  have h' : (okS S c x && okB S b xs) = true := h
  simp only [Bool.and_eq_true, decide_eq_true_eq, Bool.not_eq_true'] at h'
  exact ⟨x, xs, rfl, h'.1, h'.2⟩
end Mx

/-! Rules for any operation; names of classes; fields; stores. -/
namespace Mx
open PySem PySem.Spec PyProof.Rows L2

section
variable {K : PySem.W.Frag} {N : Nm} {X : WX} {ι ι' : List Addr} {H H' : Hp} {st : Store} {ρ : Loc} {σ : L2.St}
theorem rdE.mono {ev : Loc → Store → R W} {Q Q' : VK} (h : rdE K N X ev σ H Q) (g : ∀ v H', Q v H' → Q' v H') : rdE K N X ev σ H Q' :=
  let ⟨ι, st, ρ, S, r, q⟩ := h; ⟨ι, st, ρ, S, r, q.imp fun _ _ _ z v rv => g _ _ (z v rv)⟩
theorem rdT.mono {ev : Loc → Store → R Bool} {Q Q' : Bool → Hp → Prop} (h : rdT K N X ev σ H Q) (g : ∀ v H', Q v H' → Q' v H') : rdT K N X ev σ H Q' :=
  let ⟨ι, st, ρ, S, r, q⟩ := h; ⟨ι, st, ρ, S, r, q.imp fun _ _ _ z => g _ _ z⟩
theorem rdA.mono {ev : Loc → Store → R (List W)} {Q Q' : List V → Hp → Prop} (h : rdA K N X ev σ H Q) (g : ∀ v H', Q v H' → Q' v H') : rdA K N X ev σ H Q' :=
  let ⟨ι, st, ρ, S, r, q⟩ := h; ⟨ι, st, ρ, S, r, q.imp fun _ _ _ z v rv => g _ _ (z v rv)⟩
theorem rdO.mono {ev : Loc → Store → R (Option Int)} {Q Q' : Option Int → Hp → Prop} (h : rdO K N X ev σ H Q) (g : ∀ v H', Q v H' → Q' v H') : rdO K N X ev σ H Q' :=
  let ⟨ι, st, ρ, S, r, q⟩ := h; ⟨ι, st, ρ, S, r, q.imp fun _ _ _ z => g _ _ z⟩
theorem rdI.mono {ev : Loc → Store → R Iter} {Q Q' : It → Hp → Prop} (h : rdI K N X ev σ H Q) (g : ∀ v H', Q v H' → Q' v H') : rdI K N X ev σ H Q' :=
  let ⟨ι, st, ρ, S, r, q⟩ := h; ⟨ι, st, ρ, S, r, q.imp fun _ _ _ z v rv => g _ _ (z v rv)⟩
theorem rdG.mono {sl : List Nat} {ev : W → Loc → Store → R Loc} {v : V} {Q Q' : L2.St → Hp → Prop} (h : rdG K N X sl ev v σ H Q) (g : ∀ v H', Q v H' → Q' v H') : rdG K N X sl ev v σ H Q' :=
  let ⟨ι, st, ρ, w, S, r, p, q⟩ := h; ⟨ι, st, ρ, w, S, r, p, q.imp fun _ _ _ z σ' a b c => g _ _ (z σ' a b c)⟩
theorem rdGs.mono {sl : List Nat} {ev : List W → Loc → Store → R Loc} {v : List V} {Q Q' : L2.St → Hp → Prop} (h : rdGs K N X sl ev v σ H Q) (g : ∀ v H', Q v H' → Q' v H') : rdGs K N X sl ev v σ H Q' :=
  let ⟨ι, st, ρ, w, S, r, p, q⟩ := h; ⟨ι, st, ρ, w, S, r, p, q.imp fun _ _ _ z σ' a b c => g _ _ (z σ' a b c)⟩

theorem opt_ok {α : Type} {E : XK} {x : Option α} {P : α → List Addr → Hp → Prop} (h : resP K N ι H E (ofOpt x st) P) : ∃ a, x = some a ∧ resP K N ι H E (.ok a st) P := by
  cases x with
  | none => exact h.elim
  | some a => exact ⟨a, rfl, h⟩
theorem opt_bind {α β : Type} {E : XK} {x : Option α} {f : α → Store → R β} {P : β → List Addr → Hp → Prop} (h : resP K N ι H E ((ofOpt x st).bind f) P) : ∃ a, x = some a ∧ resP K N ι H E (f a st) P := by
  cases x with
  | none => exact h.elim
  | some a => exact ⟨a, rfl, h⟩
theorem RVs.head {w : W} {v : V} {ws : List W} {vs : List V} (h : RVs K ι H (w :: ws) (v :: vs)) : RV K ι H w v := by cases h; assumption
theorem RVs.tail {w : W} {v : V} {ws : List W} {vs : List V} (h : RVs K ι H (w :: ws) (v :: vs)) : RVs K ι H ws vs := by cases h; assumption
theorem RS.get (r : RS K ι H ρ σ) {i : Nat} {w : W} (h : ρ[i]? = some (some w)) : ∃ v, σ[i]? = some (some v) ∧ RV K ι H w v := r.2 i w h
theorem RS.set (r : RS K ι H ρ σ) {w : W} {v : V} (rv : RV K ι H w v) (i : Nat) : RS K ι H (ρ.set i (some w)) (σ.set i (some v)) := by
  refine ⟨by simp [r.1], fun j u e => ?_⟩
  by_cases hj : i = j
  · subst hj
    have hl : i < ρ.length := by
      have := (List.getElem?_eq_some_iff.mp e).1
      simpa using this
    rw [List.getElem?_set_self hl] at e
    cases e
    exact ⟨v, List.getElem?_set_self (by rw [← r.1]; exact hl), rv⟩
  · rw [List.getElem?_set_ne hj] at e
    obtain ⟨x, h1, h2⟩ := r.2 j u e
    exact ⟨x, by rw [List.getElem?_set_ne hj]; exact h1, h2⟩
theorem set_other {i : Nat} {x : Option V} {sl : List Nat} (h : i ∈ sl) : ∀ j, j ∉ sl → (σ.set i x)[j]? = σ[j]? := fun j hj => by
  rw [List.getElem?_set_ne (by intro e; subst e; exact hj h)]

/-! ### fields, items of dicts -/
theorem RFs.length {ws : List (Nat × W)} {vs : List (Str × V)} (r : RFs K N ι H ws vs) : ws.length = vs.length := by
  induction r with
  | nil => rfl
  | cons _ _ ih => simp [ih]
theorem RFs.look {ws : List (Nat × W)} {vs : List (Str × V)} (inj : ∀ f g, N.fld f = N.fld g → f = g) (r : RFs K N ι H ws vs) {f : Nat} {w : W} (h : ws.lookup f = some w) : ∃ v, vs.lookup (N.fld f) = some v ∧ RV K ι H w v := by
  induction r with
  | nil => cases h
  | @cons g u v ws vs hv t ih =>
    by_cases e : f = g
    · subst e
      rw [List.lookup_cons_self] at h
      cases h
      exact ⟨v, List.lookup_cons_self, hv⟩
    · rw [List.lookup_cons, show (f == g) = false from beq_eq_false_iff_ne.mpr e] at h
      obtain ⟨v', h1, h2⟩ := ih h
      refine ⟨v', ?_, h2⟩
      rw [List.lookup_cons, show (N.fld f == N.fld g) = false from beq_eq_false_iff_ne.mpr fun z => e (inj _ _ z)]
      exact h1
theorem RFs.no {ws : List (Nat × W)} {vs : List (Str × V)} {m : Str} (hm : ∀ f, N.fld f ≠ m) (r : RFs K N ι H ws vs) : vs.lookup m = none := by
  induction r with
  | nil => rfl
  | @cons g u v ws vs hv t ih =>
    rw [List.lookup_cons, show (m == N.fld g) = false from beq_eq_false_iff_ne.mpr fun z => hm g z.symm]
    exact ih
theorem RFs.put {ws : List (Nat × W)} {vs : List (Str × V)} (inj : ∀ f g, N.fld f = N.fld g → f = g) (r : RFs K N ι H ws vs) {f : Nat} {w : W} {v : V} (rv : RV K ι H w v) : RFs K N ι H (putFld f w ws) (putF (N.fld f) v vs) := by
  induction r with
  | nil => exact .cons rv .nil
  | @cons g u x ws vs hv t ih =>
    by_cases e : g = f
    · subst e
      simp only [putFld, putF, if_pos]
      exact .cons rv t
    · simp only [putFld, putF, if_neg e, if_neg (fun z => e (inj _ _ z))]
      exact .cons hv ih
theorem RKs.any {ws : List (Key × W)} {vs : List (Key × V)} (r : RKs K ι H ws vs) (k : Key) : (ws.any fun kv => decide (kv.1 = k)) = (vs.any fun kv => decide (kv.1 = k)) := by
  induction r with
  | nil => rfl
  | cons h t ih => simp only [List.any_cons, ih]
theorem RKs.put {ws : List (Key × W)} {vs : List (Key × V)} (r : RKs K ι H ws vs) {k : Key} {w : W} {v : V} (rv : RV K ι H w v) : RKs K ι H (putKW k w ws) (putK vs k v) := by
  unfold putKW putK
  rw [r.any k]
  split
  · rename_i hh
    clear hh
    induction r with
    | nil => exact .nil
    | @cons k' u x ws vs h t ih =>
      simp only [List.map_cons]
      by_cases e : k' = k
      · simp only [if_pos e]; exact .cons rv ih
      · simp only [if_neg e]; exact .cons h ih
  · rename_i hh
    clear hh
    induction r with
    | nil => exact .cons rv .nil
    | cons h t ih => exact .cons h ih
end

section
variable {X : Cx} {N : Nm} {ι ι' : List Addr} {H H' : Hp} {st : Store} {ρ : Loc} {σ : L2.St} {Q : VK}
/-! ### any operation -/
def opU (X : Cx) (f : Value → Value → Sem Value) : R2 := fun x y H Q => ∃ r, OpR X f r ∧ r x y H Q
theorem op_U (f : Value → Value → Sem Value) : OpR X f (opU X f) := fun pins s σ H x y v u Q I rx ry ⟨_, hr, q⟩ => hr pins s σ H x y v u Q I rx ry q
def ixU (X : Cx) : R2 := fun x y H Q => ∃ r, IxR X r ∧ r x y H Q
theorem ix_U : IxR X (ixU X) := fun a b pins s σ H x y v u Q I rx ry ⟨_, hr, q⟩ hs => hr a b pins s σ H x y v u Q I rx ry q hs
def slU (X : Cx) : V → Option Int → Option Int → Hp → VK → Prop := fun x l h H Q => ∃ r, SlR X r ∧ r x l h H Q
theorem sl_U : SlR X (slU X) := fun pins s σ H x v vl vu lo hi sl Q I rx hs pl pu ⟨_, hr, q⟩ => hr pins s σ H x v vl vu lo hi sl Q I rx hs pl pu q
def caU (X : Cx) (f : Value) : List V → Hp → VK → Prop := fun vs H Q => ∃ r, CallR X f r ∧ r vs H Q
theorem ca_U (f : Value) : CallR X f (caU X f) := fun pins s σ H xs us Q I r ⟨_, hr, q⟩ => hr pins s σ H xs us Q I r q
def mtU (X : Cx) (id : String) : V → List V → Hp → VK → Prop := fun x vs H Q => ∃ r, MtR X id r ∧ r x vs H Q
theorem mt_U (id : String) : MtR X id (mtU X id) := fun pins s σ H x xs v us Q I r rs ⟨_, hr, q⟩ => hr pins s σ H x xs v us Q I r rs q
def setU (X : Cx) : TSet := fun o i v H Q => ∃ r, PSet X r ∧ r o i v H Q
theorem set_U : PSet X (setU X) := fun pins s σ H o i v ov iv u Q I ro ri rv ⟨_, hr, q⟩ => hr pins s σ H o i v ov iv u Q I ro ri rv q

/-- o[i] = v of a dict -/
def rSetD1 : TSet := fun o i v H Q => ∃ a H', o = .ref a ∧ DPut H a i v H' ∧ Q H'
theorem set_dict1 (hu : X.A.units + 1 < cLine) : PSet X rSetD1 := by
  intro pins s σ H o i v ov iv u Q I ro ri rv h
  obtain ⟨a, H', eo, g, q⟩ := h
  subst eo
  cases (show ov = Value.ref a from ro)
  exact d_setItem hu I g ri rv fun s' I' => ⟨H', I', q⟩
theorem setW_ok {o i w : W} {x y v : V} {st' : Store} {Qh : Hp → Prop} (hu : X.A.units + 64 < cLine) (S : SR X.K N ι H st) (ro : RV X.K ι H o x) (ri : RV X.K ι H i y) (rw' : RV X.K ι H w v) (h : setW o i w st = some st')
    (q : ∀ H', SR X.K N ι H' st' → Ext ι H ι H' → Qh H') : setU X x y v H Qh := by
  unfold setW at h
  split at h
  · rename_i n
    cases ro with
    | @ref _ a hn =>
      have ham : a ∈ ι := List.mem_of_getElem? hn
      split at h
      · rename_i ws e
        cases S.at e hn with
        | @lst _ _ vs hl r =>
          split at h
          · cases ri
            rename_i k
            cases e2 : ixN ws.length k with
            | none => rw [e2] at h; cases h
            | some j =>
              rw [e2] at h
              cases h
              have e3 := Ext.wrote (H := H) (o := HO.lst (vs.set j v)) ham
              refine ⟨_, set_list, a, vs, k, j, rfl, rfl, hl, by rw [← r.length]; exact e2, q _ (S.wrote hn (.lst upd_same ((r.set rw' j).ext S e3))) e3⟩
          · cases h
      · rename_i kvs e
        cases S.at e hn with
        | @dic _ _ vs hd r =>
          split at h
          · rename_i k ek
            split at h
            · rename_i hz
              cases h
              have ey := key_ok ri ek
              subst ey
              have e3 := Ext.wrote (H := H) (o := HO.dK (putK vs k v)) ham
              have hl : vs.length < sizeLine := by rw [← r.length, sizeLine_eq]; omega
              refine ⟨_, set_dict1 (by omega), a, _, rfl, .k hd hl, q _ (S.wrote hn (.dic upd_same ((r.put rw').mono e3.pre (S.tups e3) (S.frzs e3)))) e3⟩
            · cases h
          · cases h
      · cases h
  · cases h

/-- o.f = v -/
def gFld (X : Cx) (to : TE) (f : Str) : TG := fun v σ H Q => to σ H fun x H1 => ∃ a C dx fs, x = .ref a ∧ H1 a = some (.ins C dx fs) ∧ Cls X.K C ∧ NoAttr X.K C f ∧ fs.length < 1000 ∧ Q σ (upd H1 a (.ins C dx (putF f v fs)))
theorem pg_fldD {o : Expr} {f : Str} {pos : Pos} {to : TE} (ho : PE X o to) : PG X (.Attribute o f pos) (gFld X to f) := by
  refine ⟨fun pins s σ H v u Q I r h => ?_⟩
  rw [arm_assign_Attribute]
  refine wpAny_bind (wpAny_holding (thn (ho.run pins s σ H _ I h) fun ov s1 ⟨x, H1, I1, rx, a, C, dx, fs, ex, ea, c, n, l, q⟩ => ?_))
  subst ex
  obtain rfl : ov = Value.ref a := rx
  refine wpAny_bind (wpAny_standAt (wpAny_bind (wpAny_holding (setattr_ok I1 ea c n l r fun s3 I3 => ?_))))
  exact wpAny_release ⟨σ, _, I3, q⟩

/-! ### names of classes and of built-in functions -/
variable {S : Stc} {o : Orc} {k : Nat} {Wx : WX}
theorem tyName_blt {c : Nat} (h0 : 0 < c) (h7 : c < 7) : (tyName c : Str) ∈ bltNames ∧ bootBuiltins (tyName c : Str) = some (.type (tyName c)) ∧ (tyName c : Str) ≠ "__name__" ∧ ((tyName c : Str) == ("__debug__" : Str)) = false := by
  match c, h0, h7 with
  | 1, _, _ => exact ⟨by decide, by decide +kernel, by decide, by decide⟩
  | 2, _, _ => exact ⟨by decide, by decide +kernel, by decide, by decide⟩
  | 3, _, _ => exact ⟨by decide, by decide +kernel, by decide, by decide⟩
  | 4, _, _ => exact ⟨by decide, by decide +kernel, by decide, by decide⟩
  | 5, _, _ => exact ⟨by decide, by decide +kernel, by decide, by decide⟩
  | 6, _, _ => exact ⟨by decide, by decide +kernel, by decide, by decide⟩
theorem cls_ok (G : Good S o N k Wx X) {c : Nat} {e : Expr} (h : okCl S c e = true) : ∃ v, ClsV v (clsV N c) ∧ PE X e (tC v) := by
  cases e <;> try (cases h; done)
  rename_i x p
  simp only [okCl, Bool.and_eq_true] at h
  obtain ⟨⟨hg, hp⟩, hc⟩ := h
  split at hc
  · rename_i h16
    simp only [Bool.and_eq_true, decide_eq_true_eq] at hc
    obtain ⟨⟨h0, h7⟩, rfl⟩ := hc
    obtain ⟨t1, t2, t3, t4⟩ := tyName_blt h0 h7
    refine ⟨.ty (tyName c), ?_, pe_bltn (G.gl hg) (G.none t1) t2 rfl t3 t4⟩
    unfold clsV
    rw [if_pos h16]
    exact .ty _
  · rename_i h16
    simp only [Bool.and_eq_true, decide_eq_true_eq] at hc
    obtain ⟨hn, rfl⟩ := hc
    obtain ⟨C, h1, h2⟩ := G.env.cls (c - 16) hn
    refine ⟨.ref C, ?_, pe_glob (G.gl hg) h2 rfl (plainN1 hp).1⟩
    unfold clsV
    rw [if_neg h16, h1]
    exact .own C
theorem clss_ok (G : Good S o N k Wx X) : ∀ {cs : List Nat} {es : List Expr}, okCls S cs es = true → ∃ vs, Paired ClsV vs (cs.map (clsV N)) ∧ PA X es (fun σ H Q => Q vs H)
  | [], [], _ => ⟨[], .nil, pa_nil⟩
  | [], _ :: _, h => by simp [okCls] at h
  | _ :: _, [], h => by simp [okCls] at h
  | c :: cs, e :: es, h => by
    simp only [okCls, Bool.and_eq_true] at h
    obtain ⟨v, k1, p1⟩ := cls_ok G h.1.1
    obtain ⟨vs, k2, p2⟩ := clss_ok G h.2
    exact ⟨v :: vs, .cons k1 k2, pa_cons p1 p2 (star_cons _ h.1.2)⟩
theorem pe_biU (G : Good S o N k Wx X) {f : Bi} {e : Expr} {es : List Expr} {t : TA} {p pos : Pos} (hg : S.gl f.name = true) (ha : PA X (e :: es) t) (he : starEach (e :: es) X.env = (false, eval e X.env) :: starEach es X.env)
    (hpl : (backTo pos (starEach es X.env)).any (·.1) = false) : PE X (.Call (.Name f.name p) (e :: es) [] pos) (tCB (caU X f.val) t) := by
  cases f
  · exact pe_callB (ca_U _) (G.gl hg) (G.none (by decide)) (by decide +kernel) ha (by decide) (by decide) he hpl
  · exact pe_callB (ca_U _) (G.gl hg) (G.none (by decide)) (by decide +kernel) ha (by decide) (by decide) he hpl
  · exact pe_callB (ca_U _) (G.gl hg) (G.none (by decide)) (by decide +kernel) ha (by decide) (by decide) he hpl
  · exact pe_callB (ca_U _) (G.gl hg) (G.none (by decide)) (by decide +kernel) ha (by decide) (by decide) he hpl
  · exact pe_callTy (ca_U _) (G.gl hg) (G.none (by decide)) (by decide +kernel) ha (by decide) (by decide) he hpl
  · exact pe_callTy (ca_U _) (G.gl hg) (G.none (by decide)) (by decide +kernel) ha (by decide) (by decide) he hpl
  · exact pe_callTy (ca_U _) (G.gl hg) (G.none (by decide)) (by decide +kernel) ha (by decide) (by decide) he hpl
  · exact pe_callTy (ca_U _) (G.gl hg) (G.none (by decide)) (by decide +kernel) ha (by decide) (by decide) he hpl
  · exact pe_callB (ca_U _) (G.gl hg) (G.none (by decide)) (by decide +kernel) ha (by decide) (by decide) he hpl
  · exact pe_callB (ca_U _) (G.gl hg) (G.none (by decide)) (by decide +kernel) ha (by decide) (by decide) he hpl
  · exact pe_callB (ca_U _) (G.gl hg) (G.none (by decide)) (by decide +kernel) ha (by decide) (by decide) he hpl
  · exact pe_callB (ca_U _) (G.gl hg) (G.none (by decide)) (by decide +kernel) ha (by decide) (by decide) he hpl
  · exact pe_callB (ca_U _) (G.gl hg) (G.none (by decide)) (by decide +kernel) ha (by decide) (by decide) he hpl
end
end Mx

/-! Helpers of the main proof. -/
namespace Mx
open PySem PySem.Spec PyProof.Rows L2

section
variable {X : Cx} {N : Nm} {Wx : WX} {ι ι' ι1 : List Addr} {H H' H1 : Hp} {st : Store} {ρ : Loc} {σ : L2.St}
theorem PA.at {e : List Expr} {ev : Loc → Store → R (List W)} (h : ∀ ι st ρ σ H Q, SR X.K N ι H st → RS X.K ι H ρ σ → resP X.K N ι H (fun c d H' => Wx c d σ H') (ev ρ st) (fun ws ι' H' => ∀ vs, RVs X.K ι' H' ws vs → Q vs H') → ∃ t, PA X e t ∧ t σ H Q) : PA X e (rdA X.K N Wx ev) := by
  refine ⟨fun pos pins s σ H Q I q => ?_⟩
  obtain ⟨ι, st, ρ, S, r, q⟩ := q
  obtain ⟨t, ht, q'⟩ := h ι st ρ σ H Q S r q
  exact ht.run pos pins s σ H Q I q'
theorem PO.at {e : Option Expr} {ev : Loc → Store → R (Option Int)} (h : ∀ ι st ρ σ H Q, SR X.K N ι H st → RS X.K ι H ρ σ → resP X.K N ι H (fun c d H' => Wx c d σ H') (ev ρ st) (fun b _ H' => Q b H') → ∃ t, PO X e t ∧ t σ H Q) : PO X e (rdO X.K N Wx ev) := by
  refine ⟨fun pins s σ H Q I q => ?_⟩
  obtain ⟨ι, st, ρ, S, r, q⟩ := q
  obtain ⟨t, ht, q'⟩ := h ι st ρ σ H Q S r q
  exact ht.run pins s σ H Q I q'
theorem PTs.at {e : List Expr} {ev : Loc → Store → R Bool} (h : ∀ ι st ρ σ H Q, SR X.K N ι H st → RS X.K ι H ρ σ → resP X.K N ι H (fun c d H' => Wx c d σ H') (ev ρ st) (fun b _ H' => Q b H') → ∃ t, PTs X e t ∧ t σ H Q) : PTs X e (rdT X.K N Wx ev) := by
  refine ⟨fun pins s σ H Q I q => ?_⟩
  obtain ⟨ι, st, ρ, S, r, q⟩ := q
  obtain ⟨t, ht, q'⟩ := h ι st ρ σ H Q S r q
  exact ht.run pins s σ H Q I q'
theorem PG.at {sl : List Nat} {e : Expr} {ev : W → Loc → Store → R Loc} (h : ∀ ι st ρ w v σ H Q, SR X.K N ι H st → RS X.K ι H ρ σ → RV X.K ι H w v → resP X.K N ι H (fun c d H' => Wx c d σ H') (ev w ρ st) (fun ρ' ι' H' => ∀ σ', σ'.length = σ.length → (∀ j, j ∉ sl → σ'[j]? = σ[j]?) → RS X.K ι' H' ρ' σ' → Q σ' H') → ∃ t, PG X e t ∧ t v σ H Q) : PG X e (rdG X.K N Wx sl ev) := by
  refine ⟨fun pins s σ H v u Q I rv q => ?_⟩
  obtain ⟨ι, st, ρ, w, S, r, p, q⟩ := q
  obtain ⟨t, ht, q'⟩ := h ι st ρ w v σ H Q S r p q
  exact ht.run pins s σ H v u Q I rv q'
theorem PGs.at {sl : List Nat} {e : List Expr} {ev : List W → Loc → Store → R Loc} (h : ∀ ι st ρ w v σ H Q, SR X.K N ι H st → RS X.K ι H ρ σ → RVs X.K ι H w v → resP X.K N ι H (fun c d H' => Wx c d σ H') (ev w ρ st) (fun ρ' ι' H' => ∀ σ', σ'.length = σ.length → (∀ j, j ∉ sl → σ'[j]? = σ[j]?) → RS X.K ι' H' ρ' σ' → Q σ' H') → ∃ t, PGs X e t ∧ t v σ H Q) : PGs X e (rdGs X.K N Wx sl ev) := by
  refine ⟨fun pins s σ H v u Q I rv q => ?_⟩
  obtain ⟨ι, st, ρ, w, S, r, p, q⟩ := q
  obtain ⟨t, ht, q'⟩ := h ι st ρ w v σ H Q S r p q
  exact ht.run pins s σ H v u Q I rv q'

section
variable {K : PySem.W.Frag}
theorem resP.nb {α : Type} {E : XK} {r : R α} {P : α → List Addr → Hp → Prop} (h : resP K N ι H E r P) : r ≠ .bad := fun e => by rw [e] at h; exact h
/-- a def's promise from its run -/
theorem sp_of {E : XK} {Q : VK} {n : Nat} {run : List W → Store → R W} {us : List W} {xs : List V} (S : SR K N ι H st) (ru : RVs K ι H us xs) (hn : ∀ ws st, run ws st ≠ .bad → ws.length = n) (q : resP K N ι H E (run us st) (PQ K Q)) : spF K N n run xs H Q E :=
  ⟨by rw [← ru.length]; exact hn _ _ q.nb, ι, st, us, S, ru, q⟩
theorem R.bind_ok {α β : Type} {x : R α} {f : α → Store → R β} {b : β} {st' : Store} (h : x.bind f = .ok b st') : ∃ a st1, x = .ok a st1 ∧ f a st1 = .ok b st' := by
  cases x with
  | ok a st1 => exact ⟨a, st1, rfl, h⟩
  | exc _ _ _ => cases h
  | bad => cases h
theorem R.bind_assoc {α β γ : Type} (x : R α) (f : α → Store → R β) (g : β → Store → R γ) : (x.bind f).bind g = x.bind fun a st => (f a st).bind g := by cases x <;> rfl
theorem R.bind_pure {α : Type} (x : R α) : (x.bind fun a st => .ok a st) = x := by cases x <;> rfl
theorem isLst_ok {w : W} {v : V} (S : SR K N ι H st) (r : RV K ι H w v) (h : isLst st w = true) : tyV K "list" v H := by
  cases r with
  | @ref n a hn =>
    have h' : (lstAt st n).isSome = true := h
    cases e : lstAt st n with
    | none => rw [e] at h'; cases h'
    | some ws =>
      obtain ⟨vs, hv, _⟩ := S.lst e hn
      exact .inl ⟨rfl, vs, .of hv⟩
  | _ => cases h
theorem insAt_eq {n c : Nat} {fs : List (Nat × W)} (h : insAt st n = some (c, fs)) : st[n]? = some (.ins c fs) := by
  unfold insAt at h
  split at h
  · rename_i e; cases h; exact e
  · cases h
theorem getm_ok {o : Orc} {w : W} {m f : Nat} (h : getm o st w m = some f) : ∃ n c fs, w = .ref n ∧ st[n]? = some (.ins c fs) ∧ o.cm c m = some f := by
  unfold getm at h
  split at h
  · rename_i n
    split at h
    · rename_i c fs e
      exact ⟨n, c, fs, rfl, insAt_eq e, h⟩
    · cases h
  · cases h
/-- the loop's local state -/
theorem wipe_eq {σ σ' : L2.St} : ∀ {vs : List Nat}, σ'.length = σ.length → (∀ j, j ∉ vs → σ'[j]? = σ[j]?) → wipe σ' vs = wipe σ vs := by
  have at_ : ∀ (τ : L2.St) (vs : List Nat) (j : Nat), (wipe τ vs)[j]? = if j ∈ vs ∧ j < τ.length then some none else τ[j]? := by
    intro τ vs
    induction vs with
    | nil => intro j; simp [wipe]
    | cons v vs ih =>
      intro j
      unfold wipe
      rw [List.getElem?_set, wipe_length, ih]
      by_cases e : v = j
      · subst e
        by_cases hl : v < τ.length
        · simp [hl]
        · simp [hl]
      · rw [if_neg e]
        simp [show j ≠ v from fun z => e z.symm]
  intro vs hl h
  apply List.ext_getElem?
  intro j
  rw [at_, at_, hl]
  by_cases hj : j ∈ vs
  · by_cases hj2 : j < σ.length
    · simp [hj, hj2]
    · rw [if_neg (fun z => hj2 z.2), if_neg (fun z => hj2 z.2)]
      rw [List.getElem?_eq_none_iff.mpr (by omega), List.getElem?_eq_none_iff.mpr (by omega)]
  · simp only [hj, false_and, if_false]
    exact h j hj
theorem wipe_twice (σ : L2.St) (vs : List Nat) : wipe (wipe σ vs) vs = wipe σ vs := by
  refine wipe_eq (wipe_length σ vs) fun j hj => ?_
  have : ∀ us : List Nat, (∀ u ∈ us, u ∈ vs) → (wipe σ us)[j]? = σ[j]? := by
    intro us
    induction us with
    | nil => intro _; rfl
    | cons u us ih =>
      intro h
      unfold wipe
      rw [List.getElem?_set_ne (by intro e; subst e; exact hj (h _ (by simp)))]
      exact ih fun u hu => h u (by simp [hu])
  exact this vs fun _ h => h
theorem RS.wipe (r : RS K ι H ρ σ) : ∀ vs : List Nat, RS K ι H (vs.foldr (fun i ρ => ρ.set i none) ρ) (L2.wipe σ vs)
  | [] => r
  | v :: vs => by
    have ih := RS.wipe r vs
    refine ⟨?_, fun i w e => ?_⟩
    · show ((vs.foldr (fun i ρ => ρ.set i none) ρ).set v none).length = ((L2.wipe σ vs).set v none).length
      rw [List.length_set, List.length_set]; exact ih.1
    · have e' : ((vs.foldr (fun i ρ => ρ.set i none) ρ).set v none)[i]? = some (some w) := e
      by_cases hv : v = i
      · subst hv
        rw [List.getElem?_set] at e'
        simp at e'
      · rw [List.getElem?_set_ne hv] at e'
        obtain ⟨x, h1, h2⟩ := ih.2 i w e'
        refine ⟨x, ?_, h2⟩
        show ((L2.wipe σ vs).set v none)[i]? = _
        rw [List.getElem?_set_ne hv]; exact h1
/-! a list on the side: laid, written, then taken in -/
section
variable {D : Addr} {xs ys : List V}
theorem side_ne {a : Addr} {u : HO} (hD : H D = some (.lst xs)) (h : H a = some u) (hu : ∀ zs, u ≠ .lst zs) : a ≠ D := fun e => by
  subst e
  rw [hD] at h
  cases h
  exact hu _ rfl
theorem side_tup (hD : H D = some (.lst xs)) (a : Addr) (zs : List V) (h : SqT K H a zs) : SqT K (upd H D (.lst ys)) a zs := by
  rcases h with (h | ⟨o, h⟩) | h
  · exact .inl (.inl (by rw [upd_ne (side_ne hD h fun _ e => nomatch e)]; exact h))
  · exact .inl (.inr ⟨o, by rw [upd_ne (side_ne hD h fun _ e => nomatch e)]; exact h⟩)
  · exact .inr h
theorem side_frz (hD : H D = some (.lst xs)) (a : Addr) (zs : List V) (h : SqF K H a zs) : SqF K (upd H D (.lst ys)) a zs := by
  rcases h with ⟨o, h⟩ | h
  · exact .inl ⟨o, by rw [upd_ne (side_ne hD h fun _ e => nomatch e)]; exact h⟩
  · exact .inr h
theorem SR.side (S : SR K N ι H st) (hn : D ∉ ι) (hD : H D = some (.lst xs)) : SR K N ι (upd H D (.lst ys)) st :=
  ⟨S.len, S.nd, fun n c h => let ⟨a, ha, r⟩ := S.cel n c h; ⟨a, ha, r.keep (fun _ _ h => h) (side_tup hD) (side_frz hD) fun u h => by
    rw [upd_ne (fun e => hn (by rw [← e]; exact List.mem_of_getElem? ha))]; exact h⟩⟩
theorem Ext.side (E : Ext ι1 H1 ι H) (h1 : H1 D = none) : Ext ι1 H1 ι (upd H D (.lst ys)) :=
  ⟨E.pre, fun b o hb h => by rw [upd_ne (ne_of_none h h1)]; exact E.keep b o hb h, E.new⟩
theorem SR.take (S : SR K N ι H st) (hn : D ∉ ι) {ws : List W} (hD : H D = some (.lst xs)) (r : RVs K ι H ws xs) : SR K N (ι ++ [D]) H (st ++ [.lst ws]) := by
  have hp : ∀ (n : Nat) (a : Addr), ι[n]? = some a → (ι ++ [D])[n]? = some a := fun n a h => by rw [List.getElem?_append_left (List.getElem?_eq_some_iff.mp h).1]; exact h
  refine ⟨by simp [S.len], ?_, fun n d h => ?_⟩
  · rw [List.nodup_append]
    refine ⟨S.nd, by simp, fun x hx y hy => ?_⟩
    simp at hy
    subst hy
    exact fun e => hn (e ▸ hx)
  · by_cases hl : n < st.length
    · rw [List.getElem?_append_left hl] at h
      obtain ⟨a, ha, ra⟩ := S.cel n d h
      exact ⟨a, hp _ _ ha, ra.keep hp (fun _ _ h => h) (fun _ _ h => h) fun _ h => h⟩
    · have e : n = st.length := by
        have := (List.getElem?_eq_some_iff.mp h).1
        simp at this; omega
      subst e
      simp at h
      subst h
      exact ⟨D, by rw [← S.len]; simp, .lst hD (r.mono hp (fun _ _ h => h) fun _ _ h => h)⟩
theorem Ext.take (E : Ext ι1 H1 ι H) (h1 : H1 D = none) : Ext ι1 H1 (ι ++ [D]) H :=
  ⟨fun n a h => by have := E.pre n a h; rw [List.getElem?_append_left (List.getElem?_eq_some_iff.mp this).1]; exact this, E.keep, fun b hb => by
    rw [List.mem_append] at hb
    rcases hb with z | z
    · exact E.new b z
    · simp at z; subst z; exact .inr h1⟩
theorem Ext.out (E : Ext ι H ι' H') (hn : D ∉ ι) (hD : H D = some (.lst xs)) : D ∉ ι' ∧ H' D = some (.lst xs) :=
  ⟨(fun h => by
    rcases E.new D h with z | z
    · exact hn z
    · rw [hD] at z; cases z), E.keep D _ hn hD⟩
theorem IR.mono {it : Iter} {J : It} (hp : ∀ (n : Nat) (a : Addr), ι[n]? = some a → ι'[n]? = some a) (ht : ∀ a xs, SqT K H a xs → SqT K H' a xs) (hf : ∀ a xs, SqF K H a xs → SqF K H' a xs) (h : IR K ι H it J) : IR K ι' H' it J := by
  cases h with
  | lst h => exact .lst (hp _ _ h)
  | tup h r => exact .tup (ht _ _ h) (r.mono hp ht hf)
  | rng => exact .rng
  | rngC => exact .rngC
  | str => exact .str
  | enum h => exact .enum (hp _ _ h)
  | zip h h2 => exact .zip (hp _ _ h) (hp _ _ h2)
  | zipT h r h2 r2 => exact .zipT (ht _ _ h) (r.mono hp ht hf) (ht _ _ h2) (r2.mono hp ht hf)
  | rev h => exact .rev (hp _ _ h)
end
end

variable {S : Stc} {o : Orc} {k : Nat}
theorem marks_no {op op' : CmpOp} {y z : Expr} (h : notSet z = true) : lastMarks [op, op'] [y, z] = false := by
  show behindInMarks op' z = false
  cases z <;> first | rfl | cases h
theorem Good.blk (G : Good S o N k Wx X) {s : Shared} {H : Hp} {scope : Scope} {C : Addr} {cl : List (Str × Addr)} {fp : List Addr} (hk : scope.kind = .function) :
    Good ⟨S.T, S.N, relS scope S.sc, some scope⟩ o N k (fun _ _ _ _ => False) (X.blk s H scope (compEnvC scope cl C X.env) fp) where
  n := G.n
  nd := G.nd
  sc := by
    show relS scope X.env.scope = _
    rw [G.sc]
  fn := fun x h => by
    unfold Stc.sto at h
    split at h
    · rename_i e
      refine .inr ?_
      show (relS scope X.env.scope).names.lookup x = _
      rw [G.sc]; exact e
    · refine .inl ?_
      have h' := of_decide_eq_true h
      show (scope.names.lookup x == some .cell) = true
      rw [h']; rfl
    · cases h
  calm := G.calm
  own := .never
  tk := takes0
  env := ⟨G.env.room, G.env.blt, G.env.fld, G.env.call, G.env.glb, G.env.cls, G.env.isi, G.env.make, G.env.mth, G.env.nofm, G.env.inj, G.env.noat, G.env.exc, G.env.exf, G.env.exm⟩
  kind := hk
  stk := fun h => by cases h
/-- a method's call in its plain form -/
theorem mth_form {env : Env} {x : Expr} {m : Str} {apos pos : Pos} {args : List Expr} (hs : notSuper x = true) (hl : (apos.endLine == pos.line) = true) (hf : (backTo pos (starEach args env)).all (fun x => !x.1) = true) (hn : args.length < 30) :
    eval (.Call (.Attribute x m apos) args [] pos) env = (do
      let ov ← eval x env
      standAt apos.atName
      let (f, first) ← holding [ov] (getMethod ov m (do return (← importBound x env).getD true))
      callWith pos f first (backTo pos (starEach args env)) (backToKw pos (keywordEach [] env))) := by
  have hform : methodCallForm (args.length + ([] : List Keyword).length) (backTo pos (starEach args env)) (backToKw pos (keywordEach [] env)) = true := by
    unfold methodCallForm
    rw [hf]
    show (true && true && decide (args.length + 0 + 0 < 30)) = true
    rw [decide_eq_true (by omega)]; rfl
  rw [arm_eval_Call, super_no hs]
  unfold methodCall
  simp only [hform]
  unfold calleeOf methodCallPos
  simp only [hl, Bool.not_true, Bool.false_or, if_true]
  rfl
end
end Mx

/-! The main proof: expressions. -/
namespace Mx
open PySem PySem.Spec PyProof.Rows L2

section
variable {o : Orc} {N : Nm} {k : Nat} {T : Stc} {Wx : WX} {X : Cx}

theorem made_ok {K : PySem.W.Frag} {ι : List Addr} {H : Hp} {st : Store} {us : List W} {vs : List V} {c n : Nat} {C : Addr} {init : List W → Store → R W} {E : XK} {Q : VK} (S : SR K N ι H st) (ru : RVs K ι H us vs) (hC : N.cA c = some C) (hn : ∀ ws st, init ws st ≠ .bad → ws.length = n)
    (q : resP K N ι H E ((init (.ref st.length :: us) (st ++ [.ins c []])).bind fun w st' => match w with
      | .non => .ok (.ref st.length) st'
      | _ => .bad) (PQ K Q)) : MadeR C (spF K N n init) vs H Q E := by
  intro x dx hx hdx hne
  have S1 := S.hid (o := .own x) hdx
  have hx1 : upd H dx (.own x) x = none := by rw [upd_ne (Ne.symm hne)]; exact hx
  have E1 : Ext ι H ι (upd H dx (.own x)) := Ext.hid hdx
  have S2 : SR K N (ι ++ [x]) (upd (upd H dx (.own x)) x (.ins C dx [])) (st ++ [.ins c []]) := S1.laid hx1 (.ins upd_same hC .nil)
  have E2 : Ext ι H (ι ++ [x]) (upd (upd H dx (.own x)) x (.ins C dx [])) := E1.trans (Ext.laid S1 hx1)
  have hx2 : (ι ++ [x])[st.length]? = some x := by rw [← S.len]; simp
  refine sp_of S2 (.cons (.ref hx2) (ru.ext S E2)) hn ?_
  have q2 := q.step E2
  cases hi : init (.ref st.length :: us) (st ++ [.ins c []]) with
  | ok w st' =>
    rw [hi] at q2
    intro ι3 H3 S3 E3 v rv
    cases w with
    | non =>
      cases rv
      exact ⟨rfl, q2 ι3 H3 S3 E3 (.ref x) (.ref (E3.pre _ _ hx2))⟩
    | _ => exact q2.elim
  | exc c fs st' => rw [hi] at q2; exact q2
  | bad => rw [hi] at q2; exact q2.elim

theorem ok_cons {es : CA} {y : Expr} {ys : List Expr} (ha : okA T es (y :: ys) = true) : notStar y = true ∧ ∃ a0, okA T a0 ys = true := by
  cases es with
  | nil => simp [okA] at ha
  | cons a as =>
    simp only [okA, Bool.and_eq_true] at ha
    exact ⟨ha.1.1, _, ha.2⟩
theorem ok_nil {es : CA} (ha : okA T es [] = true) : es = .nil := by
  cases es with
  | nil => rfl
  | cons a as => simp [okA] at ha

theorem e_var (G : Good T o N k Wx X) {i : Nat} {e : Expr} (h : okE T (.var i) e = true) : PE X e (rdE X.K N Wx (evE o (.var i))) := by
  obtain ⟨x, p, rfl, hi, hv, hp⟩ := inv_var h
  refine PE.at fun ι st ρ σ H Q S r q => ⟨_, pe_var (G.ix hi) (G.vis hv) (plainN1 hp).1 (plainN1 hp).2.1, ?_⟩
  have q' : resP X.K N ι H (fun c d H' => Wx c d σ H') (match ρ[i]? with | some (some w) => R.ok w st | _ => .bad) (PQ X.K Q) := q
  split at q'
  · rename_i w e
    obtain ⟨v, h1, rv⟩ := r.get e
    exact ⟨v, h1, val_ok S rv q'⟩
  · exact q'.elim
theorem e_call (G : Good T o N k Wx X) {f : Nat} {es : CA} {e : Expr} (h : okE T (.call f es) e = true) (hA : ∀ xs, okA T es xs = true → PA X xs (rdA X.K N Wx (evA o es))) : PE X e (rdE X.K N Wx (evE o (.call f es))) := by
  obtain ⟨px, y, ys, p, rfl, hf, hg, hp, ha⟩ := inv_call h
  obtain ⟨fa, fd, ps, n, hm, hk, hb, F, hn⟩ := G.env.call f hf
  obtain ⟨hy, a0, htail⟩ := ok_cons ha
  refine PE.at fun ι st ρ σ H Q S r q => ⟨_, pe_callS (E := WE Wx) F G.env.room (G.gl hg) hm hk hb (fun σ => G.pass σ) (hA _ ha) (plainN1 hp).1 (star_cons _ hy) (star_any _ htail), ?_⟩
  exact (rdA_then S r .nil q).mono fun v1 H1 ⟨ι1, st1, us, S1, r1, ru, p1, _, q1⟩ => sp_of S1 ru hn q1
theorem e_bi (G : Good T o N k Wx X) {f : Bi} {es : CA} {e : Expr} (h : okE T (.bi f es) e = true) (hA : ∀ xs, okA T es xs = true → PA X xs (rdA X.K N Wx (evA o es))) : PE X e (rdE X.K N Wx (evE o (.bi f es))) := by
  obtain ⟨px, y, ys, p, rfl, hg, ha⟩ := inv_bi h
  obtain ⟨hy, a0, htail⟩ := ok_cons ha
  refine PE.at fun ι st ρ σ H Q S r q => ⟨_, pe_biU G hg (hA _ ha) (star_cons _ hy) (star_any _ htail), ?_⟩
  exact (rdA_then S r .nil q).mono fun v1 H1 ⟨ι1, st1, us, S1, r1, ru, p1, _, q1⟩ => biW_ok S1 G.calm ru q1
theorem e_mk (G : Good T o N k Wx X) {c : Nat} {es : CA} {e : Expr} (h : okE T (.mk c es) e = true) (hA : ∀ xs, okA T es xs = true → PA X xs (rdA X.K N Wx (evA o es))) : PE X e (rdE X.K N Wx (evE o (.mk c es))) := by
  obtain ⟨px, ys, p, rfl, hc, hg, hp, ha⟩ := inv_mk h
  obtain ⟨C, f, fd, ps, n, j, init, hC, hm, M, hb, hj, F, hn, run⟩ := G.env.make c hc
  cases ys with
  | nil =>
    refine PE.at fun ι st ρ σ H Q S r q => ⟨_, pe_mk0 M F (G.env.room.mono hj) hb G.tk (G.gl hg) hm (plainN1 hp).1, ?_⟩
    obtain rfl := ok_nil ha
    have q' : resP X.K N ι H (fun c d H' => Wx c d σ H') (o.make c [] st) (PQ X.K Q) := q
    rw [run] at q'
    exact made_ok S .nil hC hn q'
  | cons y ys =>
    obtain ⟨hy, a0, htail⟩ := ok_cons ha
    refine PE.at fun ι st ρ σ H Q S r q => ⟨_, pe_mkD M F (G.env.room.mono hj) hb G.tk (G.gl hg) hm (hA _ ha) (plainN1 hp).1 (star_cons _ hy) (star_any _ htail), ?_⟩
    refine (rdA_then S r .nil q).mono fun v1 H1 ⟨ι1, st1, us, S1, r1, ru, p1, _, q1⟩ => ?_
    rw [run] at q1
    exact made_ok S1 ru hC hn q1
theorem mth_at (G : Good T o N k Wx X) {m : Nat} {ι1 : List Addr} {H1 : Hp} {st1 : Store} {w1 : W} {v1 : V} {σ : L2.St} {E : XK} {F : Nat → R W} {Q : VK} {go : (List V → Hp → VK → Prop) → Prop} (S1 : SR X.K N ι1 H1 st1) (p1 : RV X.K ι1 H1 w1 v1)
    (q1 : resP X.K N ι1 H1 E (match getm o st1 w1 m with | some f => F f | none => .bad) (PQ X.K Q))
    (hgo : ∀ f n, (∀ ws st, o.call f ws st ≠ .bad → ws.length = n) → resP X.K N ι1 H1 E (F f) (PQ X.K Q) → go fun vs H2 Q => spF X.K N n (o.call f) (v1 :: vs) H2 Q (WE Wx σ)) : MthR X Wx (T.T.me m) σ v1 H1 go := by
  cases hg : getm o st1 w1 m with
  | none => rw [hg] at q1; exact q1.elim
  | some f =>
    rw [hg] at q1
    obtain ⟨n, c, fs, rfl, hc, hcm⟩ := getm_ok hg
    obtain ⟨C, fa, fd, ps, q, hC, M, B, F', hn⟩ := G.env.mth c m f hcm
    cases p1 with
    | @ref _ a hn' =>
      cases S1.at hc hn' with
      | @ins _ C' dx _ _ vs h hc' rf =>
        rw [hC] at hc'
        cases hc'
        exact ⟨a, C, dx, vs, fa, fd, ps, _, k, rfl, h, (G.env.noat c C hC).1, M, rf.no (fun f => by rw [G.env.fld]; exact G.env.nofm f m), F', G.env.room, B, hgo f q hn q1⟩
theorem e_mth (G : Good T o N k Wx X) {x : CE} {m : Nat} {es : CA} {e : Expr} (h : okE T (.mth x m es) e = true) (hX : ∀ e, okE T x e = true → PE X e (rdE X.K N Wx (evE o x))) (hA : ∀ xs, okA T es xs = true → PA X xs (rdA X.K N Wx (evA o es))) : PE X e (rdE X.K N Wx (evE o (.mth x m es))) := by
  obtain ⟨xe, ap, ys, cp, rfl, hl, hs, hlen, hx, ha⟩ := inv_mth h
  have form := mth_form (env := X.env) (m := T.T.me m) hs hl (all_few X.env ha) hlen
  cases ys with
  | nil =>
    refine PE.at fun ι st ρ σ H Q S r q => ⟨_, pe_mth0 (hX _ hx) G.tk form, ?_⟩
    obtain rfl := ok_nil ha
    refine (rdE_then S r .nil q).mono fun v1 H1 ⟨ι1, st1, w1, S1, r1, p1, _, q1⟩ => ?_
    refine mth_at G S1 p1.head q1 fun f n hn q2 => ?_
    exact sp_of S1 p1 hn q2
  | cons y ys =>
    obtain ⟨hy, a0, htail⟩ := ok_cons ha
    refine PE.at fun ι st ρ σ H Q S r q => ⟨_, pe_mthD (hX _ hx) (hA _ ha) G.tk (star_cons _ hy) (star_any _ htail) form, ?_⟩
    refine (rdE_then S r .nil q).mono fun v1 H1 ⟨ι1, st1, w1, S1, r1, p1, _, q1⟩ => ?_
    refine mth_at G S1 p1.head q1 fun f n hn q2 => ?_
    exact (rdA_then S1 r1 p1 q2).mono fun v2 H2 ⟨ι2, st2, us, S2, r2, ru, p2, _, q3⟩ => sp_of S2 (.cons p2.head ru) hn q3
theorem e_bm (G : Good T o N k Wx X) {x : CE} {m : Bm} {es : CA} {e : Expr} (h : okE T (.bm m x es) e = true) (hX : ∀ e, okE T x e = true → PE X e (rdE X.K N Wx (evE o x))) (hA : ∀ xs, okA T es xs = true → PA X xs (rdA X.K N Wx (evA o es))) : PE X e (rdE X.K N Wx (evE o (.bm m x es))) := by
  obtain ⟨xe, ap, ys, cp, rfl, hl, hs, hlen, hx, ha⟩ := inv_bm h
  cases ys with
  | nil =>
    refine PE.at fun ι st ρ σ H Q S r q => ⟨_, pe_bm0 PySem.F.plainAttrs_list m.slot m.ty (mt_U _) (hX _ hx) (super_no hs _ _ _) hl, ?_⟩
    obtain rfl := ok_nil ha
    refine (rdE_then S r .nil q).mono fun v1 H1 ⟨ι1, st1, w1, S1, r1, p1, _, q1⟩ => ?_
    cases hi : isLst st1 w1 with
    | false => rw [hi] at q1; exact q1.elim
    | true =>
      rw [hi] at q1
      exact ⟨isLst_ok S1 p1.head hi, bmW_ok S1 p1.head .nil q1⟩
  | cons y ys =>
    obtain ⟨hy, a0, htail⟩ := ok_cons ha
    refine PE.at fun ι st ρ σ H Q S r q => ⟨_, pe_bm PySem.F.plainAttrs_list m.slot m.ty (mt_U _) (hX _ hx) (hA _ ha) (super_no hs _ _ _) (by
      rw [all_few X.env ha]
      show (true && true && decide ((y :: ys).length + 0 + 0 < 30)) = true
      rw [decide_eq_true (by omega)]; rfl) hl (star_cons _ hy) (star_any _ htail), ?_⟩
    refine (rdE_then S r .nil q).mono fun v1 H1 ⟨ι1, st1, w1, S1, r1, p1, _, q1⟩ => ?_
    cases hi : isLst st1 w1 with
    | false => rw [hi] at q1; exact q1.elim
    | true =>
      rw [hi] at q1
      refine ⟨isLst_ok S1 p1.head hi, ?_⟩
      exact (rdA_then S1 r1 p1 q1).mono fun v2 H2 ⟨ι2, st2, us, S2, r2, ru, p2, _, q2⟩ => bmW_ok S2 p2.head ru q2
theorem e_idx (G : Good T o N k Wx X) {a i : CE} {e : Expr} (h : okE T (.idx a i) e = true) (hX : ∀ e, okE T a e = true → PE X e (rdE X.K N Wx (evE o a))) (hI : ∀ e, okE T i e = true → PE X e (rdE X.K N Wx (evE o i))) : PE X e (rdE X.K N Wx (evE o (.idx a i))) := by
  obtain ⟨x, y, p, rfl, hs, hx, hy⟩ := inv_idx h
  refine PE.at fun ι st ρ σ H Q S r q => ⟨_, pe_ix ix_U (hX _ hx) (hI _ hy) (sub_plain hs), ?_⟩
  refine (rdE_then S r .nil q).mono fun v1 H1 ⟨ι1, st1, w1, S1, r1, p1, _, q1⟩ => ?_
  refine (rdE_then S1 r1 p1 q1).mono fun v2 H2 ⟨ι2, st2, w2, S2, r2, p2, _, q2⟩ => ?_
  obtain ⟨w, e, q3⟩ := opt_ok q2
  exact ixW_ok S2 G.hu p2.tail.head p2.head e fun v rv => val_ok S2 rv q3
theorem e_fld (G : Good T o N k Wx X) {x : CE} {f : Nat} {e : Expr} (h : okE T (.fld x f) e = true) (hX : ∀ e, okE T x e = true → PE X e (rdE X.K N Wx (evE o x))) : PE X e (rdE X.K N Wx (evE o (.fld x f))) := by
  obtain ⟨xe, p, rfl, hf, hs, hx⟩ := inv_fld h
  refine PE.at fun ι st ρ σ H Q S r q => ⟨_, pe_fld (hX _ hx) (super_no hs _ _ _), ?_⟩
  refine (rdE_then S r .nil q).mono fun v1 H1 ⟨ι1, st1, w1, S1, r1, p1, _, q1⟩ => ?_
  obtain ⟨w, e, q3⟩ := opt_ok q1
  unfold getFldW at e
  split at e
  · rename_i n
    split at e
    · rename_i c fs ec
      cases p1.head with
      | @ref _ a hn =>
        cases S1.at ec hn with
        | @ins _ C dx _ _ vs h hc rf =>
          have inj : ∀ f g, N.fld f = N.fld g → f = g := by rw [G.env.fld]; exact G.env.inj
          obtain ⟨v, h1, rv⟩ := rf.look inj e
          rw [G.env.fld] at h1
          obtain ⟨c1, c2⟩ := G.env.noat c C hc
          exact ⟨a, C, dx, vs, v, rfl, h, c1, c2 f hf, h1, val_ok S1 rv q3⟩
    · cases e
  · cases e
theorem e_isi (G : Good T o N k Wx X) {x : CE} {cs : List Nat} {e : Expr} (h : okE T (.isi x cs) e = true) (hX : ∀ e, okE T x e = true → PE X e (rdE X.K N Wx (evE o x))) : PE X e (rdE X.K N Wx (evE o (.isi x cs))) := by
  obtain ⟨px, a, p, hg, ha, hs, h⟩ := inv_isi h
  rcases h with ⟨ys, kk, q, rfl, hc⟩ | ⟨c, y, rfl, rfl, hy, hc⟩
  · obtain ⟨cv, k1, p1⟩ := clss_ok G hc
    refine PE.at fun ι st ρ σ H Q S r q => ⟨_, pe_callB call_isiT (G.gl hg) (G.none (by decide)) (by decide +kernel) (pa_cons (hX _ ha) (pa_cons (pe_tup p1) pa_nil rfl) (star_cons _ hs)) (by decide) (by decide) (star_cons _ hs) rfl, ?_⟩
    refine (rdE_then S r .nil q).mono fun v1 H1 ⟨ι1, st1, w1, S1, r1, pp, _, q1⟩ => ?_
    obtain ⟨b, hb, q2⟩ := opt_bind q1
    have hl : cv.length ≤ sizeLine := by
      have h1 := Paired.length k1
      have h2 := (G.env.isi st1 w1 cs b hb _ _ _ S1 pp.head).1
      rw [List.length_map] at h1
      rw [h1, sizeLine_eq]; omega
    refine ⟨hl, fun tp htp => ?_⟩
    have S2 := S1.hid (o := .tup cv) htp
    obtain ⟨_, t, ht, hk⟩ := G.env.isi st1 w1 cs b hb _ _ _ S2 (pp.head.up S1 htp)
    exact ⟨v1, tp, cv, t, _, b, rfl, upd_same, k1, ht, hk, q2 _ _ S2 (Ext.hid htp) _ (.bl b)⟩
  · obtain ⟨cv, k1, p1⟩ := cls_ok G hc
    refine PE.at fun ι st ρ σ H Q S r q => ⟨_, pe_callB call_isi (G.gl hg) (G.none (by decide)) (by decide +kernel) (pa_cons (hX _ ha) (pa_cons p1 pa_nil (star_cons _ hy)) (star_cons _ hs)) (by decide) (by decide) (star_cons _ hs) (by rw [star_cons _ hy]; rfl), ?_⟩
    refine (rdE_then S r .nil q).mono fun v1 H1 ⟨ι1, st1, w1, S1, r1, pp, _, q1⟩ => ?_
    obtain ⟨b, hb, q2⟩ := opt_bind q1
    obtain ⟨_, t, ht, hk⟩ := G.env.isi st1 w1 [c] b hb _ _ _ S1 pp.head
    refine ⟨v1, cv, t, _, b, rfl, k1, ht, ?_, val_ok S1 (.bl b) q2⟩
    have hk' : (match PySem.W.kitOne X.K t (clsV N c) with | some true => some true | some false => some false | none => none) = some b := by
      have h' := hk
      simp only [List.map_cons, List.map_nil] at h'
      unfold PySem.W.kitAny at h'
      cases e : PySem.W.kitOne X.K t (clsV N c) with
      | none => rw [e] at h'; exact h'
      | some z => cases z <;> (rw [e] at h'; exact h')
    cases e : PySem.W.kitOne X.K t (clsV N c) with
    | none => rw [e] at hk'; cases hk'
    | some z => cases z <;> (rw [e] at hk'; exact hk')

/-- a value's truth -/
theorem pt_tru {e : Expr} {ev : Loc → Store → R W} (h : PE X e (rdE X.K N Wx ev)) (he : ∀ whole, isTrue e X.env whole = (do let v ← whole; standAt e.pos; holding [v] (truthy v))) :
    PT X e (rdT X.K N Wx fun ρ st => (ev ρ st).bind fun w st => ofOpt (truW st w) st) := by
  refine PT.at fun ι st ρ σ H Q S r q => ⟨_, pt_truth h he, ?_⟩
  refine (rdE_then S r .nil q).mono fun v1 H1 ⟨ι1, st1, w1, S1, r1, p1, _, q1⟩ => ?_
  obtain ⟨b, e, q2⟩ := opt_ok q1
  exact ⟨b, truW_ok S1 p1.head e, q2 _ _ S1 .refl⟩
theorem resP.bl {K : PySem.W.Frag} {ι : List Addr} {H : Hp} {E : XK} {x : R Bool} {Q : Bool → Hp → Prop} (h : resP K N ι H E x (fun b _ H' => Q b H')) : resP K N ι H E (x.bind fun b st => .ok (.bl b) st) (PQ K fun v H' => ∃ c, v = .bl c ∧ Q c H') := by
  cases x with
  | ok b st => exact fun ι' H' S' E' v rv => by cases rv; exact ⟨b, rfl, h ι' H' S' E'⟩
  | exc _ _ _ => exact h
  | bad => exact h
/-- a truth's truth -/
theorem pt_bl {e : Expr} {ev : Loc → Store → R Bool} (h : PE X e (rdE X.K N Wx fun ρ st => (ev ρ st).bind fun b st => .ok (.bl b) st)) (he : ∀ whole, isTrue e X.env whole = (do let v ← whole; standAt e.pos; holding [v] (truthy v))) :
    PT X e (rdT X.K N Wx ev) := by
  refine PT.at fun ι st ρ σ H Q S r q => ⟨_, pt_val h he, ?_⟩
  exact ⟨ι, st, ρ, S, r, q.bl⟩
end
end Mx

/-! A comprehension's turns. -/
namespace Mx
open PySem PySem.Spec PyProof.Rows L2

abbrev noW : WX := fun _ _ _ _ => False
def lcBody (o : Orc) (t : CT) (ifs : CA) (e : CE) : W → Loc → Store → R (Option W) := fun w ρ st => (evG o t w ρ st).bind fun ρ' st =>
  (evTs o ifs ρ' st).bind fun k st => match k with
    | true => (evE o e ρ' st).bind fun u st => .ok (some u) st
    | false => .ok none st

section
variable {K : PySem.W.Frag} {N : Nm} {ι ι1 : List Addr} {H H1 : Hp} {st st1 : Store} {ρ : Loc} {σ : L2.St} {E : XK} {Q : VK} {o : Orc} {D : Addr}
theorem lc_ok {t : CT} {ifs : CA} {e : CE} {it : Iter} {J : It} {sl own : List Nat} (hsl : ∀ i ∈ sl, i ∈ own) (S1 : SR K N ι1 H1 st1) (r1 : RS K ι1 H1 ρ σ) (rJ : IR K ι1 H1 it J)
    (q : resP K N ι1 H1 E ((lcLoop (lcBody o t ifs e) it (own.foldr (fun i ρ => ρ.set i none) ρ) it.most 0 [] st1).bind newLst) (PQ K Q)) (hD : H1 D = none) :
    ∃ W : Nat → Nat → Hp → Prop, (∃ m, W 0 m (upd H1 D (.lst []))) ∧ ∀ i m H, W i m H →
      (J.stop i H ∧ Q (.ref D) H) ∨ (J.go i H ∧ ∃ Nx : Hp → Prop, (∀ H', Nx H' → ∃ m', m' < m ∧ W (i + 1) m' H') ∧ ∀ x H', J.yld i H x H' →
        rdG K N noW sl (evG o t) x (wipe σ own) H' fun σ2 H2 => wipe σ2 own = wipe σ own ∧ rdT K N noW (evTs o ifs) σ2 H2 fun b H3 =>
          if b = true then rdE K N noW (evE o e) σ2 H3 fun y H4 => ∃ acc, H4 D = some (.lst acc) ∧ acc.length < sizeLine ∧ Nx (upd H4 D (.lst (acc ++ [y]))) else Nx H3) := by
  let ρ0 := own.foldr (fun i ρ => ρ.set i none) ρ
  let Wf : Nat → Nat → Hp → Prop := fun i m H => ∃ ι2 st2 acc accv, SR K N ι2 H st2 ∧ RS K ι2 H ρ0 (wipe σ own) ∧ IR K ι2 H it J ∧ H D = some (.lst accv) ∧ RVs K ι2 H acc accv ∧ D ∉ ι2 ∧ Ext ι1 H1 ι2 H ∧
    resP K N ι1 H1 E ((lcLoop (lcBody o t ifs e) it ρ0 m i acc st2).bind newLst) (PQ K Q)
  refine ⟨Wf, ⟨it.most, ι1, st1, [], [], S1.hid hD, (r1.wipe own).ext S1 (Ext.hid hD), rJ.ext S1 (Ext.hid hD), upd_same, .nil, S1.no hD, Ext.hid hD, q⟩, ?_⟩
  rintro i m H ⟨ι2, st2, acc, accv, S2, r2, rJ2, hDl, ra, hn, E2, q2⟩
  have endc : it.get st2 i = some none → resP K N ι1 H1 E (newLst acc st2) (PQ K Q) → J.stop i H ∧ Q (.ref D) H := by
    intro hg qe
    refine ⟨rJ2.stop S2 hg, ?_⟩
    unfold newLst at qe
    split at qe
    · exact qe _ _ (S2.take hn hDl ra) (E2.take hD) (.ref D) (.ref (by rw [← S2.len]; simp))
    · exact qe.elim
  cases m with
  | zero =>
    simp only [lcLoop] at q2
    cases hg : it.get st2 i with
    | none => rw [hg] at q2; exact q2.elim
    | some z =>
      rw [hg] at q2
      cases z with
      | none => exact .inl (endc hg q2)
      | some w => exact q2.elim
  | succ m =>
    simp only [lcLoop] at q2
    cases hg : it.get st2 i with
    | none => rw [hg] at q2; exact q2.elim
    | some z =>
      rw [hg] at q2
      cases z with
      | none => exact .inl (endc hg q2)
      | some w =>
        refine .inr ?_
        obtain ⟨go, yl⟩ := rJ2.item S2 hg
        refine ⟨go, Wf (i + 1) m, fun H' h => ⟨m, Nat.lt_succ_self _, h⟩, fun x H' hy => ?_⟩
        obtain ⟨S3, E3, rx⟩ := yl x H' hy
        simp only at q2
        have D3 := E3.out hn hDl
        refine ⟨ι2, st2, ρ0, w, S3, r2.ext S2 E3, rx, ?_⟩
        cases hG : evG o t w ρ0 st2 with
        | bad => simp only [lcBody, hG, R.bind] at q2; exact q2.elim
        | exc c fs st' => simp only [lcBody, hG, R.bind] at q2; exact q2.elim
        | ok ρ4 st4 =>
          simp only [lcBody, hG, R.bind] at q2
          intro ι4 H4 S4 E4 σ4 hl hsame r4
          have D4 := E4.out D3.1 D3.2
          refine ⟨(wipe_eq (σ := wipe σ own) hl (fun j hj => hsame j (fun z => hj (hsl j z)))).trans (wipe_twice σ own), ?_⟩
          refine ⟨ι4, st4, ρ4, S4, r4, ?_⟩
          cases hT : evTs o ifs ρ4 st4 with
          | bad => simp only [hT] at q2; exact q2.elim
          | exc c fs st' => simp only [hT] at q2; exact q2.elim
          | ok b st5 =>
            simp only [hT] at q2
            intro ι5 H5 S5 E5
            have D5 := E5.out D4.1 D4.2
            cases b with
            | false =>
              simp only at q2
              show Wf (i + 1) m H5
              have EE := ((E3.trans E4).trans E5)
              exact ⟨ι5, st5, acc, accv, S5, r2.ext S2 EE, rJ2.ext S2 EE, D5.2, ra.ext S2 EE, D5.1, E2.trans EE, q2⟩
            | true =>
              simp only at q2
              show rdE K N noW (evE o e) σ4 H5 _
              refine ⟨ι5, st5, ρ4, S5, r4.ext S4 E5, ?_⟩
              cases hE : evE o e ρ4 st5 with
              | bad => simp only [hE] at q2; exact q2.elim
              | exc c fs st' => simp only [hE] at q2; exact q2.elim
              | ok u st6 =>
                simp only [hE] at q2
                intro ι6 H6 S6 E6 y ry
                have D6 := E6.out D5.1 D5.2
                have EE := ((E3.trans E4).trans E5).trans E6
                by_cases hlen : acc.length < sizeLine
                · rw [if_pos hlen] at q2
                  have hlen' : accv.length < sizeLine := by rw [← ra.length]; exact hlen
                  refine ⟨accv, D6.2, hlen', ι6, st6, acc ++ [u], accv ++ [y], S6.side D6.1 D6.2, ?_, ?_, upd_same, ?_, D6.1, (E2.trans EE).side hD, q2⟩
                  · have := r2.ext S2 EE
                    exact ⟨this.1, fun i w e => let ⟨v, h1, h2⟩ := this.2 i w e; ⟨v, h1, h2.mono (fun _ _ h => h) (side_tup D6.2) (side_frz D6.2)⟩⟩
                  · exact (rJ2.ext S2 EE).mono (fun _ _ h => h) (side_tup D6.2) (side_frz D6.2)
                  · exact ((ra.ext S2 EE).append (.one ry)).mono (fun _ _ h => h) (side_tup D6.2) (side_frz D6.2)
                · rw [if_neg hlen] at q2; exact q2.elim
end
end Mx

/-! The main proof: the other expressions. -/
namespace Mx
open PySem PySem.Spec PyProof.Rows L2

section
variable {o : Orc} {N : Nm} {k : Nat} {T : Stc} {Wx : WX} {X : Cx}
abbrev HE (o : Orc) (N : Nm) (T : Stc) (Wx : WX) (X : Cx) (c : CE) : Prop := ∀ e, okE T c e = true → PE X e (rdE X.K N Wx (evE o c))
abbrev HT (o : Orc) (N : Nm) (T : Stc) (Wx : WX) (X : Cx) (c : CE) : Prop := ∀ e, okE T c e = true → PT X e (rdT X.K N Wx (evT o c))
abbrev HA (o : Orc) (N : Nm) (T : Stc) (Wx : WX) (X : Cx) (c : CA) : Prop := ∀ e, okA T c e = true → PA X e (rdA X.K N Wx (evA o c))

theorem resP.ok1 {K : PySem.W.Frag} {α : Type} {ι : List Addr} {H : Hp} {E : XK} {st : Store} {a : α} {P : α → List Addr → Hp → Prop} (h : resP K N ι H E (.ok a st) P) (S : SR K N ι H st) : P a ι H := h ι H S .refl

theorem e_con {w : W} {v : V} {e : Expr} {c : CE} (hv : ∀ ι H, RV X.K ι H w v) (hc : ∀ ρ st, evE o c ρ st = .ok w st) (h : PE X e (tC v)) : PE X e (rdE X.K N Wx (evE o c)) := by
  refine PE.at fun ι st ρ σ H Q S r q => ⟨_, h, ?_⟩
  rw [hc] at q
  exact val_ok S (hv _ _) q
theorem e_glb (G : Good T o N k Wx X) {g : Nat} {e : Expr} (h : okE T (.glb g) e = true) : PE X e (rdE X.K N Wx (evE o (.glb g))) := by
  obtain ⟨x, p, rfl, rfl, hg, hp⟩ := inv_glb h
  refine PE.at fun ι st ρ σ H Q S r q => ?_
  have q' : resP X.K N ι H (fun c d H' => Wx c d σ H') (ofOpt (o.glb g) st) (PQ X.K Q) := q
  obtain ⟨w, e, q2⟩ := opt_ok q'
  obtain ⟨u, v, hm, hr, hv⟩ := G.env.glb g w e
  exact ⟨_, pe_glob (G.gl hg) hm hr (plainN1 hp).1, val_ok S (hv _ _) q2⟩
theorem e_bop (G : Good T o N k Wx X) {op : Operator} {a b : CE} {e : Expr} (h : okE T (.bop op a b) e = true) (hA : HE o N T Wx X a) (hB : HE o N T Wx X b) : PE X e (rdE X.K N Wx (evE o (.bop op a b))) := by
  obtain ⟨x, y, p, rfl, hx, hy⟩ := inv_bop h
  refine PE.at fun ι st ρ σ H Q S r q => ⟨_, pe_op (op_U _) (hA _ hx) (hB _ hy), ?_⟩
  refine (rdE_then S r .nil q).mono fun v1 H1 ⟨ι1, st1, w1, S1, r1, p1, _, q1⟩ => ?_
  refine (rdE_then S1 r1 p1 q1).mono fun v2 H2 ⟨ι2, st2, w2, S2, r2, p2, _, q2⟩ => ?_
  exact opBin_ok S2 p2.tail.head p2.head q2
theorem e_neg (G : Good T o N k Wx X) {a : CE} {e : Expr} (h : okE T (.neg a) e = true) (hA : HE o N T Wx X a) : PE X e (rdE X.K N Wx (evE o (.neg a))) := by
  obtain ⟨x, p, rfl, hx⟩ := inv_neg h
  refine PE.at fun ι st ρ σ H Q S r q => ⟨_, pe_un un_neg (hA _ hx), ?_⟩
  refine (rdE_then S r .nil q).mono fun v1 H1 ⟨ι1, st1, w1, S1, r1, p1, _, q1⟩ => ?_
  cases w1 with
  | int i => cases p1.head; exact ⟨i, rfl, val_ok S1 (.int _) q1⟩
  | _ => exact q1.elim
theorem e_cmp (G : Good T o N k Wx X) {op : CmpOp} {a b : CE} {e : Expr} (h : okE T (.cmp op a b) e = true) (hA : HE o N T Wx X a) (hB : HE o N T Wx X b) : PE X e (rdE X.K N Wx (evE o (.cmp op a b))) := by
  obtain ⟨x, y, p, rfl, hm, hx, hy⟩ := inv_cmp h
  refine PE.at fun ι st ρ σ H Q S r q => ⟨_, pe_cmpR (op_U _) (hA _ hx) (hB _ hy) hm, ?_⟩
  refine (rdE_then S r .nil q).mono fun v1 H1 ⟨ι1, st1, w1, S1, r1, p1, _, q1⟩ => ?_
  refine (rdE_then S1 r1 p1 q1).mono fun v2 H2 ⟨ι2, st2, w2, S2, r2, p2, _, q2⟩ => ?_
  obtain ⟨c, e, q3⟩ := opt_bind q2
  exact opCmp_ok S2 G.hu p2.tail.head p2.head e (val_ok S2 (.bl _) q3)
theorem t_cmp (G : Good T o N k Wx X) {op : CmpOp} {a b : CE} {e : Expr} (h : okE T (.cmp op a b) e = true) (hA : HE o N T Wx X a) (hB : HE o N T Wx X b) : PT X e (rdT X.K N Wx (evT o (.cmp op a b))) := by
  obtain ⟨x, y, p, rfl, hm, hx, hy⟩ := inv_cmp h
  refine PT.at fun ι st ρ σ H Q S r q => ⟨_, pt_cmpR (op_U _) (hA _ hx) (hB _ hy) hm, ?_⟩
  refine (rdE_then S r .nil q).mono fun v1 H1 ⟨ι1, st1, w1, S1, r1, p1, _, q1⟩ => ?_
  refine (rdE_then S1 r1 p1 q1).mono fun v2 H2 ⟨ι2, st2, w2, S2, r2, p2, _, q2⟩ => ?_
  obtain ⟨c, e, q3⟩ := opt_ok q2
  exact opCmp_ok S2 G.hu p2.tail.head p2.head e ⟨c, rfl, q3.ok1 S2⟩
theorem e_chn (G : Good T o N k Wx X) {op op' : CmpOp} {a b c : CE} {e : Expr} (h : okE T (.chn op op' a b c) e = true) (hA : HE o N T Wx X a) (hB : HE o N T Wx X b) (hC : HE o N T Wx X c) : PE X e (rdE X.K N Wx (evE o (.chn op op' a b c))) := by
  obtain ⟨x, y, z, p, rfl, hx, hy, hz, hs⟩ := inv_chn h
  refine PE.at fun ι st ρ σ H Q S r q => ⟨_, pe_chain (op_U _) (op_U _) (hA _ hx) (hB _ hy) (hC _ hz) (marks_no hs), ?_⟩
  refine (rdE_then S r .nil q).mono fun v1 H1 ⟨ι1, st1, w1, S1, r1, p1, _, q1⟩ => ?_
  refine (rdE_then S1 r1 p1 q1).mono fun v2 H2 ⟨ι2, st2, w2, S2, r2, p2, _, q2⟩ => ?_
  obtain ⟨c, e, q3⟩ := opt_bind q2
  refine opCmp_ok S2 G.hu p2.tail.head p2.head e ⟨c, rfl, ?_⟩
  cases c with
  | true =>
    rw [if_pos rfl]
    refine (rdE_then S2 r2 p2 q3).mono fun v3 H3 ⟨ι3, st3, w3, S3, r3, p3, _, q4⟩ => ?_
    obtain ⟨c, e, q5⟩ := opt_bind q4
    exact opCmp_ok S3 G.hu p3.tail.head p3.head e (val_ok S3 (.bl _) q5)
  | false =>
    rw [if_neg (by decide)]
    exact val_ok S2 (.bl _) q3
theorem t_chn (G : Good T o N k Wx X) {op op' : CmpOp} {a b c : CE} {e : Expr} (h : okE T (.chn op op' a b c) e = true) (hA : HE o N T Wx X a) (hB : HE o N T Wx X b) (hC : HE o N T Wx X c) : PT X e (rdT X.K N Wx (evT o (.chn op op' a b c))) := by
  obtain ⟨x, y, z, p, rfl, hx, hy, hz, hs⟩ := inv_chn h
  refine PT.at fun ι st ρ σ H Q S r q => ⟨_, pt_chain (op_U _) (op_U _) (hA _ hx) (hB _ hy) (hC _ hz) (marks_no hs), ?_⟩
  refine (rdE_then S r .nil q).mono fun v1 H1 ⟨ι1, st1, w1, S1, r1, p1, _, q1⟩ => ?_
  refine (rdE_then S1 r1 p1 q1).mono fun v2 H2 ⟨ι2, st2, w2, S2, r2, p2, _, q2⟩ => ?_
  obtain ⟨c, e, q3⟩ := opt_bind q2
  refine opCmp_ok S2 G.hu p2.tail.head p2.head e ⟨c, rfl, ?_⟩
  cases c with
  | true =>
    rw [if_pos rfl]
    refine (rdE_then S2 r2 p2 q3).mono fun v3 H3 ⟨ι3, st3, w3, S3, r3, p3, _, q4⟩ => ?_
    obtain ⟨c, e, q5⟩ := opt_ok q4
    exact opCmp_ok S3 G.hu p3.tail.head p3.head e ⟨c, rfl, q5.ok1 S3⟩
  | false =>
    rw [if_neg (by decide)]
    exact ⟨false, rfl, q3.ok1 S2⟩
theorem e_and (G : Good T o N k Wx X) {a b : CE} {e : Expr} (h : okE T (.and a b) e = true) (hA : HE o N T Wx X a) (hB : HE o N T Wx X b) : PE X e (rdE X.K N Wx (evE o (.and a b))) := by
  obtain ⟨x, y, rest, p, rfl, hx, hy⟩ := inv_and h
  refine PE.at fun ι st ρ σ H Q S r q => ⟨_, pe_and (hA _ hx) (hB _ hy), ?_⟩
  refine (rdE_then S r .nil q).mono fun v1 H1 ⟨ι1, st1, w1, S1, r1, p1, _, q1⟩ => ?_
  cases w1 with
  | bl c =>
    cases p1.head
    refine ⟨c, rfl, ?_⟩
    cases c with
    | true => rw [if_pos rfl]; exact ⟨ι1, st1, ρ, S1, r1, q1⟩
    | false => rw [if_neg (by decide)]; exact val_ok S1 (.bl _) q1
  | _ => exact q1.elim
theorem e_or (G : Good T o N k Wx X) {a b : CE} {e : Expr} (h : okE T (.or a b) e = true) (hA : HE o N T Wx X a) (hB : HE o N T Wx X b) : PE X e (rdE X.K N Wx (evE o (.or a b))) := by
  obtain ⟨x, y, rest, p, rfl, hx, hy⟩ := inv_or h
  refine PE.at fun ι st ρ σ H Q S r q => ⟨_, pe_or (hA _ hx) (hB _ hy), ?_⟩
  refine (rdE_then S r .nil q).mono fun v1 H1 ⟨ι1, st1, w1, S1, r1, p1, _, q1⟩ => ?_
  cases w1 with
  | bl c =>
    cases p1.head
    refine ⟨c, rfl, ?_⟩
    cases c with
    | false => rw [if_neg (by decide)]; exact ⟨ι1, st1, ρ, S1, r1, q1⟩
    | true => rw [if_pos rfl]; exact val_ok S1 (.bl _) q1
  | _ => exact q1.elim
theorem e_not (G : Good T o N k Wx X) {a : CE} {e : Expr} (h : okE T (.not a) e = true) (hA : HE o N T Wx X a) : PE X e (rdE X.K N Wx (evE o (.not a))) := by
  obtain ⟨x, p, rfl, hx⟩ := inv_not h
  refine PE.at fun ι st ρ σ H Q S r q => ⟨_, pe_not (hA _ hx), ?_⟩
  refine (rdE_then S r .nil q).mono fun v1 H1 ⟨ι1, st1, w1, S1, r1, p1, _, q1⟩ => ?_
  cases w1 with
  | bl c => cases p1.head; exact ⟨c, rfl, val_ok S1 (.bl _) q1⟩
  | _ => exact q1.elim
theorem t_not (G : Good T o N k Wx X) {a : CE} {e : Expr} (h : okE T (.not a) e = true) (hA : HT o N T Wx X a) : PT X e (rdT X.K N Wx (evT o (.not a))) := by
  obtain ⟨x, p, rfl, hx⟩ := inv_not h
  refine PT.at fun ι st ρ σ H Q S r q => ⟨_, pt_not (hA _ hx), ?_⟩
  exact (rdT_then S r .nil q).mono fun c H1 ⟨ι1, st1, S1, r1, p1, _, q1⟩ => q1.ok1 S1
theorem w_and (G : Good T o N k Wx X) {a b : CE} {e : Expr} (h : okE T (.and a b) e = true) (hA : HT o N T Wx X a) (hB : ∀ op xs p, okE T b (.BoolOp op xs p) = true → PW X (.BoolOp op xs p) (rdT X.K N Wx (evT o b))) : PW X e (rdT X.K N Wx (evT o (.and a b))) := by
  obtain ⟨x, y, rest, p, rfl, hx, hy⟩ := inv_and h
  refine PW.at fun ι st ρ σ H Q S r q => ⟨_, pw_and (hA _ hx) (hB _ _ _ hy), ?_⟩
  refine (rdT_then S r .nil q).mono fun c H1 ⟨ι1, st1, S1, r1, p1, _, q1⟩ => ?_
  cases c with
  | true => rw [if_pos rfl]; exact ⟨ι1, st1, ρ, S1, r1, q1⟩
  | false => rw [if_neg (by decide)]; exact q1.ok1 S1
theorem w_or (G : Good T o N k Wx X) {a b : CE} {e : Expr} (h : okE T (.or a b) e = true) (hA : HT o N T Wx X a) (hB : ∀ op xs p, okE T b (.BoolOp op xs p) = true → PW X (.BoolOp op xs p) (rdT X.K N Wx (evT o b))) : PW X e (rdT X.K N Wx (evT o (.or a b))) := by
  obtain ⟨x, y, rest, p, rfl, hx, hy⟩ := inv_or h
  refine PW.at fun ι st ρ σ H Q S r q => ⟨_, pw_or (hA _ hx) (hB _ _ _ hy), ?_⟩
  refine (rdT_then S r .nil q).mono fun c H1 ⟨ι1, st1, S1, r1, p1, _, q1⟩ => ?_
  cases c with
  | false => rw [if_neg (by decide)]; exact ⟨ι1, st1, ρ, S1, r1, q1⟩
  | true => rw [if_pos rfl]; exact q1.ok1 S1
theorem e_ife (G : Good T o N k Wx X) {c a b : CE} {e : Expr} (h : okE T (.ife c a b) e = true) (hC : HT o N T Wx X c) (hA : HE o N T Wx X a) (hB : HE o N T Wx X b) : PE X e (rdE X.K N Wx (evE o (.ife c a b))) := by
  obtain ⟨x, y, z, p, rfl, hx, hy, hz⟩ := inv_ife h
  refine PE.at fun ι st ρ σ H Q S r q => ⟨_, pe_ifExp (hC _ hx) (hA _ hy) (hB _ hz), ?_⟩
  refine (rdT_then S r .nil q).mono fun c H1 ⟨ι1, st1, S1, r1, p1, _, q1⟩ => ?_
  cases c with
  | false => rw [if_neg (by decide)]; exact ⟨ι1, st1, ρ, S1, r1, q1⟩
  | true => rw [if_pos rfl]; exact ⟨ι1, st1, ρ, S1, r1, q1⟩
theorem e_tup (G : Good T o N k Wx X) {es : CA} {e : Expr} (h : okE T (.tup es) e = true) (hA : HA o N T Wx X es) : PE X e (rdE X.K N Wx (evE o (.tup es))) := by
  obtain ⟨xs, kk, p, rfl, ha⟩ := inv_tup h
  refine PE.at fun ι st ρ σ H Q S r q => ⟨_, pe_tup (hA _ ha), ?_⟩
  refine (rdA_then S r .nil q).mono fun v1 H1 ⟨ι1, st1, us, S1, r1, ru, p1, _, q1⟩ => ?_
  split at q1
  · rename_i hz; exact ⟨by rw [← ru.length]; exact hz, tup_ok S1 ru q1⟩
  · exact q1.elim
theorem e_lst (G : Good T o N k Wx X) {es : CA} {e : Expr} (h : okE T (.lst es) e = true) (hA : HA o N T Wx X es) : PE X e (rdE X.K N Wx (evE o (.lst es))) := by
  obtain ⟨xs, p, rfl, ha⟩ := inv_lst h
  refine PE.at fun ι st ρ σ H Q S r q => ⟨_, pe_lst (hA _ ha), ?_⟩
  exact (rdA_then S r .nil q).mono fun v1 H1 ⟨ι1, st1, us, S1, r1, ru, p1, _, q1⟩ => newLst_ok S1 ru q1
theorem e_dct (G : Good T o N k Wx X) {e : Expr} (h : okE T .dct e = true) : PE X e (rdE X.K N Wx (evE o .dct)) := by
  obtain ⟨p, rfl⟩ := inv_dct h
  refine PE.at fun ι st ρ σ H Q S r q => ⟨_, pe_dnewK, fun p hp => ?_⟩
  refine q (ι ++ [p]) _ (S.laid hp (.dic upd_same .nil)) (Ext.laid S hp) _ (.ref ?_)
  rw [← S.len]; simp
theorem e_slc (G : Good T o N k Wx X) {a : CE} {lo hi : CO} {e : Expr} (h : okE T (.slc a lo hi) e = true) (hA : HE o N T Wx X a) (hL : ∀ e, okO T lo e = true → PO X e (rdO X.K N Wx (evO o lo))) (hH : ∀ e, okO T hi e = true → PO X e (rdO X.K N Wx (evO o hi))) : PE X e (rdE X.K N Wx (evE o (.slc a lo hi))) := by
  obtain ⟨x, l, u, q, p, rfl, hx, hl, hu⟩ := inv_slc h
  refine PE.at fun ι st ρ σ H Q S r q => ⟨_, pe_slice sl_U (hA _ hx) (hL _ hl) (hH _ hu), ?_⟩
  refine (rdE_then S r .nil q).mono fun v1 H1 ⟨ι1, st1, w1, S1, r1, p1, _, q1⟩ => ?_
  refine (rdO_then S1 r1 p1 q1).mono fun l H2 ⟨ι2, st2, S2, r2, p2, _, q2⟩ => ?_
  refine (rdO_then S2 r2 p2 q2).mono fun h H3 ⟨ι3, st3, S3, r3, p3, _, q3⟩ => ?_
  exact slW_ok S3 p3.head q3
theorem a_nil {es : List Expr} (h : okA T .nil es = true) : PA X es (rdA X.K N Wx (evA o .nil)) := by
  obtain rfl := inv_anil h
  exact PA.at fun ι st ρ σ H Q S r q => ⟨_, pa_nil, q.ok1 S [] .nil⟩
theorem a_cons {a : CE} {as : CA} {es : List Expr} (h : okA T (.cons a as) es = true) (hA : HE o N T Wx X a) (hR : HA o N T Wx X as) : PA X es (rdA X.K N Wx (evA o (.cons a as))) := by
  obtain ⟨x, xs, rfl, hs, hx, hr⟩ := inv_acons h
  refine PA.at fun ι st ρ σ H Q S r q => ⟨_, pa_cons (hA _ hx) (hR _ hr) (star_cons _ hs), ?_⟩
  refine (rdE_then S r .nil q).mono fun v1 H1 ⟨ι1, st1, w1, S1, r1, p1, _, q1⟩ => ?_
  exact (rdA_then S1 r1 p1 q1).mono fun v2 H2 ⟨ι2, st2, us, S2, r2, ru, p2, _, q2⟩ => q2.ok1 S2 _ (.cons p2.head ru)
theorem o_no {e : Option Expr} (h : okO T .no e = true) : PO X e (rdO X.K N Wx (evO o .no)) := by
  obtain rfl := inv_ono h
  exact PO.at fun ι st ρ σ H Q S r q => ⟨_, po_none, q.ok1 S⟩
theorem o_yes {a : CE} {e : Option Expr} (h : okO T (.yes a) e = true) (hA : HE o N T Wx X a) : PO X e (rdO X.K N Wx (evO o (.yes a))) := by
  obtain ⟨x, rfl, hx⟩ := inv_oyes h
  refine PO.at fun ι st ρ σ H Q S r q => ⟨_, po_some (hA _ hx), ?_⟩
  refine (rdE_then S r .nil q).mono fun v1 H1 ⟨ι1, st1, w1, S1, r1, p1, _, q1⟩ => ?_
  cases w1 with
  | int i => cases p1.head; exact ⟨i, rfl, q1.ok1 S1⟩
  | _ => exact q1.elim
theorem ts_nil {es : List Expr} (h : okTs T .nil es = true) : PTs X es (rdT X.K N Wx (evTs o .nil)) := by
  obtain rfl := inv_tnil h
  exact PTs.at fun ι st ρ σ H Q S r q => ⟨_, pts_nil, q.ok1 S⟩
theorem ts_cons {a : CE} {as : CA} {es : List Expr} (h : okTs T (.cons a as) es = true) (hA : HT o N T Wx X a) : PTs X es (rdT X.K N Wx (evTs o (.cons a as))) := by
  obtain ⟨x, rfl, hx⟩ := inv_tcons h
  exact PTs.at fun ι st ρ σ H Q S r q => ⟨_, pts_one (hA _ hx), ⟨ι, st, ρ, S, r, q⟩⟩

/-! ### truths -/
theorem t_var (G : Good T o N k Wx X) {i : Nat} {e : Expr} (h : okE T (.var i) e = true) : PT X e (rdT X.K N Wx (evT o (.var i))) := by
  have h0 := e_var (Wx := Wx) G h
  obtain ⟨x, p, rfl, hi, hv, hp⟩ := inv_var h
  have := pt_tru h0 (fun _ => rfl)
  have e : (fun ρ st => (evE o (.var i) ρ st).bind fun w st => ofOpt (truW st w) st) = evT o (.var i) := by
    funext ρ st
    simp only [evE, evT]
    split <;> rfl
  rw [e] at this
  exact this
theorem t_call (G : Good T o N k Wx X) {f : Nat} {es : CA} {e : Expr} (h : okE T (.call f es) e = true) (hA : HA o N T Wx X es) : PT X e (rdT X.K N Wx (evT o (.call f es))) := by
  have h0 := e_call (Wx := Wx) G h hA
  obtain ⟨px, y, ys, p, rfl, hf, hg, hp, ha⟩ := inv_call h
  exact pt_tru h0 (fun _ => rfl)
theorem t_bi (G : Good T o N k Wx X) {f : Bi} {es : CA} {e : Expr} (h : okE T (.bi f es) e = true) (hA : HA o N T Wx X es) : PT X e (rdT X.K N Wx (evT o (.bi f es))) := by
  have h0 := e_bi (Wx := Wx) G h hA
  obtain ⟨px, y, ys, p, rfl, hg, ha⟩ := inv_bi h
  exact pt_tru h0 (fun _ => rfl)
theorem t_mth (G : Good T o N k Wx X) {x : CE} {m : Nat} {es : CA} {e : Expr} (h : okE T (.mth x m es) e = true) (hX : HE o N T Wx X x) (hA : HA o N T Wx X es) : PT X e (rdT X.K N Wx (evT o (.mth x m es))) := by
  have h0 := e_mth (Wx := Wx) G h hX hA
  obtain ⟨xe, ap, ys, cp, rfl, hl, hs, hlen, hx, ha⟩ := inv_mth h
  exact pt_tru h0 (fun _ => rfl)
theorem t_idx (G : Good T o N k Wx X) {a i : CE} {e : Expr} (h : okE T (.idx a i) e = true) (hX : HE o N T Wx X a) (hI : HE o N T Wx X i) : PT X e (rdT X.K N Wx (evT o (.idx a i))) := by
  have h0 := e_idx (Wx := Wx) G h hX hI
  obtain ⟨x, y, p, rfl, hs, hx, hy⟩ := inv_idx h
  exact pt_tru h0 (fun _ => rfl)
theorem t_fld (G : Good T o N k Wx X) {x : CE} {f : Nat} {e : Expr} (h : okE T (.fld x f) e = true) (hX : HE o N T Wx X x) : PT X e (rdT X.K N Wx (evT o (.fld x f))) := by
  have h0 := e_fld (Wx := Wx) G h hX
  obtain ⟨xe, p, rfl, hf, hs, hx⟩ := inv_fld h
  exact pt_tru h0 (fun _ => rfl)
theorem t_isi (G : Good T o N k Wx X) {x : CE} {cs : List Nat} {e : Expr} (h : okE T (.isi x cs) e = true) (hX : HE o N T Wx X x) : PT X e (rdT X.K N Wx (evT o (.isi x cs))) := by
  have h0 := e_isi (Wx := Wx) G h hX
  have e1 : evE o (.isi x cs) = fun ρ st => (evT o (.isi x cs) ρ st).bind fun b st => .ok (.bl b) st := by
    funext ρ st
    simp only [evE, evT, R.bind_assoc]
  rw [e1] at h0
  obtain ⟨px, a, p, hg, ha, hs, h⟩ := inv_isi h
  rcases h with ⟨ys, kk, q, rfl, hc⟩ | ⟨c, y, rfl, rfl, hy, hc⟩
  · exact pt_bl h0 (fun _ => rfl)
  · exact pt_bl h0 (fun _ => rfl)
theorem t_blc (G : Good T o N k Wx X) {b : Bool} {e : Expr} (h : okE T (.bl b) e = true) : PT X e (rdT X.K N Wx (evT o (.bl b))) := by
  obtain ⟨kk, p, rfl⟩ := inv_bl h
  exact pt_bl (e_con (o := o) (c := .bl b) (fun _ _ => .bl b) (fun _ _ => rfl) pe_bl) (fun _ => rfl)
theorem t_bad {ev : Loc → Store → R Bool} (hb : ∀ ρ st, ev ρ st = .bad) {e : Expr} : PT X e (rdT X.K N Wx ev) := by
  refine ⟨fun pins s σ H Q I q => ?_⟩
  obtain ⟨ι, st, ρ, S, r, q⟩ := q
  rw [hb] at q
  exact q.elim
end
end Mx

/-! The main proof: what is walked, targets, comprehensions; all expressions. -/
namespace Mx
open PySem PySem.Spec PyProof.Rows L2

section
variable {o : Orc} {N : Nm} {k : Nat} {T : Stc} {Wx : WX} {X : Cx}
theorem resP.calm {K : PySem.W.Frag} {α : Type} {ι : List Addr} {H : Hp} {E E' : XK} {x : R α} {P : α → List Addr → Hp → Prop} (h : resP K N ι H E x.calm P) : resP K N ι H E' x P := by
  cases x with
  | ok a st => exact h
  | exc _ _ _ => exact h.elim
  | bad => exact h.elim
/-- a walk's start, the value at hand -/
theorem i_val (G : Good T o N k Wx X) {a : CE} {tg e : Expr} (h : okI T (.val a) tg e = true) (hA : HE o N T Wx X a) : PI X tg e (rdI X.K N Wx (evI o (.val a))) := by
  have hx : okE T a e = true := h
  refine PI.at fun ι st ρ σ H Q S r q => ?_
  have q' : resP X.K N ι H (fun c d H' => Wx c d σ H') ((evE o a ρ st).bind fun w st => ofOpt (iterOf st w) st) (fun it ι' H' => ∀ J, IR X.K ι' H' it J → Q J H') := q
  have q2 := q'.bindS
  have key : ∀ {P : W → List Addr → Hp → Prop}, resP X.K N ι H (fun c d H' => Wx c d σ H') (evE o a ρ st) P → rdE X.K N Wx (evE o a) σ H (fun v H' => True) ∨ True := fun _ => .inr trivial
  clear key
  cases hv : evE o a ρ st with
  | bad => rw [hv] at q2; exact q2.elim
  | exc c fs st' =>
    rw [hv] at q2
    exact ⟨_, pi_list (hA _ hx), ⟨ι, st, ρ, S, r, by rw [hv]; exact q2⟩⟩
  | ok w st1 =>
    rw [hv] at q'
    have q3 : resP X.K N ι H (fun c d H' => Wx c d σ H') (ofOpt (iterOf st1 w) st1) (fun it ι' H' => ∀ J, IR X.K ι' H' it J → Q J H') := q'
    obtain ⟨it, e, q4⟩ := opt_ok q3
    cases w with
    | tup ws =>
      cases e
      refine ⟨_, pi_tup (hA _ hx), ⟨ι, st, ρ, S, r, ?_⟩⟩
      rw [hv]
      intro ι1 H1 S1 E1 v rv
      cases rv with | tup hq rr => exact ⟨_, rfl, ⟨_, hq⟩, q4 ι1 H1 S1 E1 _ (.tup hq rr)⟩
    | str z =>
      cases e
      refine ⟨_, pi_str (hA _ hx), ⟨ι, st, ρ, S, r, ?_⟩⟩
      rw [hv]
      intro ι1 H1 S1 E1 v rv
      cases rv
      exact ⟨_, rfl, q4 ι1 H1 S1 E1 _ .str⟩
    | ref n =>
      have e' : (lstAt st1 n).map (fun ws => Iter.lst n ws.length) = some it := e
      cases e2 : lstAt st1 n with
      | none => rw [e2] at e'; cases e'
      | some ws =>
        rw [e2] at e'
        cases e'
        refine ⟨_, pi_list (hA _ hx), ⟨ι, st, ρ, S, r, ?_⟩⟩
        rw [hv]
        intro ι1 H1 S1 E1 v rv
        cases rv with
        | ref hn =>
          obtain ⟨vs, hl, rl⟩ := S1.lst e2 hn
          exact ⟨_, rfl, ⟨_, .of hl⟩, q4 ι1 H1 S1 E1 _ (.lst hn)⟩
    | _ => cases e
theorem rng_ok {i j : Int} {it : Iter} (h : rngI i j = some it) : (-(2 ^ 62) ≤ i ∧ i < 2 ^ 62 ∧ -(2 ^ 62) ≤ j ∧ j < 2 ^ 62) ∧ it = .rng i (j - i).toNat := by
  unfold rngI at h
  split at h
  · rename_i hh
    cases h
    simp only [rngOk, Bool.and_eq_true, decide_eq_true_eq] at hh
    exact ⟨⟨hh.1.1, hh.1.2, hh.2.1, hh.2.2⟩, rfl⟩
  · cases h
theorem i_rng1 (G : Good T o N k Wx X) {a : CE} {tg e : Expr} (h : okI T (.rng1 a) tg e = true) (hA : HE o N T Wx X a) : PI X tg e (rdI X.K N Wx (evI o (.rng1 a))) := by
  obtain ⟨px, x, p, rfl, hg, hs, hx⟩ := inv_rng1 h
  refine PI.at fun ι st ρ σ H Q S r q => ⟨_, pi_range1 (G.gl hg) (G.none (by decide)) (pa_cons (hA _ hx) pa_nil (star_cons _ hs)) (star_cons _ hs), ?_⟩
  refine (rdE_then S r .nil q).mono fun v1 H1 ⟨ι1, st1, w1, S1, r1, p1, _, q1⟩ => ?_
  cases w1 with
  | int j =>
    cases p1.head
    obtain ⟨it, e, q2⟩ := opt_ok q1
    obtain ⟨hb, rfl⟩ := rng_ok e
    refine ⟨j, rfl, hb.2.2.1, hb.2.2.2, ?_⟩
    have := q2.ok1 S1 _ (.rng (K := X.K))
    rw [Int.sub_zero] at this
    exact this
  | _ => exact q1.elim
theorem i_rng2 (G : Good T o N k Wx X) {a b : CE} {tg e : Expr} (h : okI T (.rng2 a b) tg e = true) (hA : HE o N T Wx X a) (hB : HE o N T Wx X b) : PI X tg e (rdI X.K N Wx (evI o (.rng2 a b))) := by
  obtain ⟨px, x, y, p, rfl, hg, hs, hs2, hx, hy⟩ := inv_rng2 h
  refine PI.at fun ι st ρ σ H Q S r q => ⟨_, pi_range2 (G.gl hg) (G.none (by decide)) (pa_cons (hA _ hx) (pa_cons (hB _ hy) pa_nil (star_cons _ hs2)) (star_cons _ hs)) ((star_cons _ hs).trans (by rw [star_cons _ hs2]; rfl)) (star_cons _ hs2), ?_⟩
  refine (rdE_then S r .nil q).mono fun v1 H1 ⟨ι1, st1, w1, S1, r1, p1, _, q1⟩ => ?_
  refine (rdE_then S1 r1 p1 q1).mono fun v2 H2 ⟨ι2, st2, w2, S2, r2, p2, _, q2⟩ => ?_
  split at q2
  · have h1 := p2.tail.head
    have h2 := p2.head
    cases h1
    cases h2
    obtain ⟨it, e, q3⟩ := opt_ok q2
    obtain ⟨hb, rfl⟩ := rng_ok e
    exact ⟨_, _, rfl, hb, q3.ok1 S2 _ (.rng (K := X.K))⟩
  · exact q2.elim
theorem i_rng3 (G : Good T o N k Wx X) {a b c : CE} {tg e : Expr} (h : okI T (.rng3 a b c) tg e = true) (hA : HE o N T Wx X a) (hB : HE o N T Wx X b) (hC : HE o N T Wx X c) : PI X tg e (rdI X.K N Wx (evI o (.rng3 a b c))) := by
  obtain ⟨px, x, y, z, p, rfl, hg, hs, hs2, hs3, hx, hy, hz⟩ := inv_rng3 h
  refine PI.at fun ι st ρ σ H Q S r q => ⟨_, pi_range3 (G.gl hg) (G.none (by decide)) (pa_cons (hA _ hx) (pa_cons (hB _ hy) (pa_cons (hC _ hz) pa_nil (star_cons _ hs3)) (star_cons _ hs2)) (star_cons _ hs)) (star_cons _ hs) (by rw [star_cons _ hs2, star_cons _ hs3]; rfl), ?_⟩
  refine (rdE_then S r .nil q).mono fun v1 H1 ⟨ι1, st1, w1, S1, r1, p1, _, q1⟩ => ?_
  refine (rdE_then S1 r1 p1 q1).mono fun v2 H2 ⟨ι2, st2, w2, S2, r2, p2, _, q2⟩ => ?_
  refine (rdE_then S2 r2 p2 q2).mono fun v3 H3 ⟨ι3, st3, w3, S3, r3, p3, _, q3⟩ => ?_
  split at q3
  · have h1 := p3.tail.tail.head
    have h2 := p3.tail.head
    have h3 := p3.head
    cases h1
    cases h2
    cases h3
    obtain ⟨it, e, q4⟩ := opt_ok q3
    unfold rngCI at e
    split at e
    · rename_i hh
      cases e
      exact ⟨_, _, _, _, rfl, ⟨hh.1, hh.2.1, hh.2.2.1, (Int.toNat_of_nonneg hh.2.2.2).symm⟩, q4.ok1 S3 _ (.rngC (K := X.K))⟩
    · cases e
  · exact q3.elim
theorem lst_map {st : Store} {w : W} {it : Iter} {f : Nat → Nat → Iter} (h : (match w with | .ref n => (lstAt st n).map fun ws => f n ws.length | _ => none) = some it) : ∃ n ws, w = .ref n ∧ lstAt st n = some ws ∧ it = f n ws.length := by
  cases w with
  | ref n =>
    have h' : (lstAt st n).map (fun ws => f n ws.length) = some it := h
    cases e : lstAt st n with
    | none => rw [e] at h'; cases h'
    | some ws => rw [e] at h'; cases h'; exact ⟨n, ws, rfl, e, rfl⟩
  | _ => cases h
theorem i_enum (G : Good T o N k Wx X) {a : CE} {tg e : Expr} (h : okI T (.enum a) tg e = true) (hA : HE o N T Wx X a) : PI X tg e (rdI X.K N Wx (evI o (.enum a))) := by
  obtain ⟨elts, kk, tpos, px, x, p, rfl, rfl, hg, hs, hx⟩ := inv_enum h
  refine PI.at fun ι st ρ σ H Q S r q => ⟨_, pi_enum (G.gl hg) (G.none (by decide)) (pa_cons (hA _ hx) pa_nil (star_cons _ hs)) (star_cons _ hs), ?_⟩
  refine (rdE_then S r .nil q).mono fun v1 H1 ⟨ι1, st1, w1, S1, r1, p1, _, q1⟩ => ?_
  obtain ⟨it, e, q2⟩ := opt_ok q1
  obtain ⟨n, ws, rfl, e1, rfl⟩ := lst_map (f := .enum) (by unfold enumI at e; exact e)
  cases p1.head with
  | ref hn =>
    obtain ⟨vs, hl, rl⟩ := S1.lst e1 hn
    exact ⟨_, _, rfl, .of hl, q2.ok1 S1 _ (.enum hn)⟩
theorem i_rev (G : Good T o N k Wx X) {a : CE} {tg e : Expr} (h : okI T (.rev a) tg e = true) (hA : HE o N T Wx X a) : PI X tg e (rdI X.K N Wx (evI o (.rev a))) := by
  obtain ⟨px, x, p, rfl, hg, hs, hx⟩ := inv_rev h
  refine PI.at fun ι st ρ σ H Q S r q => ⟨_, pi_reversed (G.gl hg) (G.none (by decide)) (pa_cons (hA _ hx) pa_nil (star_cons _ hs)) (star_cons _ hs), ?_⟩
  refine (rdE_then S r .nil q).mono fun v1 H1 ⟨ι1, st1, w1, S1, r1, p1, _, q1⟩ => ?_
  obtain ⟨it, e, q2⟩ := opt_ok q1
  obtain ⟨n, ws, rfl, e1, rfl⟩ := lst_map (f := .rev) (by unfold revI at e; exact e)
  cases p1.head with
  | ref hn =>
    obtain ⟨vs, hl, rl⟩ := S1.lst e1 hn
    exact ⟨_, _, rfl, .of hl, by have := q2.ok1 S1 _ (.rev hn); rw [rl.length] at this; exact this⟩
theorem i_zip (G : Good T o N k Wx X) {a b : CE} {tg e : Expr} (h : okI T (.zip a b) tg e = true) (hA : HE o N T Wx X a) (hB : HE o N T Wx X b) : PI X tg e (rdI X.K N Wx (evI o (.zip a b))) := by
  obtain ⟨elts, kk, tpos, px, x, y, p, rfl, rfl, hg, hs, hs2, hx, hy⟩ := inv_zip h
  refine PI.at fun ι st ρ σ H Q S r q => ⟨_, RZ.pi_zipA (G.gl hg) (G.none (by decide)) (pa_cons (hA _ hx) (pa_cons (hB _ hy) pa_nil (star_cons _ hs2)) (star_cons _ hs)) (star_cons _ hs) (by rw [star_cons _ hs2]; rfl), ?_⟩
  refine (rdE_then S r .nil q).mono fun v1 H1 ⟨ι1, st1, w1, S1, r1, p1, _, q1⟩ => ?_
  refine (rdE_then S1 r1 p1 q1).mono fun v2 H2 ⟨ι2, st2, w2, S2, r2, p2, _, q2⟩ => ?_
  obtain ⟨it, e, q3⟩ := opt_ok q2
  unfold zipI at e
  split at e
  · split at e
    · rename_i n m _ _ ws us e1 e2
      cases e
      have h1 := p2.tail.head
      have h2 := p2.head
      cases h1 with
      | ref hn =>
        cases h2 with
        | ref hm =>
          obtain ⟨vs, hl, rl⟩ := S2.lst e1 hn
          obtain ⟨xs, hl2, rl2⟩ := S2.lst e2 hm
          exact ⟨_, _, _, _, rfl, .inl ⟨.of hl, .of hl2, q3.ok1 S2 _ (.zip hn hm)⟩⟩
    · cases e
  · cases e
    have h1 := p2.tail.head
    have h2 := p2.head
    cases h1 with
    | tup hn ra =>
      cases h2 with
      | tup hm rb => exact ⟨_, _, _, _, rfl, .inr ⟨hn, hm, q3.ok1 S2 _ (.zipT hn ra hm rb)⟩⟩
  · cases e

/-! ### targets -/
abbrev HG (o : Orc) (N : Nm) (T : Stc) (Wx : WX) (X : Cx) (t : CT) : Prop := ∀ e, okG T t e = true → PG X e (rdG X.K N Wx t.slots (evG o t))
abbrev HGs (o : Orc) (N : Nm) (T : Stc) (Wx : WX) (X : Cx) (t : CTs) : Prop := ∀ e, okGs T t e = true → PGs X e (rdGs X.K N Wx t.slots (evGs o t))
theorem g_name (G : Good T o N k Wx X) {i : Nat} {e : Expr} (h : okG T (.name i) e = true) : PG X e (rdG X.K N Wx (CT.slots (.name i)) (evG o (.name i))) := by
  obtain ⟨x, p, rfl, hi, hs⟩ := inv_gname h
  refine PG.at fun ι st ρ w v σ H Q S r rv q => ⟨_, pg_name (by rw [G.n]; exact G.nd) (G.ix hi) (G.sto hs) (G.fn x hs), ?_⟩
  exact q.ok1 S _ (by simp) (set_other (List.mem_singleton.mpr rfl)) (r.set rv i)
theorem gs_len : ∀ {ts : CTs} {es : List Expr}, okGs T ts es = true → ts.len = es.length
  | .nil, [], _ => rfl
  | .nil, _ :: _, h => by simp [okGs] at h
  | .cons _ _, [], h => by simp [okGs] at h
  | .cons _ _, x :: xs, h => by
    simp only [okGs, Bool.and_eq_true] at h
    simp [CTs.len, gs_len h.2]
theorem g_tup (G : Good T o N k Wx X) {ts : CTs} {e : Expr} (h : okG T (.tup ts) e = true) (hT : HGs o N T Wx X ts) : PG X e (rdG X.K N Wx (CT.slots (.tup ts)) (evG o (.tup ts))) := by
  obtain ⟨xs, kk, p, rfl, hx⟩ := inv_gtup h
  obtain ⟨hl, hf⟩ := asg_len X.env hx
  refine PG.at fun ι st ρ w v σ H Q S r rv q => ?_
  have q' : resP X.K N ι H (fun c d H' => Wx c d σ H') (match w with | .tup ws => if ws.length = ts.len then evGs o ts ws ρ st else .bad | .ref n => (match lstAt st n with | some ws => if ws.length = ts.len then evGs o ts ws ρ st else .bad | none => .bad) | _ => .bad) (fun ρ' ι' H' => ∀ σ', σ'.length = σ.length → (∀ j, j ∉ CT.slots (.tup ts) → σ'[j]? = σ[j]?) → RS X.K ι' H' ρ' σ' → Q σ' H') := q
  cases w with
  | tup ws =>
    cases rv with
    | tup hq rr =>
      by_cases he : ws.length = ts.len
      · simp only [if_pos he] at q'
        exact ⟨_, pg_tup G.calm (hT _ hx) hl hf, _, _, rfl, hq, by rw [← rr.length, he, gs_len hx], ι, st, ρ, ws, S, r, rr, q'⟩
      · simp only [if_neg he] at q'
        exact q'.elim
  | ref n =>
    cases rv with
    | @ref _ a ha =>
      cases e : lstAt st n with
      | none => simp only [e] at q'; exact q'.elim
      | some ws =>
        simp only [e] at q'
        by_cases he : ws.length = ts.len
        · simp only [if_pos he] at q'
          obtain ⟨vs, h1, rr⟩ := S.lst e ha
          exact ⟨_, pg_unl G.calm (hT _ hx) hl hf, _, _, rfl, .inl (.inl h1), by rw [← rr.length, he, gs_len hx], ι, st, ρ, ws, S, r, rr, q'⟩
        · simp only [if_neg he] at q'
          exact q'.elim
  | _ => exact q'.elim
theorem g_idx (G : Good T o N k Wx X) {a i : CE} {e : Expr} (h : okG T (.idx a i) e = true) (hA : HE o N T Wx X a) (hI : HE o N T Wx X i) : PG X e (rdG X.K N Wx (CT.slots (.idx a i)) (evG o (.idx a i))) := by
  obtain ⟨x, y, p, rfl, hs, hx, hy⟩ := inv_gidx h
  refine PG.at fun ι st ρ w v σ H Q S r rv q => ⟨_, pg_sub (hA _ hx) (hI _ hy) set_U (fun v => by cases y <;> first | rfl | cases hs), ?_⟩
  refine (rdE_then S r (.one rv) q).mono fun v1 H1 ⟨ι1, st1, w1, S1, r1, p1, _, q1⟩ => ?_
  refine (rdE_then S1 r1 p1 q1).mono fun v2 H2 ⟨ι2, st2, w2, S2, r2, p2, _, q2⟩ => ?_
  split at q2
  · rename_i st3 e
    refine setW_ok G.hu S2 p2.tail.head p2.head p2.tail.tail.head e fun H' S3 E3 => ?_
    exact q2 _ _ S3 E3 σ rfl (fun _ _ => rfl) (r2.ext S2 E3)
  · exact q2.elim
theorem g_fld (G : Good T o N k Wx X) {a : CE} {f : Nat} {e : Expr} (h : okG T (.fld a f) e = true) (hA : HE o N T Wx X a) : PG X e (rdG X.K N Wx (CT.slots (.fld a f)) (evG o (.fld a f))) := by
  obtain ⟨x, p, rfl, hf, hx⟩ := inv_gfld h
  refine PG.at fun ι st ρ w v σ H Q S r rv q => ⟨_, pg_fldD (hA _ hx), ?_⟩
  refine (rdE_then S r (.one rv) q).mono fun v1 H1 ⟨ι1, st1, w1, S1, r1, p1, _, q1⟩ => ?_
  split at q1
  · rename_i st3 e
    unfold setFldW at e
    split at e
    · rename_i n
      split at e
      · rename_i c fs ec
        split at e
        · rename_i hz
          cases e
          have h1 := p1.head
          cases h1 with
          | @ref _ a hn =>
            cases S1.at ec hn with
            | @ins _ C dx _ _ vs h hc rf =>
              have inj : ∀ f g, N.fld f = N.fld g → f = g := by rw [G.env.fld]; exact G.env.inj
              obtain ⟨c1, c2⟩ := G.env.noat c C hc
              have ham : a ∈ ι1 := List.mem_of_getElem? hn
              have e3 := Ext.wrote (H := H1) (o := HO.ins C dx (putF (T.T.fl f) v vs)) ham
              refine ⟨a, C, dx, vs, rfl, h, c1, c2 f hf, by rw [← rf.length]; exact hz, ?_⟩
              have rf2 := (rf.put inj p1.tail.head (f := f)).mono e3.pre (S1.tups e3) (S1.frzs e3)
              rw [G.env.fld] at rf2
              exact q1 _ _ (S1.wrote hn (.ins upd_same hc rf2)) e3 σ rfl (fun _ _ => rfl) (r1.ext S1 e3)
        · cases e
      · cases e
    · cases e
  · exact q1.elim
theorem gs_nil (G : Good T o N k Wx X) {e : List Expr} (h : okGs T .nil e = true) : PGs X e (rdGs X.K N Wx (CTs.slots .nil) (evGs o .nil)) := by
  obtain rfl := inv_gnil h
  refine PGs.at fun ι st ρ w v σ H Q S r rv q => ⟨_, pgs_nil, ?_⟩
  cases rv with
  | nil => exact ⟨rfl, q.ok1 S _ rfl (fun _ _ => rfl) r⟩
  | cons _ _ => exact q.elim
theorem gs_cons (G : Good T o N k Wx X) {t : CT} {ts : CTs} {e : List Expr} (h : okGs T (.cons t ts) e = true) (hG : HG o N T Wx X t) (hR : HGs o N T Wx X ts) : PGs X e (rdGs X.K N Wx (CTs.slots (.cons t ts)) (evGs o (.cons t ts))) := by
  obtain ⟨x, xs, rfl, hs, hx, hr⟩ := inv_gcons h
  refine PGs.at fun ι st ρ w v σ H Q S r rv q => ⟨_, pgs_cons (hG _ hx) (hR _ hr) (asg_cons _ hs), ?_⟩
  cases rv with
  | nil => exact q.elim
  | @cons w v ws vs rw' rs =>
    have q' : resP X.K N ι H (fun c d H' => Wx c d σ H') ((evG o t w ρ st).bind fun ρ st => (evGs o ts ws ρ st).calm) (fun ρ' ι' H' => ∀ σ', σ'.length = σ.length → (∀ j, j ∉ CTs.slots (.cons t ts) → σ'[j]? = σ[j]?) → RS X.K ι' H' ρ' σ' → Q σ' H') := q
    refine ⟨v, vs, rfl, ι, st, ρ, w, S, r, rw', q'.bindS.imp fun ρ1 ι1 H1 ⟨st1, S1, E1, q1⟩ σ1 hl1 hs1 r1 => ?_⟩
    refine ⟨ι1, st1, ρ1, ws, S1, r1, rs.ext S E1, (q1.calm (E' := fun c d H' => Wx c d σ1 H')).imp fun ρ2 ι2 H2 z σ2 hl2 hs2 r2 => z σ2 (hl2.trans hl1) (fun j hj => ?_) r2⟩
    have hj' : j ∉ t.slots ∧ j ∉ ts.slots := by
      constructor
      · exact fun hh => hj (List.mem_append.mpr (.inl hh))
      · exact fun hh => hj (List.mem_append.mpr (.inr hh))
    rw [hs2 j hj'.2, hs1 j hj'.1]

/-! ### comprehensions -/
theorem lc_at (G : Good T o N k Wx X) {own : List Nat} {t : CT} {it : CI} {ifs : CA} {c : CE} {ι : List Addr} {st : Store} {ρ : Loc} {σ : L2.St} {H : Hp} {Q : VK} (hsl : (t.slots.all fun i => own.contains i) = true) (S : SR X.K N ι H st) (r : RS X.K ι H ρ σ)
    (q : resP X.K N ι H (fun c d H' => Wx c d σ H') (evE o (.lc own t it ifs c) ρ st) (PQ X.K Q)) :
    tLc (rdI X.K N Wx (evI o it)) (rdG X.K N noW t.slots (evG o t)) (rdT X.K N noW (evTs o ifs)) (rdE X.K N noW (evE o c)) ((own.map fun i => (T.N.getD i "", i)).map (·.2)) σ H Q := by
  have e : (own.map fun i => (T.N.getD i "", i)).map (·.2) = own := by
    rw [List.map_map]
    exact List.map_id' own
  rw [e]
  refine ⟨ι, st, ρ, S, r, (resP.bindS q).imp fun J ι1 H1 ⟨st1, S1, E1, q1⟩ J' rJ => fun D hD => ?_⟩
  refine lc_ok (fun i hi => ?_) S1 (r.ext S E1) rJ q1 hD
  have := List.all_eq_true.mp hsl i hi
  exact List.contains_iff_mem.mp this
theorem e_lc (G : Good T o N k Wx X) {own : List Nat} {t : CT} {it : CI} {ifs : CA} {c : CE} {e : Expr} (h : okE T (.lc own t it ifs c) e = true) (hI : ∀ tg x, okI T it tg x = true → PI X tg x (rdI X.K N Wx (evI o it)))
    (hG : ∀ T' X', Good T' o N k noW X' → HG o N T' noW X' t) (hT : ∀ T' X', Good T' o N k noW X' → ∀ e, okTs T' ifs e = true → PTs X' e (rdT X'.K N noW (evTs o ifs))) (hE : ∀ T' X', Good T' o N k noW X' → HE o N T' noW X' c) :
    PE X e (rdE X.K N Wx (evE o (.lc own t it ifs c))) := by
  obtain ⟨el, scope, p, tg, iter, is, rfl, hb, hsl, hset, hi, hg, hts, he⟩ := inv_lc h
  have B := blkOk_by hb
  refine PE.at fun ι st ρ σ H Q S r q => ⟨_, pe_lc (own := own.map fun i => (T.N.getD i "", i)) G.calm (by rw [G.n]; exact G.nd) (hI _ _ hi) (by rw [G.n, G.sc]; exact B) (fun s H C cl fp => hG _ _ (G.blk B.kind) _ hg) (fun s H C cl fp => hT _ _ (G.blk B.kind) _ hts) (fun s H C cl fp => hE _ _ (G.blk B.kind) _ he) (fun x => set_no hset _ x), lc_at G hsl S r q⟩

mutual
theorem sE (o : Orc) (N : Nm) (k : Nat) : ∀ (c : CE) (T : Stc) (Wx : WX) (X : Cx), Good T o N k Wx X → HE o N T Wx X c
  | .var i, _, _, _, G => fun _ h => e_var G h
  | .glb g, _, _, _, G => fun _ h => e_glb G h
  | .int i, _, _, _, G => fun _ h => by obtain ⟨kk, p, rfl⟩ := inv_int h; exact e_con (fun _ _ => .int i) (fun _ _ => rfl) pe_int
  | .bl i, _, _, _, G => fun _ h => by obtain ⟨kk, p, rfl⟩ := inv_bl h; exact e_con (fun _ _ => .bl i) (fun _ _ => rfl) pe_bl
  | .non, _, _, _, G => fun _ h => by obtain ⟨kk, p, rfl⟩ := inv_non h; exact e_con (fun _ _ => .non) (fun _ _ => rfl) pe_non
  | .str z, _, _, _, G => fun _ h => by obtain ⟨kk, p, rfl⟩ := inv_str h; exact e_con (fun _ _ => .str z) (fun _ _ => rfl) pe_str
  | .bop op a b, T, Wx, X, G => fun _ h => e_bop G h (sE o N k a T Wx X G) (sE o N k b T Wx X G)
  | .neg a, T, Wx, X, G => fun _ h => e_neg G h (sE o N k a T Wx X G)
  | .cmp op a b, T, Wx, X, G => fun _ h => e_cmp G h (sE o N k a T Wx X G) (sE o N k b T Wx X G)
  | .chn op op' a b c, T, Wx, X, G => fun _ h => e_chn G h (sE o N k a T Wx X G) (sE o N k b T Wx X G) (sE o N k c T Wx X G)
  | .and1 a, T, Wx, X, G => fun _ h => by obtain ⟨x, p, rfl, hx⟩ := inv_and1 h; exact pe_one (sE o N k a T Wx X G _ hx)
  | .and a b, T, Wx, X, G => fun _ h => e_and G h (sE o N k a T Wx X G) (sE o N k b T Wx X G)
  | .or1 a, T, Wx, X, G => fun _ h => by obtain ⟨x, p, rfl, hx⟩ := inv_or1 h; exact pe_one (sE o N k a T Wx X G _ hx)
  | .or a b, T, Wx, X, G => fun _ h => e_or G h (sE o N k a T Wx X G) (sE o N k b T Wx X G)
  | .not a, T, Wx, X, G => fun _ h => e_not G h (sE o N k a T Wx X G)
  | .ife c a b, T, Wx, X, G => fun _ h => e_ife G h (sT o N k c T Wx X G) (sE o N k a T Wx X G) (sE o N k b T Wx X G)
  | .tup es, T, Wx, X, G => fun _ h => e_tup G h (sA o N k es T Wx X G)
  | .lst es, T, Wx, X, G => fun _ h => e_lst G h (sA o N k es T Wx X G)
  | .dct, _, _, _, G => fun _ h => e_dct G h
  | .call f es, T, Wx, X, G => fun _ h => e_call G h (sA o N k es T Wx X G)
  | .bi f es, T, Wx, X, G => fun _ h => e_bi G h (sA o N k es T Wx X G)
  | .mk c es, T, Wx, X, G => fun _ h => e_mk G h (sA o N k es T Wx X G)
  | .mth x m es, T, Wx, X, G => fun _ h => e_mth G h (sE o N k x T Wx X G) (sA o N k es T Wx X G)
  | .bm m x es, T, Wx, X, G => fun _ h => e_bm G h (sE o N k x T Wx X G) (sA o N k es T Wx X G)
  | .idx a i, T, Wx, X, G => fun _ h => e_idx G h (sE o N k a T Wx X G) (sE o N k i T Wx X G)
  | .slc a lo hi, T, Wx, X, G => fun _ h => e_slc G h (sE o N k a T Wx X G) (sO o N k lo T Wx X G) (sO o N k hi T Wx X G)
  | .fld x f, T, Wx, X, G => fun _ h => e_fld G h (sE o N k x T Wx X G)
  | .isi x cs, T, Wx, X, G => fun _ h => e_isi G h (sE o N k x T Wx X G)
  | .lc own t it ifs c, T, Wx, X, G => fun _ h => e_lc G h (sI o N k it T Wx X G) (fun T' X' G' => sG o N k t T' noW X' G') (fun T' X' G' => sTs o N k ifs T' noW X' G') (fun T' X' G' => sE o N k c T' noW X' G')
theorem sT (o : Orc) (N : Nm) (k : Nat) : ∀ (c : CE) (T : Stc) (Wx : WX) (X : Cx), Good T o N k Wx X → HT o N T Wx X c
  | .var i, _, _, _, G => fun _ h => t_var G h
  | .bl b, _, _, _, G => fun _ h => t_blc G h
  | .cmp op a b, T, Wx, X, G => fun _ h => t_cmp G h (sE o N k a T Wx X G) (sE o N k b T Wx X G)
  | .chn op op' a b c, T, Wx, X, G => fun _ h => t_chn G h (sE o N k a T Wx X G) (sE o N k b T Wx X G) (sE o N k c T Wx X G)
  | .and1 a, T, Wx, X, G => fun _ h => by obtain ⟨x, p, rfl, hx⟩ := inv_and1 h; exact (pw_and1 (sT o N k a T Wx X G _ hx)).pt
  | .and a b, T, Wx, X, G => fun _ h => (w_and G h (sT o N k a T Wx X G) (fun op xs p => sW o N k b T Wx X G op xs p)).pt
  | .or1 a, T, Wx, X, G => fun _ h => by obtain ⟨x, p, rfl, hx⟩ := inv_or1 h; exact (pw_or1 (sT o N k a T Wx X G _ hx)).pt
  | .or a b, T, Wx, X, G => fun _ h => (w_or G h (sT o N k a T Wx X G) (fun op xs p => sW o N k b T Wx X G op xs p)).pt
  | .not a, T, Wx, X, G => fun _ h => t_not G h (sT o N k a T Wx X G)
  | .call f es, T, Wx, X, G => fun _ h => t_call G h (sA o N k es T Wx X G)
  | .bi f es, T, Wx, X, G => fun _ h => t_bi G h (sA o N k es T Wx X G)
  | .mth x m es, T, Wx, X, G => fun _ h => t_mth G h (sE o N k x T Wx X G) (sA o N k es T Wx X G)
  | .idx a i, T, Wx, X, G => fun _ h => t_idx G h (sE o N k a T Wx X G) (sE o N k i T Wx X G)
  | .fld x f, T, Wx, X, G => fun _ h => t_fld G h (sE o N k x T Wx X G)
  | .isi x cs, T, Wx, X, G => fun _ h => t_isi G h (sE o N k x T Wx X G)
  | .glb g, _, _, _, _ => fun _ _ => t_bad fun _ _ => rfl
  | .int i, _, _, _, _ => fun _ _ => t_bad fun _ _ => rfl
  | .non, _, _, _, _ => fun _ _ => t_bad fun _ _ => rfl
  | .str z, _, _, _, _ => fun _ _ => t_bad fun _ _ => rfl
  | .bop op a b, _, _, _, _ => fun _ _ => t_bad fun _ _ => rfl
  | .neg a, _, _, _, _ => fun _ _ => t_bad fun _ _ => rfl
  | .ife c a b, _, _, _, _ => fun _ _ => t_bad fun _ _ => rfl
  | .tup es, _, _, _, _ => fun _ _ => t_bad fun _ _ => rfl
  | .lst es, _, _, _, _ => fun _ _ => t_bad fun _ _ => rfl
  | .dct, _, _, _, _ => fun _ _ => t_bad fun _ _ => rfl
  | .mk c es, _, _, _, _ => fun _ _ => t_bad fun _ _ => rfl
  | .bm m x es, _, _, _, _ => fun _ _ => t_bad fun _ _ => rfl
  | .slc a lo hi, _, _, _, _ => fun _ _ => t_bad fun _ _ => rfl
  | .lc own t it ifs c, _, _, _, _ => fun _ _ => t_bad fun _ _ => rfl
theorem sW (o : Orc) (N : Nm) (k : Nat) : ∀ (c : CE) (T : Stc) (Wx : WX) (X : Cx), Good T o N k Wx X → ∀ op xs p, okE T c (.BoolOp op xs p) = true → PW X (.BoolOp op xs p) (rdT X.K N Wx (evT o c))
  | .and1 a, T, Wx, X, G => fun op xs p h => by obtain ⟨x, p, e, hx⟩ := inv_and1 h; rw [e]; exact pw_and1 (sT o N k a T Wx X G _ hx)
  | .and a b, T, Wx, X, G => fun op xs p h => w_and G h (sT o N k a T Wx X G) (fun op xs p => sW o N k b T Wx X G op xs p)
  | .or1 a, T, Wx, X, G => fun op xs p h => by obtain ⟨x, p, e, hx⟩ := inv_or1 h; rw [e]; exact pw_or1 (sT o N k a T Wx X G _ hx)
  | .or a b, T, Wx, X, G => fun op xs p h => w_or G h (sT o N k a T Wx X G) (fun op xs p => sW o N k b T Wx X G op xs p)
  | .not a, _, _, _, _ => fun op xs p h => by cases h
  | .var i, _, _, _, _ => fun op xs p h => by cases h
  | .bl b, _, _, _, _ => fun op xs p h => by cases h
  | .cmp op a b, _, _, _, _ => fun op xs p h => by cases h
  | .chn op op' a b c, _, _, _, _ => fun op xs p h => by cases h
  | .call f es, _, _, _, _ => fun op xs p h => by cases h
  | .bi f es, _, _, _, _ => fun op xs p h => by cases h
  | .mth x m es, _, _, _, _ => fun op xs p h => by cases h
  | .idx a i, _, _, _, _ => fun op xs p h => by cases h
  | .fld x f, _, _, _, _ => fun op xs p h => by cases h
  | .isi x cs, _, _, _, _ => fun op xs p h => by cases h
  | .glb g, _, _, _, _ => fun op xs p h => by cases h
  | .int i, _, _, _, _ => fun op xs p h => by cases h
  | .non, _, _, _, _ => fun op xs p h => by cases h
  | .str z, _, _, _, _ => fun op xs p h => by cases h
  | .bop op a b, _, _, _, _ => fun op xs p h => by cases h
  | .neg a, _, _, _, _ => fun op xs p h => by cases h
  | .ife c a b, _, _, _, _ => fun op xs p h => by cases h
  | .tup es, _, _, _, _ => fun op xs p h => by cases h
  | .lst es, _, _, _, _ => fun op xs p h => by cases h
  | .dct, _, _, _, _ => fun op xs p h => by cases h
  | .mk c es, _, _, _, _ => fun op xs p h => by cases h
  | .bm m x es, _, _, _, _ => fun op xs p h => by cases h
  | .slc a lo hi, _, _, _, _ => fun op xs p h => by cases h
  | .lc own t it ifs c, _, _, _, _ => fun op xs p h => by cases h
theorem sTs (o : Orc) (N : Nm) (k : Nat) : ∀ (c : CA) (T : Stc) (Wx : WX) (X : Cx), Good T o N k Wx X → ∀ e, okTs T c e = true → PTs X e (rdT X.K N Wx (evTs o c))
  | .nil, _, _, _, _ => fun _ h => ts_nil h
  | .cons a as, T, Wx, X, G => fun _ h => ts_cons h (sT o N k a T Wx X G)
theorem sA (o : Orc) (N : Nm) (k : Nat) : ∀ (c : CA) (T : Stc) (Wx : WX) (X : Cx), Good T o N k Wx X → HA o N T Wx X c
  | .nil, _, _, _, _ => fun _ h => a_nil h
  | .cons a as, T, Wx, X, G => fun _ h => a_cons h (sE o N k a T Wx X G) (sA o N k as T Wx X G)
theorem sO (o : Orc) (N : Nm) (k : Nat) : ∀ (c : CO) (T : Stc) (Wx : WX) (X : Cx), Good T o N k Wx X → ∀ e, okO T c e = true → PO X e (rdO X.K N Wx (evO o c))
  | .no, _, _, _, _ => fun _ h => o_no h
  | .yes a, T, Wx, X, G => fun _ h => o_yes h (sE o N k a T Wx X G)
theorem sI (o : Orc) (N : Nm) (k : Nat) : ∀ (c : CI) (T : Stc) (Wx : WX) (X : Cx), Good T o N k Wx X → ∀ tg e, okI T c tg e = true → PI X tg e (rdI X.K N Wx (evI o c))
  | .val a, T, Wx, X, G => fun _ _ h => i_val G h (sE o N k a T Wx X G)
  | .rng1 a, T, Wx, X, G => fun _ _ h => i_rng1 G h (sE o N k a T Wx X G)
  | .rng2 a b, T, Wx, X, G => fun _ _ h => i_rng2 G h (sE o N k a T Wx X G) (sE o N k b T Wx X G)
  | .rng3 a b c, T, Wx, X, G => fun _ _ h => i_rng3 G h (sE o N k a T Wx X G) (sE o N k b T Wx X G) (sE o N k c T Wx X G)
  | .enum a, T, Wx, X, G => fun _ _ h => i_enum G h (sE o N k a T Wx X G)
  | .zip a b, T, Wx, X, G => fun _ _ h => i_zip G h (sE o N k a T Wx X G) (sE o N k b T Wx X G)
  | .rev a, T, Wx, X, G => fun _ _ h => i_rev G h (sE o N k a T Wx X G)
theorem sG (o : Orc) (N : Nm) (k : Nat) : ∀ (c : CT) (T : Stc) (Wx : WX) (X : Cx), Good T o N k Wx X → HG o N T Wx X c
  | .name i, _, _, _, G => fun _ h => g_name G h
  | .tup ts, T, Wx, X, G => fun _ h => g_tup G h (sGs o N k ts T Wx X G)
  | .idx a i, T, Wx, X, G => fun _ h => g_idx G h (sE o N k a T Wx X G) (sE o N k i T Wx X G)
  | .fld a f, T, Wx, X, G => fun _ h => g_fld G h (sE o N k a T Wx X G)
theorem sGs (o : Orc) (N : Nm) (k : Nat) : ∀ (c : CTs) (T : Stc) (Wx : WX) (X : Cx), Good T o N k Wx X → HGs o N T Wx X c
  | .nil, _, _, _, G => fun _ h => gs_nil G h
  | .cons t ts, T, Wx, X, G => fun _ h => gs_cons G h (sG o N k t T Wx X G) (sGs o N k ts T Wx X G)
end
end
end Mx

/-! Exceptions: raise, try .. except with one suite. -/
namespace Mx
open PySem PySem.Spec PyProof.Rows L2

section
variable {o : Orc} {N : Nm} {k : Nat} {T : Stc} {Wx : WX} {X : Cx}
theorem Good.tr (G : Good T o N k Wx X) {W : WX} {pn : List (Addr × Obj)} {xe : Value → Shared → Prop} (tk : Takes (X.tr pn xe) W) (ow : PassesOwn (model X.prog X.w) X.A X.env xe) : Good T o N k W (X.tr pn xe) where
  n := G.n
  nd := G.nd
  sc := G.sc
  fn := G.fn
  calm := G.calm
  own := ow
  tk := tk
  env := ⟨G.env.room, G.env.blt, G.env.fld, G.env.call, G.env.glb, G.env.cls, G.env.isi, G.env.make, G.env.mth, G.env.nofm, G.env.inj, G.env.noat, G.env.exc, G.env.exf, G.env.exm⟩
  kind := G.kind
  stk := G.stk
/-- what is there stays -/
def Kp (H H' : Hp) : Prop := ∀ b u, H b = some u → H' b = some u
theorem Kp.refl (H : Hp) : Kp H H := fun _ _ h => h
theorem Kp.trans {A B C : Hp} (h : Kp A B) (g : Kp B C) : Kp A C := fun b u e => g b u (h b u e)
theorem Kp.new {H : Hp} {p : Addr} {u : HO} (hp : H p = none) : Kp H (upd H p u) := fun b v h => by rw [upd_ne (ne_of_none h hp)]; exact h
theorem Kp.ext {ι : List Addr} {H H' : Hp} (h : Kp H H') : Ext ι H ι H' := ⟨fun _ _ h => h, fun b u _ e => h b u e, fun _ h => .inl h⟩
theorem SR.kp {K : PySem.W.Frag} {ι : List Addr} {H H' : Hp} {st : Store} (S : SR K N ι H st) (h : Kp H H') : SR K N ι H' st :=
  ⟨S.len, S.nd, fun n c e => let ⟨a, ha, r⟩ := S.cel n c e; ⟨a, ha, r.keep (fun _ _ h => h) (S.tups h.ext) (S.frzs h.ext) fun u e => h _ _ e⟩⟩
/-- a suite's value -/
def vX (sub : Nat → Nat → Bool) (c : Nat) : XV → Option V
  | .non => some .non
  | .str z => some (.str z)
  | .int i => some (.int i)
  | .pick z0 z1 d => some (.str (if sub c d then z1 else z0))
  | .cat a b => match vX sub c a, vX sub c b with
    | some (.str x), some (.str y) => if x.length + y.length ≤ sizeLine then some (.str (x ++ y)) else none
    | _, _ => none
theorem evX_vX {sub : Nat → Nat → Bool} {c : Nat} : ∀ {x : XV} {w : W}, evX sub c x = some w → ∃ v, vX sub c x = some v ∧ ∀ (K : PySem.W.Frag) (ι : List Addr) (H : Hp), RV K ι H w v := by
  intro x
  induction x with
  | non => intro w h; cases h; exact ⟨_, rfl, fun _ _ _ => .non⟩
  | str z => intro w h; cases h; exact ⟨_, rfl, fun _ _ _ => .str z⟩
  | int z => intro w h; cases h; exact ⟨_, rfl, fun _ _ _ => .int z⟩
  | pick z0 z1 d => intro w h; cases h; exact ⟨_, rfl, fun _ _ _ => .str _⟩
  | cat a b iha ihb =>
    intro w h
    unfold evX at h
    split at h
    · rename_i x y ea eb
      obtain ⟨va, h1, r1⟩ := iha ea
      obtain ⟨vb, h2, r2⟩ := ihb eb
      have r1 := r1 [] [] (fun _ => none)
      have r2 := r2 [] [] (fun _ => none)
      cases r1; cases r2
      split at h
      · rename_i hz
        cases h
        refine ⟨.str (x ++ y), ?_, fun _ _ _ => .str _⟩
        unfold vX
        rw [h1, h2]
        exact if_pos hz
      · cases h
    · cases h
theorem pickOf_some {e : Expr} {t : PickT} (h : pickOf e = some t) : ∃ j0 p0 j1 p1 p2 p3 p4 p5 p6 p7 p8 p9, e = .Subscript (.List [.Constant (.str t.y0) j0 p0, .Constant (.str t.y1) j1 p1] p2) (.Call (.Name "int" p3) [.Call (.Name "isinstance" p4) [.Name t.e p5, .Name t.x p6] [] p7] [] p8) p9 := by
  unfold pickOf at h
  split at h
  · split at h
    · rename_i hn
      obtain ⟨h1, h2⟩ := hn
      cases h
      subst h1 h2
      exact ⟨_, _, _, _, _, _, _, _, _, _, _, _, rfl⟩
    · cases h
  · cases h
/-- the reading of a suite's value -/
def rdX (o : Orc) (i : Option Nat) (x : XV) (c : Nat) (a : Addr) : TE := fun σ H Q => (∀ j, i = some j → σ[j]? = some (some (.ref a))) ∧ ∃ v, vX o.sub c x = some v ∧ ∀ H', Kp H H' → Q v H'
theorem Stc.locI_ok (G : Good T o N k Wx X) {i : Nat} {x : Str} (h : T.locI i x = true) : X.N[i]? = some x ∧ X.env.scope.names.lookup x = some .local ∧ plainN x = true := by
  unfold Stc.locI at h
  simp only [Bool.and_eq_true] at h
  exact ⟨G.ix h.1.1, G.loc h.1.2, h.2⟩
theorem x_ok (G : Good T o N k Wx X) {c : Nat} {C a : Addr} {oe : Obj} {pn : List (Addr × Obj)} (hC : N.xA c = some C) (hz : Zc (.ref C) none oe) (hf : ∃ vs, oe.data = .fields vs) {i : Option Nat} :
    ∀ {x : XV} {e : Expr}, okX T i x e = true → PE (X.suite a ((a, oe) :: pn)) e (rdX o i x c a) := by
  intro x
  induction x with
  | non =>
    intro e h
    cases e <;> try (cases h; done)
    rename_i v kk p
    cases v <;> try (cases h; done)
    exact PE.imp pe_non fun σ H Q ⟨_, v, hv, q⟩ => by cases hv; exact q H (Kp.refl H)
  | str z =>
    intro e h
    cases e <;> try (cases h; done)
    rename_i v kk p
    cases v <;> try (cases h; done)
    have h' := of_decide_eq_true h
    subst h'
    exact PE.imp pe_str fun σ H Q ⟨_, v, hv, q⟩ => by cases hv; exact q H (Kp.refl H)
  | int z =>
    intro e h
    cases e <;> try (cases h; done)
    rename_i v kk p
    cases v <;> try (cases h; done)
    have h' := of_decide_eq_true h
    subst h'
    exact PE.imp pe_int fun σ H Q ⟨_, v, hv, q⟩ => by cases hv; exact q H (Kp.refl H)
  | cat x y ihx ihy =>
    intro e h
    cases e <;> try (cases h; done)
    rename_i ex op ey p
    cases op <;> try (cases h; done)
    have h' : (okX T i x ex && okX T i y ey) = true := h
    simp only [Bool.and_eq_true] at h'
    refine PE.imp (pe_op op_add_str (ihx h'.1) (ihy h'.2)) fun σ H Q ⟨hs, v, hv, q⟩ => ?_
    unfold vX at hv
    split at hv
    · rename_i zx zy e1 e2
      split at hv
      · rename_i hz
        cases hv
        refine ⟨hs, _, e1, fun H1 k1 => ⟨hs, _, e2, fun H2 k2 => ⟨_, _, rfl, rfl, hz, q H2 (k1.trans k2)⟩⟩⟩
      · cases hv
    · cases hv
  | pick z0 z1 d =>
    intro e h
    unfold okX at h
    split at h
    · rename_i t j ep
      simp only [Bool.and_eq_true, decide_eq_true_eq] at h
      obtain ⟨⟨⟨⟨⟨⟨⟨⟨h0, h1⟩, h2⟩, h3⟩, h4⟩, h5⟩, h6⟩, h7⟩, h8⟩ := h
      obtain ⟨j0, p0, j1, p1, p2, p3, p4, p5, p6, p7, p8, p9, rfl⟩ := pickOf_some ep
      obtain ⟨hi, hl, hp⟩ := Stc.locI_ok G h2
      obtain ⟨D, hD, hm, F⟩ := G.env.exc d h3
      have FC := G.env.exf c C hC
      obtain ⟨_, hk⟩ := G.env.exm c d C D hC hD
      rw [← h4] at hm
      have e1 : PE (X.suite a ((a, oe) :: pn)) (.Call (.Name "isinstance" p4) [.Name t.e p5, .Name t.x p6] [] p7) _ :=
        pe_callB (call_isE FC.cc hz hf) (G.gl h8) (G.none (by decide)) (by decide +kernel) (pa_cons (pe_var hi (.inl hl) (plainN1 hp).1 (plainN1 hp).2.1) (pa_cons (pe_glob (v := V.ref D) (G.gl h5) hm rfl (plainN1 h6).1) pa_nil rfl) rfl) (by decide) (by decide) rfl rfl
      have e2 : PE (X.suite a ((a, oe) :: pn)) (.Call (.Name "int" p3) [.Call (.Name "isinstance" p4) [.Name t.e p5, .Name t.x p6] [] p7] [] p8) _ :=
        pe_callTy call_int1 (G.gl h7) (G.none (by decide)) (by decide +kernel) (pa_cons e1 pa_nil rfl) (by decide) (by decide) rfl rfl
      refine PE.imp (pe_ix ix_list (pe_lst (pa_cons pe_str (pa_cons pe_str pa_nil rfl) rfl)) e2 (fun _ _ => rfl)) fun σ H Q ⟨hs, v, hv, q⟩ => ?_
      cases hv
      refine ⟨by rw [sizeLine_eq]; show 2 ≤ 16777216; decide, fun p hp' => ⟨_, hs j rfl, .ref D, .ref D, o.sub c d, rfl, fun u r => r, hk, .inr ⟨_, rfl, p, _, _, _, rfl, rfl, .of upd_same, ?_, q _ (Kp.new hp')⟩⟩⟩
      cases o.sub c d with
      | true => simp only [if_true]; rw [← h1]; rfl
      | false => simp only [Bool.false_eq_true, if_false]; rw [← h0]; rfl
    · cases h
theorem x_plain {x : XV} {i : Option Nat} {e t : Expr} (h : okX T i x e = true) (l : Nat) (env : Env) : swapsWith e (some t) l env = pure false ∧ notTup e = true := by
  cases x with
  | pick z0 z1 d =>
    unfold okX at h
    split at h
    · rename_i t' j ep
      obtain ⟨j0, p0, j1, p1, p2, p3, p4, p5, p6, p7, p8, p9, rfl⟩ := pickOf_some ep
      exact ⟨rfl, rfl⟩
    · cases h
  | _ => cases e <;> first | exact ⟨rfl, rfl⟩ | (cases h; done)
/-- the reading of a suite -/
def rdXS (K : PySem.W.Frag) (N : Nm) (o : Orc) (i : Option Nat) (s : XS) (a : Addr) (cls : Value) (d : Option Addr) : TS := fun D σ H => ∃ ι st ρ c C, cls = .ref C ∧ d = none ∧ N.xA c = some C ∧ SR K N ι H st ∧ RS K ι H ρ σ ∧ (∀ j, i = some j → j < σ.length → σ[j]? = some (some (.ref a))) ∧
  ∃ ρ' st', runX0 o.sub c s ρ st = some (ρ', st') ∧ Go K N ι H st' fun ι' H' => ∀ σ', RS K ι' H' ρ' σ' → D.nx σ' H'
theorem xs_ok (G : Good T o N k Wx X) {i : Option Nat} (hN : ∀ j, i = some j → j < X.N.length) {s : XS} {e : Stmt} {a : Addr} {oe : Obj} {cls : Value} {d : Option Addr} {pn : List (Addr × Obj)} (hz : Zc cls d oe) (hf : ∃ vs, oe.data = .fields vs) (h : okXS T i s e = true) : PSs (X.suite a ((a, oe) :: pn)) [e] (rdXS X.K N o i s a cls d) := by
  refine ⟨fun pins s0 σ H D I hq => ?_⟩
  obtain ⟨ι, st, ρ, c, C, rfl, rfl, hC, S, r, hi0, ρ', st', hrun, q⟩ := hq
  have hlen : σ.length = X.N.length := I.len
  have hi : ∀ j, i = some j → σ[j]? = some (some (.ref a)) := fun j hj => hi0 j hj (by rw [hlen]; exact hN j hj)
  have nd : X.N.Nodup := by rw [G.n]; exact G.nd
  cases s with
  | set j v =>
    cases e <;> try (cases h; done)
    rename_i ts ev p
    cases ts <;> try (cases h; done)
    rename_i t ts
    cases t <;> try (cases h; done)
    rename_i x px
    cases ts <;> try (cases h; done)
    have h' : (T.locI j x && decide (i ≠ some j) && okX T i v ev) = true := h
    simp only [Bool.and_eq_true, decide_eq_true_eq] at h'
    obtain ⟨⟨h1, h2⟩, h3⟩ := h'
    obtain ⟨hx, hl, hp⟩ := Stc.locI_ok G h1
    obtain ⟨sw, nt⟩ := x_plain (t := .Name x px) h3 p.line (X.suite a ((a, oe) :: pn)).env
    have hrun' : (evX o.sub c v).map (fun w => (ρ.set j (some w), st)) = some (ρ', st') := hrun
    obtain ⟨w, hw, e1⟩ := Option.map_eq_some_iff.mp hrun'
    cases e1
    obtain ⟨vv, hv, rv⟩ := evX_vX hw
    have ps := ps_asg (X := X.suite a ((a, oe) :: pn)) (pos := p) (x_ok G hC hz hf h3) (pg_name (pos := px) nd hx (.inl hl) (.inr hl)) sw (by rfl) (by rfl)
    refine (pss_cons ps pss_nil).run pins s0 σ H D I ⟨hi, vv, hv, fun H' kp => ?_⟩
    exact q ι H' (S.kp kp) kp.ext _ ((r.ext S kp.ext).set (rv _ _ _) j)
  | put l kk v =>
    cases e <;> try (cases h; done)
    rename_i ts ev p
    cases ts <;> try (cases h; done)
    rename_i t ts
    cases t <;> try (cases h; done)
    rename_i tx ty pt
    cases tx <;> try (cases h; done)
    rename_i x px
    cases ty <;> try (cases h; done)
    rename_i cc cj cp
    cases cc <;> try (cases h; done)
    rename_i jj
    cases ts <;> try (cases h; done)
    have h' : (T.locI l x && decide (i ≠ some l) && decide (kk = jj) && okX T i v ev) = true := h
    simp only [Bool.and_eq_true, decide_eq_true_eq] at h'
    obtain ⟨⟨⟨h1, h2⟩, rfl⟩, h3⟩ := h'
    obtain ⟨hx, hl, hp⟩ := Stc.locI_ok G h1
    obtain ⟨sw, nt⟩ := x_plain (t := .Subscript (.Name x px) (.Constant (.int kk) cj cp) pt) h3 p.line (X.suite a ((a, oe) :: pn)).env
    have hrun' : (match ρ[l]? with
      | some (some a) => (evX o.sub c v).bind fun w => (setW a (.int kk) w st).map fun st' => (ρ, st')
      | _ => none) = some (ρ', st') := hrun
    split at hrun'
    · rename_i aw ea
      obtain ⟨w, hw, e1⟩ := Option.bind_eq_some_iff.mp hrun'
      obtain ⟨st2, hset, e2⟩ := Option.map_eq_some_iff.mp e1
      cases e2
      obtain ⟨vv, hv, rv⟩ := evX_vX hw
      obtain ⟨va, h5, ra⟩ := r.2 l aw ea
      have ps := ps_asg (X := X.suite a ((a, oe) :: pn)) (tg := .Subscript (.Name x px) (.Constant (.int kk) cj cp) pt) (pos := p) (x_ok G hC hz hf h3) (pg_sub (pos := pt) (pe_var (pos := px) hx (.inl hl) (plainN1 hp).1 (plainN1 hp).2.1) (pe_int (i := kk)) set_U (fun v => rfl)) sw (by cases ev <;> first | rfl | (cases nt; done)) (by rfl)
      refine (pss_cons ps pss_nil).run pins s0 σ H D I ⟨hi, vv, hv, fun H' kp => ⟨_, h5, ?_⟩⟩
      refine setW_ok (X := X.suite a ((a, oe) :: pn)) G.hu (S.kp kp) (ra.ext S kp.ext) (.int kk) (rv _ _ _) hset fun H3 S3 E3 => ?_
      exact q ι H3 S3 (kp.ext.trans E3) _ (r.ext S (kp.ext.trans E3))
    · cases hrun'
theorem s_rse (G : Good T o N k Wx X) {c : Nat} {s : Stmt} (h : okS T (.rse c) s = true) : PS X s (rdS X.K N Wx (evS o (.rse c))) := by
  obtain ⟨px, z, kk, r, q, p, rfl, hc, hg, hp⟩ := inv_rse h
  obtain ⟨C, hC, hm, F⟩ := G.env.exc c hc
  refine PS.at fun ι st ρ σ H D S r q => ⟨_, ps_raise G.calm G.tk (pmk_own PySem.F.excBase_ValueError F.xin hm F.kp (raises_own F.cc.hs F.ty) (G.gl hg) (plainN1 hp).1), ?_⟩
  have q' : outP X.K N Wx ι H D (.exc c [] ρ st) := q
  exact q' ι H S .refl C none σ r hC rfl
theorem RS.gone {K : PySem.W.Frag} {ι : List Addr} {H : Hp} {ρ : Loc} {σ : L2.St} (r : RS K ι H ρ σ) (i : Nat) (z : Option V) : RS K ι H (ρ.set i none) (σ.set i z) := by
  refine ⟨by simp [r.1], fun j w e => ?_⟩
  by_cases hj : i = j
  · subst hj
    by_cases hl : i < ρ.length
    · rw [List.getElem?_set_self hl] at e; cases e
    · rw [List.getElem?_eq_none_iff.mpr (by simp; omega)] at e; cases e
  · rw [List.getElem?_set_ne hj] at e
    obtain ⟨v, h1, h2⟩ := r.2 j w e
    exact ⟨v, by rw [List.getElem?_set_ne hj]; exact h1, h2⟩
theorem runX_some {sub : Nat → Nat → Bool} {i : Option Nat} {s : XS} {c : Nat} {ρ : Loc} {st : Store} {K : PySem.W.Frag} {ι : List Addr} {H : Hp} {D : Ends} (h : outP K N Wx ι H D (runX sub i s c ρ st)) : ∃ ρ' st', runX0 sub c s (goneL i ρ) st = some (ρ', st') ∧ Go K N ι H st' fun ι' H' => ∀ σ', RS K ι' H' (goneL i ρ') σ' → D.nx σ' H' := by
  unfold runX at h
  split at h
  · rename_i ρ' st' e
    exact ⟨ρ', st', e, h⟩
  · exact h.elim
theorem tryO_no {sub : Nat → Nat → Bool} {h c : Nat} {F : Nat → Loc → Store → Out} {fs : List (Nat × W)} {ρ : Loc} {st : Store} (e : sub c h = false) : tryO sub h F (.exc c fs ρ st) = .exc c fs ρ st := by
  unfold tryO
  simp only [e]
theorem tryO_nil {sub : Nat → Nat → Bool} {h c : Nat} {F : Nat → Loc → Store → Out} {ρ : Loc} {st : Store} (e : sub c h = true) : tryO sub h F (.exc c [] ρ st) = F c ρ st := by
  unfold tryO
  simp only [e]
theorem tryO_cons {sub : Nat → Nat → Bool} {h c : Nat} {F : Nat → Loc → Store → Out} {x : Nat × W} {fs : List (Nat × W)} {ρ : Loc} {st : Store} (e : sub c h = true) : tryO sub h F (.exc c (x :: fs) ρ st) = .bad := by
  unfold tryO
  simp only [e]
@[simp] theorem tryO_nx {sub : Nat → Nat → Bool} {h : Nat} {F : Nat → Loc → Store → Out} {ρ : Loc} {st : Store} : tryO sub h F (.nx ρ st) = .nx ρ st := id rfl
@[simp] theorem tryO_rt {sub : Nat → Nat → Bool} {h : Nat} {F : Nat → Loc → Store → Out} {w : W} {st : Store} : tryO sub h F (.rt w st) = .rt w st := id rfl
abbrev HG2 (o : Orc) (N : Nm) (T : Stc) (Wx : WX) (X : Cx) (c : CB) : Prop := ∀ e, okB T c e = true → PSs X e (rdS X.K N Wx (evB o c))
theorem s_trxS (G : Good T o N k Wx X) {b : CB} {i h0 : Nat} {xs : XS} {s : Stmt} (h : okS T (.trx b (some i) h0 xs) s = true) (hB : ∀ W X', Good T o N k W X' → HG2 o N T W X' b) : PS X s (rdS X.K N Wx (evS o (.trx b (some i) h0 xs))) := by
  obtain ⟨body, px, n, e, p', p, rfl, hx, hg, hp, hl, hown, hb, he⟩ := inv_trxS h
  obtain ⟨hi, hloc, hpn⟩ := Stc.locI_ok G hl
  obtain ⟨D0, hD, hm, F⟩ := G.env.exc h0 hx
  obtain ⟨hs, hf⟩ := G.stk hown
  refine PS.at fun ι st ρ σ H D S r q => ⟨_, ps_try_as (i := i) (pos := p) (pos' := p') (np := px) (tb := fun W => rdS X.K N W (evB o b)) (ts := rdXS X.K N o (some i) xs) hs hf (by rw [G.n]; exact G.nd) hi hloc ⟨G.gl hg, (plainN1 hp).1, .inl hm⟩ G.tk (fun W pn xe tk ow => hB W _ (G.tr tk ow) _ hb) (fun a oe cls d pn hz hf' => xs_ok G (fun j hj => by cases hj; exact (List.getElem?_eq_some_iff.mp hi).1) hz hf' he), ?_⟩
  refine ⟨ι, st, ρ, S, r, ?_⟩
  have q' : outP X.K N Wx ι H D (tryO o.sub h0 (runX o.sub (some i) xs) (evB o b ρ st)) := q
  generalize evB o b ρ st = x at q' ⊢
  cases x with
  | exc c fs ρ' st' =>
    intro ι' H' S' E' C d σ' r' hC hRX
    refine ⟨o.sub c h0, (G.env.exm c h0 C D0 hC hD).1, fun hb a na => ?_, fun hb => ?_⟩
    · cases fs with
      | cons _ _ => rw [tryO_cons hb] at q'; exact q'.elim
      | nil =>
        have q2 : outP X.K N Wx ι H D (runX o.sub (some i) xs c ρ' st') := by rw [tryO_nil hb] at q'; exact q'
        have hd : d = none := hRX
        obtain ⟨ρ2, st2, e2, q3⟩ := runX_some (outP.step q2 E')
        refine ⟨ι', st', goneL (some i) ρ', c, C, rfl, hd, hC, S', r'.gone i _, fun j hj hjl => ?_, ρ2, st2, e2, fun ι2 H2 S2 E2 σ2 r2 => q3 ι2 H2 S2 E2 _ (r2.gone i none)⟩
        cases hj
        rw [List.length_set] at hjl
        exact List.getElem?_set_self hjl
    · have q2 : outP X.K N Wx ι H D (.exc c fs ρ' st') := by
        rw [tryO_no hb] at q'
        exact q'
      exact q2 ι' H' S' E' C d σ' r' hC hRX
  | nx ρ st => exact q'
  | rt w st => exact q'
  | bk ρ st => exact q'
  | ct ρ st => exact q'
  | bad => exact q'.elim
theorem s_trxN (G : Good T o N k Wx X) {b : CB} {h0 : Nat} {xs : XS} {s : Stmt} (h : okS T (.trx b none h0 xs) s = true) (hB : ∀ W X', Good T o N k W X' → HG2 o N T W X' b) : PS X s (rdS X.K N Wx (evS o (.trx b none h0 xs))) := by
  obtain ⟨body, px, e, p', p, rfl, hx, hg, hp, hown, hb, he⟩ := inv_trxN h
  obtain ⟨D0, hD, hm, F⟩ := G.env.exc h0 hx
  obtain ⟨hs, hf⟩ := G.stk hown
  refine PS.at fun ι st ρ σ H D S r q => ⟨_, ps_try_only (pos := p) (pos' := p') (np := px) (tb := fun W => rdS X.K N W (evB o b)) (ts := rdXS X.K N o none xs) hs hf ⟨G.gl hg, (plainN1 hp).1, .inl hm⟩ G.tk (fun W pn xe tk ow => hB W _ (G.tr tk ow) _ hb) (fun a oe cls d pn hz hf' => xs_ok G (fun j hj => by cases hj) hz hf' he), ?_⟩
  refine ⟨ι, st, ρ, S, r, ?_⟩
  have q' : outP X.K N Wx ι H D (tryO o.sub h0 (runX o.sub none xs) (evB o b ρ st)) := q
  generalize evB o b ρ st = x at q' ⊢
  cases x with
  | exc c fs ρ' st' =>
    intro ι' H' S' E' C d σ' r' hC hRX
    refine ⟨o.sub c h0, (G.env.exm c h0 C D0 hC hD).1, fun hb a na => ?_, fun hb => ?_⟩
    · cases fs with
      | cons _ _ => rw [tryO_cons hb] at q'; exact q'.elim
      | nil =>
        have q2 : outP X.K N Wx ι H D (runX o.sub none xs c ρ' st') := by rw [tryO_nil hb] at q'; exact q'
        have hd : d = none := hRX
        obtain ⟨ρ2, st2, e2, q3⟩ := runX_some (outP.step q2 E')
        exact ⟨ι', st', ρ', c, C, rfl, hd, hC, S', r', fun j hj _ => (by cases hj), ρ2, st2, e2, q3⟩
    · have q2 : outP X.K N Wx ι H D (.exc c fs ρ' st') := by
        rw [tryO_no hb] at q'
        exact q'
      exact q2 ι' H' S' E' C d σ' r' hC hRX
  | nx ρ st => exact q'
  | rt w st => exact q'
  | bk ρ st => exact q'
  | ct ρ st => exact q'
  | bad => exact q'.elim
end
end Mx

/-! The main proof: statements. -/
namespace Mx
open PySem PySem.Spec PyProof.Rows L2

section
variable {K : PySem.W.Frag} {N : Nm} {Wx : WX} {ι ι1 : List Addr} {H H1 : Hp} {st : Store} {ρ : Loc} {σ : L2.St} {D : Ends}
/-- a loop's body -/
def goOn (F : Loc → Store → Out) (x : Out) : Out := match x with
  | .nx ρ st => F ρ st
  | .ct ρ st => F ρ st
  | .bk ρ st => .nx ρ st
  | .rt w st => .rt w st
  | .exc c fs ρ st => .exc c fs ρ st
  | .bad => .bad
def seqO (F : Loc → Store → Out) (x : Out) : Out := match x with
  | .nx ρ st => F ρ st
  | .rt w st => .rt w st
  | .bk ρ st => .bk ρ st
  | .ct ρ st => .ct ρ st
  | .exc c fs ρ st => .exc c fs ρ st
  | .bad => .bad
theorem goOn_ok {F : Loc → Store → Out} {x : Out} {Nx : L2.St → Hp → Prop} (h : outP K N Wx ι H D (goOn F x)) (hn : ∀ ρ st ι' H' σ', SR K N ι' H' st → Ext ι H ι' H' → RS K ι' H' ρ σ' → outP K N Wx ι' H' D (F ρ st) → Nx σ' H') :
    outP K N Wx ι H { D with nx := Nx, ct := Nx, bk := D.nx } x := by
  cases x with
  | nx ρ st => exact fun ι' H' S E σ' r => hn ρ st ι' H' σ' S E r (outP.step h E)
  | ct ρ st => exact fun ι' H' S E σ' r => hn ρ st ι' H' σ' S E r (outP.step h E)
  | bk ρ st => exact h
  | rt w st => exact h
  | exc c fs ρ st => exact h
  | bad => exact h
theorem seqO_ok {F : Loc → Store → Out} {x : Out} (h : outP K N Wx ι H D (seqO F x)) : outP K N Wx ι H { D with nx := rdS K N Wx F D } x := by
  cases x with
  | nx ρ st => exact fun ι' H' S E σ' r => ⟨ι', st, ρ, S, r, outP.step h E⟩
  | ct ρ st => exact h
  | bk ρ st => exact h
  | rt w st => exact h
  | exc c fs ρ st => exact h
  | bad => exact h
theorem whl_eq {test : Loc → Store → R Bool} {body : Loc → Store → Out} {f : Nat} {ρ : Loc} {st : Store} : whlLoop test body (f + 1) ρ st = (test ρ st).out ρ fun k st => match k with
    | true => goOn (whlLoop test body f) (body ρ st)
    | false => .nx ρ st := by
  rw [whlLoop]
  rfl
theorem evB_cons {o : Orc} {s : CS} {b : CB} {ρ : Loc} {st : Store} : evB o (.cons s b) ρ st = seqO (evB o b) (evS o s ρ st) := by rw [evB]; rfl
end

section
variable {o : Orc} {N : Nm} {k : Nat} {T : Stc} {Wx : WX} {X : Cx}
abbrev HS (o : Orc) (N : Nm) (T : Stc) (Wx : WX) (X : Cx) (c : CS) : Prop := ∀ e, okS T c e = true → PS X e (rdS X.K N Wx (evS o c))
abbrev HB (o : Orc) (N : Nm) (T : Stc) (Wx : WX) (X : Cx) (c : CB) : Prop := ∀ e, okB T c e = true → PSs X e (rdS X.K N Wx (evB o c))
theorem PSs.at {e : List Stmt} {ev : Loc → Store → Out} (h : ∀ ι st ρ σ H D, SR X.K N ι H st → RS X.K ι H ρ σ → outP X.K N Wx ι H D (ev ρ st) → ∃ t, PSs X e t ∧ t D σ H) : PSs X e (rdS X.K N Wx ev) := by
  refine ⟨fun pins s σ H D I q => ?_⟩
  obtain ⟨ι, st, ρ, S, r, q⟩ := q
  obtain ⟨t, ht, q'⟩ := h ι st ρ σ H D S r q
  exact ht.run pins s σ H D I q'
theorem s_skip {s : Stmt} (h : okS T .skip s = true) : PS X s (rdS X.K N Wx (evS o .skip)) := by
  rcases inv_skip h with ⟨p, rfl⟩ | ⟨x, j, p, q, rfl⟩
  · exact PS.at fun ι st ρ σ H D S r q => ⟨_, ps_pass, q ι H S .refl σ r⟩
  · exact PS.at fun ι st ρ σ H D S r q => ⟨_, ps_doc, q ι H S .refl σ r⟩
theorem s_set (G : Good T o N k Wx X) {t : CT} {c : CE} {s : Stmt} (h : okS T (.set t c) s = true) (hG : HG o N T Wx X t) (hE : HE o N T Wx X c)
    (hlc : ∀ own t it ifs e, c = .lc own t it ifs e → (∀ tg x, okI T it tg x = true → PI X tg x (rdI X.K N Wx (evI o it))) ∧ (∀ T' X', Good T' o N k noW X' → HG o N T' noW X' t) ∧ (∀ T' X', Good T' o N k noW X' → ∀ e, okTs T' ifs e = true → PTs X' e (rdT X'.K N noW (evTs o ifs))) ∧ (∀ T' X', Good T' o N k noW X' → HE o N T' noW X' e)) :
    PS X s (rdS X.K N Wx (evS o (.set t c))) := by
  obtain ⟨tg, x, p, rfl, hc, ht, hg, he⟩ := inv_set h
  rcases sw_cases (t := tg) hc p.line X.env with hsw | ⟨el, gs, scope, cp, y, py, rfl, rfl, hy, hln, hany⟩
  · refine PS.at fun ι st ρ σ H D S r q => ⟨_, ps_asg (hE _ he) (hG _ hg) hsw (tup_no ht _) (by
      have := asg_cons (e := tg) (es := []) X.env (by
        cases tg <;> first | rfl | (cases t <;> cases hg))
      exact this), ?_⟩
    refine (rdE_out S r .nil q).mono fun v1 H1 ⟨ι1, st1, w1, S1, r1, p1, q1⟩ => ?_
    exact (rdG_out S1 r1 p1.head q1).mono fun σ2 H2 ⟨ι2, st2, ρ2, S2, r2, _, q2⟩ => q2 ι2 H2 S2 .refl σ2 r2
  · cases c <;> try (cases he; done)
    rename_i own t1 it ifs e
    cases t <;> try (cases hg; done)
    rename_i i
    obtain ⟨y', py', ey, hi, hs⟩ := inv_gname hg
    cases ey
    obtain ⟨hI, hG', hT, hE'⟩ := hlc own t1 it ifs e rfl
    obtain ⟨el', scope', p', tg, iter, is, e0, hb, hsl, hset, hi2, hg2, hts, he2⟩ := inv_lc he
    injection e0 with e1 e2 e3 e4
    subst e1; subst e2; subst e3; subst e4
    have B := blkOk_by hb
    refine PS.at fun ι st ρ σ H D S r q => ⟨_, ps_setLc (wi := rdI X.K N Wx (evI o it)) (g := rdG X.K N noW t1.slots (evG o t1)) (tt := rdT X.K N noW (evTs o ifs)) (te := rdE X.K N noW (evE o e)) (own := own.map fun i => (T.N.getD i "", i)) G.calm (by rw [G.n]; exact G.nd) (G.ix hi) hy (sw_true G.kind hy hln hany) (hI _ _ hi2) (by rw [G.n, G.sc]; exact B) (fun s H C cl fp => hG' _ _ (G.blk B.kind) _ hg2) (fun s H C cl fp => hT _ _ (G.blk B.kind) _ hts) (fun s H C cl fp => hE' _ _ (G.blk B.kind) _ he2) (fun x => set_no hset _ x), ?_⟩
    refine lc_at (Wx := Wx) G hsl S r ?_
    have q' : outP X.K N Wx ι H D ((evE o (.lc own t1 it ifs e) ρ st).out ρ fun w st => .nx (ρ.set i (some w)) st) := q
    exact (outP.bindS r S q').imp fun w ι1 H1 ⟨st1, S1, E1, q1⟩ v rv => q1 ι1 H1 S1 .refl _ ((r.ext S E1).set rv i)
theorem par_swap {env : Env} {x y : Str} {px py pt pt2 : Pos} {kt k2} {u v : Expr} (hk : env.scope.kind = .function) (hx : env.scope.names.lookup x = some .local) (hy : env.scope.names.lookup y = some .local) (hne : x ≠ y) (hl : (px.line == py.line) = true)
    (hu : notStar u = true) (hv : notStar v = true) (h1 : (foldedForSure 8 u && foldedForSure 8 v) = false) (h2 : (constantsAlone 8 u && constantsAlone 8 v) = false) :
    swappedStores [.Tuple [.Name x px, .Name y py] kt pt] (.Tuple [u, v] k2 pt2) env = pure (some [x, y]) := by
  have hb : env.blockKind = .function := by unfold Env.blockKind; rw [hk]; rfl
  have kx : env.kindOf x = some .local := hx
  have ky : env.kindOf y = some .local := hy
  have e1 : ∀ f : Expr → Bool, (∀ w, notStar w = true → f w = false) → [u, v].any f = false := fun f hf => by simp [hf u hu, hf v hv]
  have hl' : (py.line == px.line) = true := by
    rw [beq_iff_eq] at hl ⊢; exact hl.symm
  have e2 : ([x, y].eraseDups).length = 2 := by
    have hyx : (y == x) = false := by rw [beq_eq_false_iff_ne]; exact fun e => hne e.symm
    simp [List.eraseDups_cons, hyx]
  unfold swappedStores
  simp only []
  rw [e1 _ (fun w hw => by cases w <;> first | rfl | cases hw)]
  simp only [List.length_cons, List.length_nil, hb, List.head?_cons, Option.map_some, Option.getD_some, Expr.pos, kx, ky, hl', List.filterMap_cons, List.filterMap_nil, List.all_cons, List.all_nil, Bool.and_true, h1, h2]
  simp [e2]
theorem s_par (G : Good T o N k Wx X) {i j : Nat} {a b : CE} {s : Stmt} (h : okS T (.par i j a b) s = true) (hA : HE o N T Wx X a) (hB : HE o N T Wx X b) : PS X s (rdS X.K N Wx (evS o (.par i j a b))) := by
  obtain ⟨x, px, y, py, kt, pt, u, v, k2, p2, q, rfl, hi, hj, hij, hx, hy, hu, hv, ha, hb, hl, h1, h2⟩ := inv_par h
  have ix := G.ix hi
  have iy := G.ix hj
  have hne : x ≠ y := fun e => by
    subst e
    have hn : X.N.Nodup := by rw [G.n]; exact G.nd
    obtain ⟨h1, e1⟩ := List.getElem?_eq_some_iff.mp ix
    obtain ⟨h2, e2⟩ := List.getElem?_eq_some_iff.mp iy
    exact hij ((List.getElem_inj hn).mp (e1.trans e2.symm))
  refine PS.at fun ι st ρ σ H D S r q => ⟨_, ps_par G.calm (by rw [G.n]; exact G.nd) ix iy hij (G.loc hx) (G.loc hy) (pa_cons (hA _ ha) (pa_cons (hB _ hb) pa_nil (star_cons _ hv)) (star_cons _ hu)) (par_swap G.kind (G.loc hx) (G.loc hy) hne hl hu hv h1 h2), ?_⟩
  refine (rdE_out S r .nil q).mono fun v1 H1 ⟨ι1, st1, w1, S1, r1, p1, q1⟩ => ?_
  refine (rdE_out S1 r1 p1 q1).mono fun v2 H2 ⟨ι2, st2, w2, S2, r2, p2, q2⟩ => ?_
  exact ⟨v1, v2, rfl, q2 ι2 H2 S2 .refl _ ((r2.set p2.tail.head i).set p2.head j)⟩
def ipU (X : Cx) (op : Operator) : TIp := fun x y H Q => ∃ t, PIp X op t ∧ t x y H Q
theorem ip_U (op : Operator) : PIp X op (ipU X op) := fun pins s σ H x y v u Q I rx ry ⟨_, hp, q⟩ => hp pins s σ H x y v u Q I rx ry q
theorem s_aug (G : Good T o N k Wx X) {i : Nat} {op : Operator} {c : CE} {s : Stmt} (h : okS T (.aug i op c) s = true) (hA : HE o N T Wx X c) : PS X s (rdS X.K N Wx (evS o (.aug i op c))) := by
  obtain ⟨x, px, y, p, rfl, hi, hs, hy⟩ := inv_aug h
  refine PS.at fun ι st ρ σ H D S r q => ⟨_, ps_aug (by rw [G.n]; exact G.nd) (G.ix hi) (G.sto hs) (hA _ hy) (ip_U op) (G.fn x hs), ?_⟩
  simp only [evS] at q
  split at q
  · rename_i w e
    obtain ⟨v, h1, rv⟩ := r.get e
    refine ⟨v, h1, ?_⟩
    refine (rdE_out S r (.one rv) q).mono fun v1 H1 ⟨ι1, st1, w1, S1, r1, p1, q1⟩ => ?_
    have h1 := p1.head
    have h2 := p1.tail.head
    split at q1
    · cases h1; cases h2
      exact ⟨_, ip_add, _, _, rfl, rfl, q1 ι1 H1 S1 .refl _ (r1.set (.int _) i)⟩
    · cases h1; cases h2
      exact ⟨_, ip_sub, _, _, rfl, rfl, q1 ι1 H1 S1 .refl _ (r1.set (.int _) i)⟩
    · exact q1.elim
  · exact q.elim
theorem s_expr (G : Good T o N k Wx X) {c : CE} {s : Stmt} (h : okS T (.expr c) s = true) (hA : HE o N T Wx X c) : PS X s (rdS X.K N Wx (evS o (.expr c))) := by
  obtain ⟨x, p, rfl, hc, hx⟩ := inv_expr h
  refine PS.at fun ι st ρ σ H D S r q => ⟨_, ps_expr (hA _ hx) (comp_no hc _ _ _), ?_⟩
  exact (rdE_out S r .nil q).mono fun v1 H1 ⟨ι1, st1, w1, S1, r1, p1, q1⟩ => q1 ι1 H1 S1 .refl _ r1
theorem s_ret (G : Good T o N k Wx X) {c : CE} {s : Stmt} (h : okS T (.ret c) s = true) (hA : HE o N T Wx X c) : PS X s (rdS X.K N Wx (evS o (.ret c))) := by
  obtain ⟨x, p, rfl, hx⟩ := inv_ret h
  refine PS.at fun ι st ρ σ H D S r q => ⟨_, ps_ret (hA _ hx), ?_⟩
  exact (rdE_out S r .nil q).mono fun v1 H1 ⟨ι1, st1, w1, S1, r1, p1, q1⟩ => q1 ι1 H1 S1 .refl _ p1.head
theorem s_ife (G : Good T o N k Wx X) {c : CE} {a b : CB} {s : Stmt} (h : okS T (.ife c a b) s = true) (hC : HT o N T Wx X c) (hA : HB o N T Wx X a) (hB : HB o N T Wx X b) : PS X s (rdS X.K N Wx (evS o (.ife c a b))) := by
  obtain ⟨x, y, z, p, rfl, hx, hy, hz⟩ := inv_if h
  refine PS.at fun ι st ρ σ H D S r q => ⟨_, ps_if (hC _ hx) (hA _ hy) (hB _ hz), ?_⟩
  refine (rdT_out S r q).mono fun c H1 ⟨ι1, st1, S1, r1, E1, q1⟩ => ?_
  cases c with
  | true => exact (if_pos rfl).mpr ⟨ι1, st1, ρ, S1, r1, q1⟩
  | false => exact ⟨ι1, st1, ρ, S1, r1, q1⟩
theorem s_whl (G : Good T o N k Wx X) {c : CE} {b : CB} {s : Stmt} (h : okS T (.whl c b) s = true) (hC : HT o N T Wx X c) (hB : HB o N T Wx X b) : PS X s (rdS X.K N Wx (evS o (.whl c b))) := by
  obtain ⟨x, y, p, rfl, hx, hy⟩ := inv_whl h
  refine PS.at fun ι st ρ σ H D S r q => ⟨_, ps_while G.own (hC _ hx) (hB _ hy), ?_⟩
  refine ⟨fun m σ H => ∃ ι st ρ, SR X.K N ι H st ∧ RS X.K ι H ρ σ ∧ outP X.K N Wx ι H D (whlLoop (evT o c) (evB o b) m ρ st), ⟨mostTurns, ι, st, ρ, S, r, q⟩, ?_⟩
  rintro m σ H ⟨ι, st, ρ, S, r, q⟩
  cases m with
  | zero => exact q.elim
  | succ m =>
    rw [whl_eq] at q
    refine (rdT_out S r q).mono fun c1 H1 ⟨ι1, st1, S1, r1, E1, q1⟩ => ?_
    cases c1 with
    | false => exact q1 ι1 H1 S1 .refl σ r1
    | true =>
      refine (if_pos rfl).mpr ⟨fun σ' H' => ∃ ι st ρ, SR X.K N ι H' st ∧ RS X.K ι H' ρ σ' ∧ outP X.K N Wx ι H' D (whlLoop (evT o c) (evB o b) m ρ st), fun σ' H' h => ⟨m, Nat.lt_succ_self _, h⟩, ι1, st1, ρ, S1, r1, ?_⟩
      exact goOn_ok q1 fun ρ2 st2 ι2 H2 σ2 S2 E2 r2 q2 => ⟨ι2, st2, ρ2, S2, r2, q2⟩
theorem s_for (G : Good T o N k Wx X) {t : CT} {it : CI} {b : CB} {s : Stmt} (h : okS T (.for t it b) s = true) (hG : HG o N T Wx X t) (hI : ∀ tg x, okI T it tg x = true → PI X tg x (rdI X.K N Wx (evI o it))) (hB : HB o N T Wx X b) : PS X s (rdS X.K N Wx (evS o (.for t it b))) := by
  obtain ⟨tg, iter, y, p, rfl, hs, hg, hi, hy⟩ := inv_for h
  refine PS.at fun ι st ρ σ H D S r q => ⟨_, ps_for G.own G.calm (hI _ _ hi) (hG _ hg) (hB _ hy) (fun x => set_no hs _ x), ?_⟩
  refine (rdI_out S r q).mono fun J H1 ⟨ι1, st1, jt, S1, r1, rJ, E1, q1⟩ => ?_
  let body : W → Loc → Store → Out := fun w ρ st => (evG o t w ρ st).out ρ fun ρ st => evB o b ρ st
  let Wf : Nat → Nat → L2.St → Hp → Prop := fun i m σ H => ∃ ι st ρ, SR X.K N ι H st ∧ RS X.K ι H ρ σ ∧ IR X.K ι H jt J ∧ outP X.K N Wx ι H D (forLoop body jt m i ρ st)
  refine ⟨Wf, ⟨jt.most, ι1, st1, ρ, S1, r1, rJ, q1⟩, ?_⟩
  rintro i m σ H ⟨ι, st, ρ, S, r, rJ, q⟩
  cases m with
  | zero =>
    simp only [forLoop] at q
    cases hg : jt.get st i with
    | none => rw [hg] at q; exact q.elim
    | some z =>
      rw [hg] at q
      cases z with
      | none => exact .inl ⟨rJ.stop S hg, q ι H S .refl σ r⟩
      | some w => exact q.elim
  | succ m =>
    simp only [forLoop] at q
    cases hg : jt.get st i with
    | none => rw [hg] at q; exact q.elim
    | some z =>
      rw [hg] at q
      cases z with
      | none => exact .inl ⟨rJ.stop S hg, q ι H S .refl σ r⟩
      | some w =>
        obtain ⟨go, yl⟩ := rJ.item S hg
        refine .inr ⟨go, Wf (i + 1) m, fun σ' H' h => ⟨m, Nat.lt_succ_self _, h⟩, fun x H' hy => ?_⟩
        obtain ⟨S3, E3, rx⟩ := yl x H' hy
        have q2 : outP X.K N Wx ι H D (goOn (forLoop body jt m (i + 1)) ((evG o t w ρ st).out ρ fun ρ st => evB o b ρ st)) := q
        have q3 : outP X.K N Wx ι H' { D with nx := Wf (i + 1) m, ct := Wf (i + 1) m, bk := D.nx } ((evG o t w ρ st).out ρ fun ρ st => evB o b ρ st) := by
          refine goOn_ok (outP.step q2 E3) fun ρ2 st2 ι2 H2 σ2 S2 E2 r2 q2 => ⟨ι2, st2, ρ2, S2, r2, rJ.ext S (E3.trans E2), q2⟩
        exact (rdG_out S3 (r.ext S E3) rx q3).mono fun σ4 H4 ⟨ι4, st4, ρ4, S4, r4, E4, q4⟩ => ⟨ι4, st4, ρ4, S4, r4, q4⟩
mutual
theorem sS (o : Orc) (N : Nm) (k : Nat) : ∀ (c : CS) (T : Stc) (Wx : WX) (X : Cx), Good T o N k Wx X → HS o N T Wx X c
  | .skip, _, _, _, _ => fun _ h => s_skip h
  | .set t c, T, Wx, X, G => fun _ h => s_set G h (sG o N k t T Wx X G) (sE o N k c T Wx X G) fun own t it ifs e ec => ⟨sI o N k it T Wx X G, fun T' X' G' => sG o N k t T' noW X' G', fun T' X' G' => sTs o N k ifs T' noW X' G', fun T' X' G' => sE o N k e T' noW X' G'⟩
  | .par i j a b, T, Wx, X, G => fun _ h => s_par G h (sE o N k a T Wx X G) (sE o N k b T Wx X G)
  | .aug i op c, T, Wx, X, G => fun _ h => s_aug G h (sE o N k c T Wx X G)
  | .expr c, T, Wx, X, G => fun _ h => s_expr G h (sE o N k c T Wx X G)
  | .ret c, T, Wx, X, G => fun _ h => s_ret G h (sE o N k c T Wx X G)
  | .retN, _, _, _, _ => fun _ h => by obtain ⟨p, rfl⟩ := inv_retN h; exact PS.at fun ι st ρ σ H D S r q => ⟨_, ps_retN, q ι H S .refl _ .non⟩
  | .brk, _, _, _, _ => fun _ h => by obtain ⟨p, rfl⟩ := inv_brk h; exact PS.at fun ι st ρ σ H D S r q => ⟨_, ps_break, q ι H S .refl _ r⟩
  | .cnt, _, _, _, _ => fun _ h => by obtain ⟨p, rfl⟩ := inv_cnt h; exact PS.at fun ι st ρ σ H D S r q => ⟨_, ps_continue, q ι H S .refl _ r⟩
  | .ife c a b, T, Wx, X, G => fun _ h => s_ife G h (sT o N k c T Wx X G) (sB o N k a T Wx X G) (sB o N k b T Wx X G)
  | .whl c b, T, Wx, X, G => fun _ h => s_whl G h (sT o N k c T Wx X G) (sB o N k b T Wx X G)
  | .for t it b, T, Wx, X, G => fun _ h => s_for G h (sG o N k t T Wx X G) (sI o N k it T Wx X G) (sB o N k b T Wx X G)
  | .never, _, _, _, _ => fun _ _ => PS.at fun ι st ρ σ H D S r q => ⟨_, ps_never, q⟩
  | .rse c, _, _, _, G => fun _ h => s_rse G h
  | .trx b (some i) h0 xs, T, Wx, X, G => fun _ h => s_trxS G h fun W X' G' => sB o N k b T W X' G'
  | .trx b none h0 xs, T, Wx, X, G => fun _ h => s_trxN G h fun W X' G' => sB o N k b T W X' G'
theorem sB (o : Orc) (N : Nm) (k : Nat) : ∀ (c : CB) (T : Stc) (Wx : WX) (X : Cx), Good T o N k Wx X → HB o N T Wx X c
  | .nil, _, _, _, _ => fun _ h => by obtain rfl := inv_bnil h; exact PSs.at fun ι st ρ σ H D S r q => ⟨_, pss_nil, q ι H S .refl σ r⟩
  | .cons s b, T, Wx, X, G => fun _ h => by
    obtain ⟨x, xs, rfl, hx, hr⟩ := inv_bcons h
    refine PSs.at fun ι st ρ σ H D S r q => ⟨_, pss_cons (sS o N k s T Wx X G _ hx) (sB o N k b T Wx X G _ hr), ι, st, ρ, S, r, ?_⟩
    rw [evB_cons] at q
    exact seqO_ok q
end
end
end Mx

/-! Defs: what runL gives, the def gives. -/
namespace Mx
open PySem PySem.Spec PyProof.Rows L2

/-- the text's defs and classes behind the top -/
structure Tx (T : Tb) (P : Prog) (cA fA xA : Nat → Option Addr) (K : PySem.W.Frag) (mg : Str → Option Value) : Prop where
  blt : ∀ x ∈ bltNames, mg x = none
  fn : ∀ f d, P.fn f = some d → ∃ fa fd st x qual ns ps, fA f = some fa ∧ L2.Fun K x qual st fa fd ∧ FnScope ns ps (defScope st) ∧ Binds K fd ps [] ∧ d.ps = ps.length ∧ d.ns = ns.length ∧ okB ⟨T, ns, defScope st, none⟩ d.body (defBody st) = true
  isf : ∀ f, T.isf f = true → ∃ fa, fA f = some fa ∧ mg (T.fn f) = some (.ref fa) ∧ (P.fn f).isSome = true
  glb : ∀ g w, P.glb g = some w → ∃ u v, mg (T.gl g) = some u ∧ RelV v u ∧ ∀ ι H, RV K ι H w v
  cls : ∀ c, c < T.nc → ∃ C, cA c = some C ∧ mg (T.cl c) = some (.ref C)
  isi : ∀ st w cs b, cs.length ≤ 100 → (tyOf st w).bind (fun t => isAny P t cs) = some b → ∀ ι H v, SR K ⟨cA, T.fl, xA⟩ ι H st → RV K ι H w v → ∃ t, TyX K H v t ∧ PySem.W.kitAny K t (cs.map (clsV ⟨cA, T.fl, xA⟩)) = some b
  mak : ∀ c, T.ism c = true → ∃ C k f fa, cA c = some C ∧ mg (T.cl c) = some (.ref C) ∧ P.cls c = some k ∧ k.init = some f ∧ fA f = some fa ∧ (P.fn f).isSome = true ∧ L2.Mk K C fa
  mth : ∀ c m f, ((P.cls c).bind fun k => k.mth m) = some f → ∃ C fa, cA c = some C ∧ fA f = some fa ∧ (P.fn f).isSome = true ∧ Meth K C (T.me m) fa
  nofm : ∀ f m, T.fl f ≠ T.me m
  inj : ∀ f g, T.fl f = T.fl g → f = g
  noat : ∀ c C, cA c = some C → Cls K C ∧ ∀ f, f < T.nf → NoAttr K C (T.fl f)
  exc : ∀ c, c < T.nx → ∃ C, xA c = some C ∧ mg (T.xl c) = some (.ref C) ∧ ExF K C
  exf : ∀ c C, xA c = some C → ExF K C
  exm : ∀ c d C D, xA c = some C → xA d = some D → PySem.W.exmOne K (.ref C) (.ref D) = some (P.sub c d) ∧ PySem.W.kitOne K (.ref C) (.ref D) = some (P.sub c d)

section
variable {T : Tb} {P : Prog} {cA fA xA : Nat → Option Addr} {Pg : Program} {w : World} {K : PySem.W.Frag} {mg : Str → Option Value} {base : Heap}
/-- a def's promise at so many calls deep -/
def FnL (P : Prog) (N : Nm) (fA : Nat → Option Addr) (Pg : Program) (w : World) (K : PySem.W.Frag) (mg : Str → Option Value) (base : Heap) (m : Nat) : Prop :=
  ∀ f d fa fd st x qual ns ps, P.fn f = some d → fA f = some fa → L2.Fun K x qual st fa fd → FnScope ns ps (defScope st) → d.ps = ps.length → d.ns = ns.length → ∀ T : Tb, okB ⟨T, ns, defScope st, none⟩ d.body (defBody st) = true → Tx T P N.cA fA N.xA K mg → N.fld = T.fl →
    FnOk Pg w K mg base (L2.CX Pg w) (m + 1) fa fd ps (spF K N d.ps (runL P m f))
theorem run_len {m f : Nat} {d : Fn} (h : P.fn f = some d) (ws : List W) (st : Store) (hb : runL P m f ws st ≠ .bad) : ws.length = d.ps := by
  cases m with
  | zero => exact absurd rfl hb
  | succ m =>
    rw [runL_succ, h] at hb
    unfold runFn at hb
    by_cases e : ws.length = d.ps
    · exact e
    · exact absurd (if_neg e) hb
theorem spF_bad {N : Nm} {n : Nat} {run : List W → Store → R W} (h : ∀ ws st, run ws st = .bad) {vs : List V} {H : Hp} {Q : VK} {E : XK} (q : spF K N n run vs H Q E) : False := by
  obtain ⟨_, ι, st, ws, _, _, q⟩ := q
  rw [h] at q
  exact q
theorem ok_zero {N : Nm} {n : Nat} {run : List W → Store → R W} (h : ∀ ws st, run ws st = .bad) {fa : Addr} {fd : FuncData} {ps : List Str} (k : Nat) : FnOk Pg w K mg base (L2.CX Pg w) k fa fd ps (spF K N n run) :=
  ⟨fun vs H Q E q => (spF_bad h q).elim, fun A outer s H args us vs Q E _ _ _ _ q => (spF_bad h q).elim⟩
theorem RVs.start {K : PySem.W.Frag} {ι : List Addr} {H : Hp} {ws : List W} {vs : List V} (r : RVs K ι H ws vs) (n : Nat) : RS K ι H (ws.map some ++ List.replicate n none) (vs.map some ++ List.replicate n none) := by
  refine ⟨by simp [r.length], fun i w e => ?_⟩
  by_cases hi : i < ws.length
  · rw [List.getElem?_append_left (by simpa using hi), List.getElem?_map] at e
    cases e2 : ws[i]? with
    | none => rw [e2] at e; cases e
    | some u =>
      rw [e2] at e
      cases e
      obtain ⟨v, h1, h2⟩ := r.get e2
      refine ⟨v, ?_, h2⟩
      rw [List.getElem?_append_left (by simpa [r.length] using hi), List.getElem?_map, h1]
      rfl
  · rw [List.getElem?_append_right (by simpa using Nat.le_of_not_lt hi)] at e
    rw [List.getElem?_replicate] at e
    split at e <;> cases e
theorem out_val {N : Nm} {ι : List Addr} {H : Hp} {Q : VK} {E : XK} {x : Out} (h : resP K N ι H E x.val (PQ K Q)) : outP K N (fun c d _ H' => E c d H') ι H { nx := fun _ H' => Q .non H', rt := Q } x := by
  cases x with
  | nx ρ st => exact fun ι' H' S E' σ' r => h ι' H' S E' .non .non
  | rt w st => exact h
  | bk ρ st => exact h.elim
  | ct ρ st => exact h.elim
  | exc c fs ρ st => exact fun ι' H' S E' C d σ' r hc hx => h ι' H' S E' C d hc hx
  | bad => exact h
/-- the environment of a body, from what is below -/
theorem env_of {X : Cx} {k : Nat} {call mkc : Nat → List W → Store → R W} (t : Tx T P cA fA xA X.K X.mg) (hr : Room (k + 1) X.A)
    (hf : ∀ f d fa fd st x qual ns ps, P.fn f = some d → fA f = some fa → L2.Fun X.K x qual st fa fd → FnScope ns ps (defScope st) → d.ps = ps.length → d.ns = ns.length → okB ⟨T, ns, defScope st, none⟩ d.body (defBody st) = true → FnOk X.prog X.w X.K X.mg X.base (L2.CX X.prog X.w) (k + 1) fa fd ps (spF X.K ⟨cA, T.fl, xA⟩ d.ps (call f)))
    (hm : ∀ f d fa fd st x qual ns ps, P.fn f = some d → fA f = some fa → L2.Fun X.K x qual st fa fd → FnScope ns ps (defScope st) → d.ps = ps.length → d.ns = ns.length → okB ⟨T, ns, defScope st, none⟩ d.body (defBody st) = true → FnOk X.prog X.w X.K X.mg X.base (L2.CX X.prog X.w) k fa fd ps (spF X.K ⟨cA, T.fl, xA⟩ d.ps (mkc f)))
    (lf : ∀ f d, P.fn f = some d → ∀ ws st, call f ws st ≠ .bad → ws.length = d.ps) (lm : ∀ f d, P.fn f = some d → ∀ ws st, mkc f ws st ≠ .bad → ws.length = d.ps) : PEnv T (orcOf P call mkc) ⟨cA, T.fl, xA⟩ (k + 1) X where
  room := hr
  blt := t.blt
  fld := rfl
  call := fun f h => by
    obtain ⟨fa, h1, h2, h3⟩ := t.isf f h
    obtain ⟨d, hd⟩ := Option.isSome_iff_exists.mp h3
    obtain ⟨fa', fd, st, x, qual, ns, ps, e1, F, S, B, l1, l2, ok⟩ := t.fn f d hd
    rw [h1] at e1
    cases e1
    exact ⟨fa, fd, ps, d.ps, h2, F.kp, B, hf f d fa fd st x qual ns ps hd h1 F S l1 l2 ok, lf f d hd⟩
  glb := t.glb
  cls := t.cls
  isi := fun st w cs b h ι H v S r => by
    have h' : (if cs.length ≤ 100 then (tyOf st w).bind fun t => isAny P t cs else none) = some b := h
    split at h'
    · rename_i hl; exact ⟨hl, t.isi st w cs b hl h' ι H v S r⟩
    · cases h'
  make := fun c h => by
    obtain ⟨C, kl, f, fa, h1, h2, h3, h4, h5, h6, h7⟩ := t.mak c h
    obtain ⟨d, hd⟩ := Option.isSome_iff_exists.mp h6
    obtain ⟨fa', fd, st, x, qual, ns, ps, e1, F, S, B, l1, l2, ok⟩ := t.fn f d hd
    rw [h5] at e1
    cases e1
    refine ⟨C, fa, fd, ps, d.ps, k, mkc f, h1, h2, h7, B, Nat.le_refl _, hm f d fa fd st x qual ns ps hd h5 F S l1 l2 ok, lm f d hd, fun ws st => ?_⟩
    show (match P.cls c with | some k => _ | none => _) = _
    rw [h3]
    show (match kl.init with | some f => _ | none => _) = _
    rw [h4]
    try rfl
  mth := fun c m f h => by
    obtain ⟨C, fa, h1, h2, h3, h4⟩ := t.mth c m f h
    obtain ⟨d, hd⟩ := Option.isSome_iff_exists.mp h3
    obtain ⟨fa', fd, st, x, qual, ns, ps, e1, F, S, B, l1, l2, ok⟩ := t.fn f d hd
    rw [h2] at e1
    cases e1
    exact ⟨C, fa, fd, ps, d.ps, h1, h4, B, hf f d fa fd st x qual ns ps hd h2 F S l1 l2 ok, lf f d hd⟩
  nofm := t.nofm
  inj := t.inj
  noat := t.noat
  exc := t.exc
  exf := t.exf
  exm := t.exm
/-- THE defs -/
theorem fn_all {N : Nm} : ∀ m, FnL P N fA Pg w K mg base m ∧ ∀ j, m = j + 1 → FnL P N fA Pg w K mg base j := by
  intro m
  induction m with
  | zero => exact ⟨fun f d fa fd st x qual ns ps _ _ _ _ _ _ _ _ _ _ => ok_zero (fun _ _ => rfl) _, fun j e => by cases e⟩
  | succ m ih =>
    refine ⟨?_, fun j e => by cases e; exact ih.1⟩
    intro f d fa fd st x qual ns ps hd ha F S l1 l2 T ok t hN
    obtain ⟨cA, fl, xA⟩ := N
    have hN' : fl = T.fl := hN
    subst hN'
    refine F.okX S (fun vs H Q E q => q.1.trans l1) (fun cdv A outer s H vs Q E hr q => ?_)
    obtain ⟨hlen, ι, sto, ws, SR0, rw0, q⟩ := q
    have hlen' := rw0.length
    rw [runL_succ, hd] at q
    have q : resP K ⟨cA, T.fl, xA⟩ ι H E (runFn (orcOf P (runL P m) (mkOf P m)) d ws sto) (PQ K Q) := q
    unfold runFn at q
    rw [if_pos (by rw [hlen', hlen])] at q
    have q2 := out_val q
    let X : Cx := cxOf (L2.CX Pg w) Pg w K mg base ns qual (defScope st) fa cdv A outer s H E
    have env : PEnv T (orcOf P (runL P m) (mkOf P m)) ⟨cA, T.fl, xA⟩ (m + 1) X := by
      refine env_of (X := X) t hr (fun f d fa fd st x qual ns ps hd ha F S l1 l2 ok => ih.1 f d fa fd st x qual ns ps hd ha F S l1 l2 T ok t rfl) (fun f d fa fd st x qual ns ps hd ha F S l1 l2 ok => ?_) (fun f d h ws st hb => run_len h ws st hb) (fun f d h ws st hb => ?_)
      · cases m with
        | zero => exact ok_zero (fun _ _ => rfl) _
        | succ j => exact ih.2 j rfl f d fa fd st x qual ns ps hd ha F S l1 l2 T ok t rfl
      · cases m with
        | zero => exact absurd rfl hb
        | succ j => exact run_len (m := j) h ws st hb
    have G : Good ⟨T, ns, defScope st, none⟩ (orcOf P (runL P m) (mkOf P m)) ⟨cA, T.fl, xA⟩ (m + 1) (fun c d _ H' => E c d H') X :=
      ⟨rfl, S.nd, rfl, fun _ _ => .inl rfl, rfl, passes_of (X := X) (K := fun e s'' => L2.CX Pg w outer H s E e s'') (E₁ := fun e' s'' => L2.CX Pg w outer H s E e' s'') rfl, takes_of (X := X) rfl rfl rfl rfl, env, S.kind, fun _ => ⟨rfl, rfl⟩⟩
    refine ⟨_, sB _ _ _ d.body _ _ X G _ ok, ι, sto, _, SR0, ?_, q2⟩
    show RS K ι H _ (L2.start ns vs)
    unfold L2.start
    rw [l2, hlen']
    exact rw0.start _
end
end Mx

/-! The top: names, classes, the law. -/
namespace Mx
open PySem PySem.Spec PyProof.Rows L2

/-- a table of names, each other one than all -/
def tabS (l : List Str) (i : Nat) : Str := match l[i]? with
  | some x => x
  | none => ⟨Array.replicate (i + 100) 120⟩
def tabZ (l : List Str) (i : Nat) : Str := l.getD i ""
theorem tabS_inj {l : List Str} (nd : l.Nodup) (hs : (l.all fun x : Str => decide (x.cps.size < 100)) = true) : ∀ f g, tabS l f = tabS l g → f = g := by
  intro f g h
  have small : ∀ (i : Nat) (x : Str), l[i]? = some x → x.cps.size < 100 := fun i x e => by
    have := List.all_eq_true.mp hs x (List.mem_of_getElem? e)
    exact of_decide_eq_true this
  unfold tabS at h
  cases ef : l[f]? with
  | some x =>
    cases eg : l[g]? with
    | some y =>
      simp only [ef, eg] at h
      subst h
      obtain ⟨h1, e1⟩ := List.getElem?_eq_some_iff.mp ef
      obtain ⟨h2, e2⟩ := List.getElem?_eq_some_iff.mp eg
      exact (List.getElem_inj nd).mp (e1.trans e2.symm)
    | none =>
      simp only [ef, eg] at h
      have := small _ _ ef
      rw [h] at this
      simp at this
      omega
  | none =>
    cases eg : l[g]? with
    | some y =>
      simp only [ef, eg] at h
      have := small _ _ eg
      rw [← h] at this
      simp at this
      omega
    | none =>
      simp only [ef, eg] at h
      have := congrArg (fun s : Str => s.cps.size) h
      simp at this
      exact this
theorem tab_no {l m : List Str} (hd : l.all (fun x : Str => decide (x ≠ "") && m.all fun y : Str => decide (x ≠ y)) = true) (hs : m.all (fun x : Str => decide (x.cps.size < 100)) = true) : ∀ f g, tabS l f ≠ tabZ m g := by
  intro f g h
  have hz : (tabZ m g).cps.size < 100 := by
    unfold tabZ
    cases eg : m[g]? with
    | none => rw [List.getD_eq_getElem?_getD, eg]; exact (by decide : (("" : Str)).cps.size < 100)
    | some y =>
      rw [List.getD_eq_getElem?_getD, eg]
      exact of_decide_eq_true (List.all_eq_true.mp hs y (List.mem_of_getElem? eg))
  unfold tabS at h
  cases ef : l[f]? with
  | none =>
    simp only [ef] at h
    rw [← h] at hz
    simp at hz
    omega
  | some x =>
    simp only [ef] at h
    have := List.all_eq_true.mp hd x (List.mem_of_getElem? ef)
    simp only [Bool.and_eq_true, decide_eq_true_eq, List.all_eq_true] at this
    unfold tabZ at h
    cases eg : m[g]? with
    | none => rw [List.getD_eq_getElem?_getD, eg] at h; exact this.1 h
    | some y => rw [List.getD_eq_getElem?_getD, eg] at h; exact this.2 y (List.mem_of_getElem? eg) h

/-! ### isinstance -/
/-- what is known of a class that isinstance is asked of -/
structure KCls (K : PySem.W.Frag) (C : Addr) : Prop where
  cl : Cls K C
  ha : PySem.W.findIn K (.ref C) "__class__" = some (some (.builtin "object.__class__"))
  hn : PySem.W.specialIn K (.builtin "object.__class__") "__get__" = some (some (.builtin "getset_descriptor.__get__"))
  htk : PySem.W.takesIn K (.builtin "object.__class__") = some true
  hm : PySem.W.mroIn K C (.type "object") = some true
  k0 : PySem.W.kitOne K (.type "NoneType") (.ref C) = some false

theorem kit_bb : ∀ t, t < 7 → ∀ c, c < 7 → kitB (tyName t) (tyName c) = some (t == c || (t == 1 && c == 2)) := by decide +kernel
theorem mro_no (C : Addr) : ∀ t, t < 7 → (PySem.fastBuiltinMro (tyName t)).map (·.contains (.ref C)) = some false
  | 0, _ => rfl
  | 1, _ => rfl
  | 2, _ => rfl
  | 3, _ => rfl
  | 4, _ => rfl
  | 5, _ => rfl
  | 6, _ => rfl
  | n + 7, h => absurd h (by omega)
theorem kit_bo {K : PySem.W.Frag} {C : Addr} (h : PySem.W.kitOne K (.type "NoneType") (.ref C) = some false) {t : Nat} (ht : t < 7) : PySem.W.kitOne K (.type (tyName t)) (.ref C) = some false := by
  have h' : (if ((PySem.W.clsIn K C).isSome && PySem.W.typeIn K (.ref C) == some (.type "type")) = true then PySem.W.subIn K (.type "NoneType") (.ref C) else none) = some false := h
  show (if ((PySem.W.clsIn K C).isSome && PySem.W.typeIn K (.ref C) == some (.type "type")) = true then PySem.W.subIn K (.type (tyName t)) (.ref C) else none) = some false
  split at h'
  · rename_i hh
    rw [if_pos hh]
    exact mro_no C t ht
  · cases h'
theorem isi_of {P : Prog} {K : PySem.W.Frag} {cA xA : Nat → Option Addr} {fl : Nat → Str} (hk : ∀ c C, cA c = some C → KCls K C) (hcls : ∀ c k, P.cls c = some k → ∃ C, cA c = some C)
    (hp : ∀ c d k k' C D, P.cls c = some k → P.cls d = some k' → cA c = some C → cA d = some D → PySem.W.kitOne K (.ref C) (.ref D) = some (k.ups.contains d))
    (ht : ∀ c C t, cA c = some C → t < 7 → PySem.W.kitOne K (.ref C) (.type (tyName t)) = some false) :
    ∀ st w cs b, cs.length ≤ 100 → (tyOf st w).bind (fun t => isAny P t cs) = some b → ∀ ι H v, SR K ⟨cA, fl, xA⟩ ι H st → RV K ι H w v → ∃ t, TyX K H v t ∧ PySem.W.kitAny K t (cs.map (clsV ⟨cA, fl, xA⟩)) = some b := by
  intro st w cs b hlen h ι H v S r
  clear hlen
  cases e : tyOf st w with
  | none => rw [e] at h; cases h
  | some t =>
    rw [e] at h
    have h : isAny P t cs = some b := h
    -- the type's value
    have key : ∀ tv : Value, (∀ c b, isOne P t c = some b → PySem.W.kitOne K tv (clsV ⟨cA, fl, xA⟩ c) = some b) → PySem.W.kitAny K tv (cs.map (clsV ⟨cA, fl, xA⟩)) = some b := by
      intro tv hone
      clear e
      induction cs with
      | nil => exact h
      | cons c cs ih =>
        unfold isAny at h
        cases e1 : isOne P t c with
        | none => rw [e1] at h; cases h
        | some b1 =>
          rw [e1] at h
          show PySem.W.kitAny K tv (clsV ⟨cA, fl, xA⟩ c :: cs.map (clsV ⟨cA, fl, xA⟩)) = some b
          unfold PySem.W.kitAny
          rw [hone c b1 e1]
          cases b1 with
          | true => exact h
          | false => exact ih h h
    have low : ∀ t', t = t' → t' < 7 → ∀ c b, isOne P t c = some b → PySem.W.kitOne K (.type (tyName t')) (clsV ⟨cA, fl, xA⟩ c) = some b := by
      intro t' et h7 c b hb
      subst et
      unfold isOne at hb
      rw [if_pos (by omega)] at hb
      unfold clsV
      by_cases h16 : c < 16
      · rw [if_pos h16] at hb ⊢
        by_cases hc : c < 7
        · rw [if_pos hc] at hb
          cases hb
          exact kit_bb t h7 c hc
        · rw [if_neg hc] at hb; cases hb
      · rw [if_neg h16] at hb ⊢
        cases e2 : P.cls (c - 16) with
        | none => rw [e2] at hb; cases hb
        | some k =>
          rw [e2] at hb
          cases hb
          obtain ⟨C, hC⟩ := hcls _ _ e2
          show PySem.W.kitOne K _ (.ref ((cA (c - 16)).getD 0)) = _
          rw [hC]
          exact kit_bo (hk _ _ hC).k0 h7
    cases w with
    | non => cases e; cases r; exact ⟨_, .base .non, key _ (low 0 rfl (by decide))⟩
    | bl x => cases e; cases r; exact ⟨_, .base (.bl _), key _ (low 1 rfl (by decide))⟩
    | int x => cases e; cases r; exact ⟨_, .base (.int _), key _ (low 2 rfl (by decide))⟩
    | str x => cases e; cases r; exact ⟨_, .base (.str _), key _ (low 3 rfl (by decide))⟩
    | tup ws =>
      cases e
      cases r with
      | tup hq rr =>
        have k := key _ (low 4 rfl (by decide))
        rcases hq with (hq | ⟨o, hq⟩) | ⟨o, its, n, hq, hc, _⟩
        · exact ⟨_, .base (.tup hq), k⟩
        · exact ⟨_, .fTuple hq, k⟩
        · exact ⟨_, .kTuple hq hc, k⟩
    | scr is =>
      cases e
      cases r with
      | scr hq =>
        have k := key _ (low 5 rfl (by decide))
        rcases hq with ⟨o, hq⟩ | ⟨o, its, n, hq, hc, _⟩
        · exact ⟨_, .base (.frz hq), k⟩
        · exact ⟨_, .kList hq hc, k⟩
    | ref n =>
      cases r with
      | @ref _ a hn =>
        have e' : (match st[n]? with
          | some (.lst _) => some 5
          | some (.dic _) => some 6
          | some (.ins c _) => some (c + 16)
          | _ => none) = some t := e
        split at e'
        · rename_i ws e1
          cases e'
          cases S.at e1 hn with | lst h1 _ => exact ⟨_, .base (.lst h1), key _ (low 5 rfl (by decide))⟩
        · rename_i ws e1
          cases e'
          cases S.at e1 hn with | dic h1 _ => exact ⟨_, .base (.dK h1), key _ (low 6 rfl (by decide))⟩
        · rename_i c fs e1
          cases e'
          cases S.at e1 hn with
          | @ins _ C dx _ _ vs h1 hC _ =>
            have kc := hk c C hC
            refine ⟨_, .base (.ins h1 kc.cl kc.ha kc.hn kc.htk kc.hm), key _ fun d b hb => ?_⟩
            unfold isOne at hb
            rw [if_neg (by omega)] at hb
            unfold clsV
            by_cases h16 : d < 16
            · rw [if_pos h16] at hb ⊢
              by_cases hd : d < 7
              · rw [if_pos hd] at hb
                cases e2 : P.cls (c + 16 - 16) with
                | none => rw [e2] at hb; cases hb
                | some k =>
                  rw [e2] at hb
                  cases hb
                  exact ht c C d hC hd
              · rw [if_neg hd] at hb; cases hb
            · rw [if_neg h16] at hb ⊢
              cases e2 : P.cls (c + 16 - 16) with
              | none => rw [e2] at hb; cases hb
              | some k =>
                rw [e2] at hb
                have hb : (P.cls (d - 16)).map (fun _ => k.ups.contains (d - 16)) = some b := hb
                cases e3 : P.cls (d - 16) with
                | none => rw [e3] at hb; cases hb
                | some k' =>
                  rw [e3] at hb
                  cases hb
                  have e2' : P.cls c = some k := by rw [← e2]; rfl
                  obtain ⟨D, hD⟩ := hcls _ _ e3
                  show PySem.W.kitOne K _ (.ref ((cA (d - 16)).getD 0)) = _
                  rw [hD]
                  exact hp c (d - 16) k k' C D e2' e3 hC hD
        · cases e'

/-! ### the law -/
def spLaw (K : PySem.W.Frag) : Sp := fun vs H Q _ => ∃ (a : Addr) (is : List Int), vs = [.ref a] ∧ SqF K H a (is.map V.int) ∧ is.length ≤ 63 ∧ ∀ H', Q (.bl true) H'
theorem law_ok {T : Tb} {P : Prog} {cA fA xA : Nat → Option Addr} {Pg : Program} {w : World} {K : PySem.W.Frag} {mg : Str → Option Value} {base : Heap} {m f : Nat} {d : Fn} {fa : Addr} {fd : FuncData} {st : Stmt} {x qual : Str} {ns ps : List Str}
    (t : Tx T P cA fA xA K mg) (hd : P.fn f = some d) (ha : fA f = some fa) (F : L2.Fun K x qual st fa fd) (S : FnScope ns ps (defScope st)) (l1 : d.ps = ps.length) (l2 : d.ns = ns.length) (hp : d.ps = 1) (ok : okB ⟨T, ns, defScope st, none⟩ d.body (defBody st) = true)
    (h : ∀ is : List Int, is.length ≤ 63 → ∃ st, runL P m f [.scr is] [] = .ok (.bl true) st) : FnOk Pg w K mg base (L2.CX Pg w) (m + 1) fa fd ps (spLaw K) := by
  refine ((fn_all (fA := fA) (N := ⟨cA, T.fl, xA⟩) (P := P) m).1 f d fa fd st x qual ns ps hd ha F S l1 l2 T ok t rfl).imp fun vs H Q E q => ?_
  obtain ⟨a, is, rfl, hq, hl, k⟩ := q
  obtain ⟨sto, hr⟩ := h is hl
  refine ⟨by rw [hp]; rfl, [], [], [.scr is], ⟨rfl, .nil, fun n c e => by simp at e⟩, .one (.scr hq), ?_⟩
  rw [hr]
  exact fun ι' H' S' E' v rv => by cases rv; exact k H'
theorem walk_law {l : PySem.W.OpenLaw} {q : Program} {loose : List Str} {XP : (Str → Option Value) → Heap → Prop} {YP : World → Heap → Prop} {d : DefRec} {K : Params → PySem.W.Frag} {k : Nat} {x : Str} (hn : l.most = some 63) (hdf : d.params.defaults = []) (hr : Room k callerA)
    (hY : ∀ (w : World) (h : Heap), YP w h → (K w.params).In h)
    (F : ∀ (w : World) (mg : Str → Option Value) (fa : Addr) (h : Heap), (K w.params).In h → h.Ns mainGlobals mg → mg d.name = some (.ref fa) →
      ∃ fd : FuncData, (∀ (s : Shared) (u : Value), BindsTo s fd ⟨[u], []⟩ [(x, u)]) ∧ ∀ base : Heap, (K w.params).In base → base.Ns mainGlobals mg → FnOk l.prog w (K w.params) mg base (L2.CX l.prog w) k fa fd [x] (spLaw (K w.params))) :
    PySem.W.WalkO q loose XP YP l.row.toRowW d [] (fun f vs => PySem.call f vs) :=
  L2.walk_of (n := 63) (k := k) (x := x) (CX := fun w => L2.CX l.prog w) (sp := fun w => spLaw (K w.params)) hn (by decide) hdf hr hY F (fun w H a ns hl ho hS => by
    refine ⟨a, ns, rfl, ?_, hl, fun _ => rfl⟩
    rcases hS with (hS | ⟨o, hS⟩) | hS
    · rcases ho a with z | ⟨o, xs, z⟩
      · rw [hS] at z; cases z
      · rw [hS] at z; cases z
    · exact .inl ⟨o, hS⟩
    · exact .inr hS) fun w H s e s' z => by
      obtain ⟨_, _, _, _, _, _, _, _, _, _, _, _, z⟩ := z
      exact z
end Mx
namespace Mx
open PySem PySem.Spec PyProof.Rows L2
/-! ### lists of facts -/
structure DF (T : Tb) (K : PySem.W.Frag) (fa : Addr) (d : Fn) : Prop where
  ex : ∃ fd st x qual ns ps, L2.Fun K x qual st fa fd ∧ FnScope ns ps (defScope st) ∧ Binds K fd ps [] ∧ d.ps = ps.length ∧ d.ns = ns.length ∧ okB ⟨T, ns, defScope st, none⟩ d.body (defBody st) = true
theorem DF.mk' {T : Tb} {K : PySem.W.Frag} {fa : Addr} {d : Fn} (fd : FuncData) (st : Stmt) (x qual : Str) (ns ps : List Str) (F : L2.Fun K x qual st fa fd) (S : FnScope ns ps (defScope st)) (B : Binds K fd ps []) (h1 : d.ps = ps.length) (h2 : d.ns = ns.length) (ok : okB ⟨T, ns, defScope st, none⟩ d.body (defBody st) = true) : DF T K fa d :=
  ⟨fd, st, x, qual, ns, ps, F, S, B, h1, h2, ok⟩
inductive DFs (T : Tb) (K : PySem.W.Frag) : List Addr → List Fn → Prop where
  | nil : DFs T K [] []
  | cons {a : Addr} {d : Fn} {as : List Addr} {ds : List Fn} (h : ∃ fd st x qual ns ps, L2.Fun K x qual st a fd ∧ FnScope ns ps (defScope st) ∧ Binds K fd ps [] ∧ d.ps = ps.length ∧ d.ns = ns.length ∧ okB ⟨T, ns, defScope st, none⟩ d.body (defBody st) = true) (t : DFs T K as ds) : DFs T K (a :: as) (d :: ds)
theorem DFs.at {T : Tb} {K : PySem.W.Frag} {as : List Addr} {ds : List Fn} (h : DFs T K as ds) : ∀ {f : Nat} {d : Fn}, ds[f]? = some d → ∃ fa, as[f]? = some fa ∧ ∃ fd st x qual ns ps, L2.Fun K x qual st fa fd ∧ FnScope ns ps (defScope st) ∧ Binds K fd ps [] ∧ d.ps = ps.length ∧ d.ns = ns.length ∧ okB ⟨T, ns, defScope st, none⟩ d.body (defBody st) = true := by
  induction h with
  | nil => intro f d e; simp at e
  | @cons a d' as ds h t ih =>
    intro f d e
    cases f with
    | zero => simp at e; subst e; exact ⟨a, rfl, h⟩
    | succ f => simp at e; obtain ⟨fa, h1, h2⟩ := ih e; exact ⟨fa, by simpa using h1, h2⟩
theorem DFs.len {T : Tb} {K : PySem.W.Frag} {as : List Addr} {ds : List Fn} (h : DFs T K as ds) : as.length = ds.length := by
  induction h with
  | nil => rfl
  | cons _ _ ih => simp [ih]
inductive MGs (mg : Str → Option Value) : List Str → List Addr → Prop where
  | nil : MGs mg [] []
  | cons {x : Str} {a : Addr} {xs : List Str} {as : List Addr} (h : mg x = some (.ref a)) (t : MGs mg xs as) : MGs mg (x :: xs) (a :: as)
theorem MGs.at {mg : Str → Option Value} {xs : List Str} {as : List Addr} (h : MGs mg xs as) : ∀ {f : Nat}, f < xs.length → ∃ a, as[f]? = some a ∧ mg (tabZ xs f) = some (.ref a) := by
  induction h with
  | nil => intro f hf; simp at hf
  | @cons x a xs as h t ih =>
    intro f hf
    cases f with
    | zero => exact ⟨a, rfl, h⟩
    | succ f =>
      obtain ⟨b, h1, h2⟩ := ih (f := f) (by simpa using hf)
      exact ⟨b, by simpa using h1, by simpa [tabZ] using h2⟩
theorem MGs.len {mg : Str → Option Value} {xs : List Str} {as : List Addr} (h : MGs mg xs as) : xs.length = as.length := by
  induction h with
  | nil => rfl
  | cons _ _ ih => simp [ih]
inductive NoneAll (mg : Str → Option Value) : List Str → Prop where
  | nil : NoneAll mg []
  | cons {x : Str} {xs : List Str} (h : mg x = none) (t : NoneAll mg xs) : NoneAll mg (x :: xs)
theorem none_all {mg : Str → Option Value} {xs : List Str} (h : NoneAll mg xs) : ∀ x ∈ xs, mg x = none := by
  induction h with
  | nil => intro x hx; simp at hx
  | cons h t ih =>
    intro y hy
    rcases List.mem_cons.mp hy with e | e
    · subst e; exact h
    · exact ih y e
/-- a def's scope is a plain one -/
def plainSc (N P : List Str) (sc : Scope) : Bool := decide (sc.kind = .function) && decide (sc.isCoroutine = false) && decide (sc.isGenerator = false) && decide N.Nodup && decide (N.take P.length = P) &&
  (P.all fun x => decide (sc.names.lookup x = some .local ∨ sc.names.lookup x = some .cell)) && (sc.names.all fun y => decide (y.2 ≠ .free))
theorem sc_by {N P : List Str} {sc : Scope} (h : plainSc N P sc = true) : FnScope N P sc := by
  simp only [plainSc, Bool.and_eq_true, decide_eq_true_eq, List.all_eq_true] at h
  exact ⟨h.1.1.1.1.1.1, h.1.1.1.1.1.2, h.1.1.1.1.2, h.1.1.1.2, h.1.1.2, h.1.2, h.2⟩
/-- constants -/
inductive Gs (K : PySem.W.Frag) (mg : Str → Option Value) : List Str → List W → Prop where
  | nil : Gs K mg [] []
  | cons {x : Str} {w : W} {xs : List Str} {ws : List W} (h : ∃ u v, mg x = some u ∧ RelV v u ∧ ∀ ι H, RV K ι H w v) (t : Gs K mg xs ws) : Gs K mg (x :: xs) (w :: ws)
theorem Gs.at {K : PySem.W.Frag} {mg : Str → Option Value} {xs : List Str} {ws : List W} (h : Gs K mg xs ws) : ∀ g w, ws[g]? = some w → ∃ u v, mg (tabZ xs g) = some u ∧ RelV v u ∧ ∀ ι H, RV K ι H w v := by
  induction h with
  | nil => intro g w e; simp at e
  | @cons x w0 xs ws h t ih =>
    intro g w e
    cases g with
    | zero => simp at e; subst e; exact h
    | succ g => simpa [tabZ] using ih g w (by simpa using e)
/-- a constant that is a tuple of two whole numbers -/
theorem con2 {K : PySem.W.Frag} {mg : Str → Option Value} {x : Str} {a b : Int} {G : Addr} {dd : Option Addr} {t1 t2 : Tok} {n : Nat} {sl : Array (Option Value)} (hm : mg x = some (.ref G)) (hl : K.lookup G = some ⟨.type "tuple", dd, .seq #[.int a t1, .int b t2] n, sl⟩) :
    ∃ u v, mg x = some u ∧ RelV v u ∧ ∀ ι H, RV K ι H (.tup [.int a, .int b]) v :=
  ⟨.ref G, .ref G, hm, rfl, fun ι H => .tup (vs := [.int a, .int b]) (.inr ⟨_, _, _, hl, rfl, rfl, by rw [sizeLine_eq]; show 2 ≤ 16777216; decide, .cons ⟨_, rfl⟩ (.cons ⟨_, rfl⟩ .nil)⟩) (.cons (.int a) (.cons (.int b) .nil))⟩
/-- a program without classes and constants -/
theorem tx_plain {T : Tb} {P : Prog} {K : PySem.W.Frag} {mg : Str → Option Value} {fns : List Fn} {as bs : List Addr} {xs ls ms : List Str} (D : DFs T K as fns) (M : MGs mg xs bs) (B : ∀ x ∈ bltNames, mg x = none) (hP : P.fn = fun f => fns[f]?) (hT : T.fn = tabZ xs) (hI : T.isf = fun f => decide (f < xs.length)) (hxl : xs.length ≤ fns.length) (hb : as.take xs.length = bs) (hc : T.nc = 0) (hg : ∀ g w, P.glb g = some w → ∃ u v, mg (T.gl g) = some u ∧ RelV v u ∧ ∀ ι H, RV K ι H w v) (hk : ∀ c, P.cls c = none)
    (inj : ∀ f g, tabS ls f = tabS ls g → f = g) (no : ∀ f g, tabS ls f ≠ tabZ ms g) (hfm : T.fl = tabS ls ∧ T.me = tabZ ms ∧ T.ism = fun _ => false) (hx : T.nx = 0 := by rfl) : Tx T P (fun _ => none) (fun f => as[f]?) (fun _ => none) K mg where
  blt := B
  fn := fun f d h => by
    rw [hP] at h
    obtain ⟨fa, h1, fd, st, x, qual, ns, ps, h2⟩ := D.at h
    exact ⟨fa, fd, st, x, qual, ns, ps, h1, h2⟩
  isf := fun f h => by
    rw [hI] at h
    have hf : f < xs.length := of_decide_eq_true h
    obtain ⟨a, h1, h2⟩ := M.at hf
    rw [← hb, List.getElem?_take_of_lt hf] at h1
    refine ⟨a, h1, by rw [hT]; exact h2, ?_⟩
    rw [hP]
    show (fns[f]?).isSome = true
    rw [List.getElem?_eq_getElem (by omega)]
    rfl
  glb := hg
  cls := fun c h => by rw [hc] at h; exact absurd h (Nat.not_lt_zero _)
  isi := isi_of (fun c C h => by cases h) (fun c k h => by rw [hk] at h; cases h) (fun c d k k' C D h => by rw [hk] at h; cases h) (fun c C t h => by cases h)
  mak := fun c h => by rw [hfm.2.2] at h; cases h
  mth := fun c m f h => by rw [hk] at h; cases h
  nofm := fun f m => by rw [hfm.1, hfm.2.1]; exact no f m
  inj := fun f g h => inj f g (by rw [hfm.1] at h; exact h)
  noat := fun c C h => by cases h
  exc := fun c h => by rw [hx] at h; exact absurd h (Nat.not_lt_zero _)
  exf := fun c C h => by cases h
  exm := fun c d C D h => by cases h
/-- a constant that is a whole number, a text -/
theorem con1 {K : PySem.W.Frag} {mg : Str → Option Value} {x : Str} {i : Int} {t : Tok} (hm : mg x = some (.int i t)) : ∃ u v, mg x = some u ∧ RelV v u ∧ ∀ ι H, RV K ι H (.int i) v :=
  ⟨.int i t, .int i, hm, ⟨t, rfl⟩, fun ι H => .int i⟩
theorem conS {K : PySem.W.Frag} {mg : Str → Option Value} {x z : Str} {t : Tok} (hm : mg x = some (.str z t)) : ∃ u v, mg x = some u ∧ RelV v u ∧ ∀ ι H, RV K ι H (.str z) v :=
  ⟨.str z t, .str z, hm, ⟨t, rfl⟩, fun ι H => .str z⟩

/-! ### classes -/
/-- a class's methods, by number -/
inductive MFs (K : PySem.W.Frag) (C : Addr) (as : List Addr) : List Str → List (Option Nat) → Prop where
  | nil : MFs K C as [] []
  | no {x : Str} {xs : List Str} {ms : List (Option Nat)} (t : MFs K C as xs ms) : MFs K C as (x :: xs) (none :: ms)
  | yes {x : Str} {xs : List Str} {ms : List (Option Nat)} {f : Nat} {fa : Addr} (h : as[f]? = some fa) (m : Meth K C x fa) (t : MFs K C as xs ms) : MFs K C as (x :: xs) (some f :: ms)
theorem MFs.at {K : PySem.W.Frag} {C : Addr} {as : List Addr} {xs : List Str} {ms : List (Option Nat)} (h : MFs K C as xs ms) : ∀ {m f : Nat}, (ms[m]?).join = some f → ∃ fa, as[f]? = some fa ∧ Meth K C (tabZ xs m) fa := by
  induction h with
  | nil => intro m f e; simp at e
  | no t ih =>
    intro m f e
    cases m with
    | zero => simp at e
    | succ m => simpa [tabZ] using ih (m := m) (by simpa using e)
  | yes h m t ih =>
    intro n f e
    cases n with
    | zero => simp at e; subst e; exact ⟨_, h, m⟩
    | succ n => simpa [tabZ] using ih (m := n) (by simpa using e)
/-- what is known of a class -/
structure CF (K : PySem.W.Frag) (mg : Str → Option Value) (as : List Addr) (ls ms : List Str) (b : Bool) (C : Addr) (x : Str) (k : Klass) : Prop where
  gl : mg x = some (.ref C)
  kc : KCls K C
  na : ∀ z ∈ ls, NoAttr K C z
  mf : ∃ ml : List (Option Nat), (k.mth = fun m => (ml[m]?).join) ∧ MFs K C as ms ml
  ini : b = true → ∃ f fa, k.init = some f ∧ as[f]? = some fa ∧ L2.Mk K C fa
  ty : ∀ t, t < 7 → PySem.W.kitOne K (.ref C) (.type (tyName t)) = some false
inductive CFs (K : PySem.W.Frag) (mg : Str → Option Value) (as : List Addr) (ls ms : List Str) : List Bool → List Addr → List Str → List Klass → Prop where
  | nil : CFs K mg as ls ms [] [] [] []
  | cons {b : Bool} {bs : List Bool} {C : Addr} {Cs : List Addr} {x : Str} {xs : List Str} {k : Klass} {ks : List Klass} (h : CF K mg as ls ms b C x k) (t : CFs K mg as ls ms bs Cs xs ks) : CFs K mg as ls ms (b :: bs) (C :: Cs) (x :: xs) (k :: ks)
theorem CFs.at {K : PySem.W.Frag} {mg : Str → Option Value} {as : List Addr} {ls ms : List Str} {bs : List Bool} {Cs : List Addr} {xs : List Str} {ks : List Klass} (h : CFs K mg as ls ms bs Cs xs ks) : ∀ {c : Nat}, c < Cs.length → ∃ C k, Cs[c]? = some C ∧ ks[c]? = some k ∧ CF K mg as ls ms (bs.getD c false) C (tabZ xs c) k := by
  induction h with
  | nil => intro c hc; simp at hc
  | cons h t ih =>
    intro c hc
    cases c with
    | zero => exact ⟨_, _, rfl, rfl, h⟩
    | succ c =>
      obtain ⟨C, k, e1, e2, q⟩ := ih (c := c) (by simpa using hc)
      exact ⟨C, k, e1, e2, by simpa [tabZ] using q⟩
theorem CFs.len {K : PySem.W.Frag} {mg : Str → Option Value} {as : List Addr} {ls ms : List Str} {bs : List Bool} {Cs : List Addr} {xs : List Str} {ks : List Klass} (h : CFs K mg as ls ms bs Cs xs ks) : bs.length = Cs.length ∧ xs.length = Cs.length ∧ ks.length = Cs.length := by
  induction h with
  | nil => exact ⟨rfl, rfl, rfl⟩
  | cons h t ih => simp [ih]
/-- class against class -/
inductive KRow (K : PySem.W.Frag) (C : Addr) : List Addr → List Bool → Prop where
  | nil : KRow K C [] []
  | cons {D : Addr} {Ds : List Addr} {b : Bool} {bs : List Bool} (h : PySem.W.kitOne K (.ref C) (.ref D) = some b) (t : KRow K C Ds bs) : KRow K C (D :: Ds) (b :: bs)
theorem KRow.at {K : PySem.W.Frag} {C : Addr} {Ds : List Addr} {bs : List Bool} (h : KRow K C Ds bs) : ∀ {d : Nat} {D : Addr}, Ds[d]? = some D → PySem.W.kitOne K (.ref C) (.ref D) = some (bs.getD d false) := by
  induction h with
  | nil => intro d D e; simp at e
  | cons h t ih =>
    intro d D e
    cases d with
    | zero => simp at e; subst e; exact h
    | succ d => simpa using ih (d := d) (by simpa using e)
inductive KRows (K : PySem.W.Frag) (Ds : List Addr) : List Addr → List Klass → Prop where
  | nil : KRows K Ds [] []
  | cons {C : Addr} {Cs : List Addr} {k : Klass} {ks : List Klass} {bs : List Bool} (h : KRow K C Ds bs) (e : bs = (List.range Ds.length).map fun d => k.ups.contains d) (t : KRows K Ds Cs ks) : KRows K Ds (C :: Cs) (k :: ks)
theorem KRows.at {K : PySem.W.Frag} {Ds Cs : List Addr} {ks : List Klass} (h : KRows K Ds Cs ks) : ∀ {c d : Nat} {C D : Addr} {k : Klass}, Cs[c]? = some C → Ds[d]? = some D → ks[c]? = some k → PySem.W.kitOne K (.ref C) (.ref D) = some (k.ups.contains d) := by
  induction h with
  | nil => intro c d C D k e; simp at e
  | cons h e t ih =>
    intro c d C D k e1 e2 e3
    cases c with
    | zero =>
      simp at e1 e3
      subst e1 e3
      have := h.at e2
      rw [e] at this
      have hd : d < _ := (List.getElem?_eq_some_iff.mp e2).1
      rw [this, List.getD_eq_getElem?_getD, List.getElem?_map, List.getElem?_range hd]
      rfl
    | succ c => exact ih (by simpa using e1) e2 (by simpa using e3)
theorem ty7 {K : PySem.W.Frag} {C : Addr} (h0 : PySem.W.kitOne K (.ref C) (.type "NoneType") = some false) (h1 : PySem.W.kitOne K (.ref C) (.type "bool") = some false) (h2 : PySem.W.kitOne K (.ref C) (.type "int") = some false) (h3 : PySem.W.kitOne K (.ref C) (.type "str") = some false) (h4 : PySem.W.kitOne K (.ref C) (.type "tuple") = some false) (h5 : PySem.W.kitOne K (.ref C) (.type "list") = some false) (h6 : PySem.W.kitOne K (.ref C) (.type "dict") = some false) : ∀ t, t < 7 → PySem.W.kitOne K (.ref C) (.type (tyName t)) = some false
  | 0, _ => h0
  | 1, _ => h1
  | 2, _ => h2
  | 3, _ => h3
  | 4, _ => h4
  | 5, _ => h5
  | 6, _ => h6
  | n + 7, h => absurd h (by omega)
inductive NAs (K : PySem.W.Frag) (C : Addr) : List Str → Prop where
  | nil : NAs K C []
  | cons {z : Str} {zs : List Str} (h : NoAttr K C z) (t : NAs K C zs) : NAs K C (z :: zs)
theorem NAs.all {K : PySem.W.Frag} {C : Addr} {zs : List Str} (h : NAs K C zs) : ∀ z ∈ zs, NoAttr K C z := by
  induction h with
  | nil => intro z hz; simp at hz
  | cons h t ih =>
    intro z hz
    rcases List.mem_cons.mp hz with e | e
    · subst e; exact h
    · exact ih z e
/-- exceptions' classes -/
inductive XFs (K : PySem.W.Frag) (mg : Str → Option Value) : List Addr → List Str → Prop where
  | nil : XFs K mg [] []
  | cons {C : Addr} {Cs : List Addr} {x : Str} {xs : List Str} (h : mg x = some (.ref C)) (f : ExF K C) (t : XFs K mg Cs xs) : XFs K mg (C :: Cs) (x :: xs)
theorem XFs.at {K : PySem.W.Frag} {mg : Str → Option Value} {Cs : List Addr} {xs : List Str} (h : XFs K mg Cs xs) : ∀ {c : Nat}, c < Cs.length → ∃ C, Cs[c]? = some C ∧ mg (tabZ xs c) = some (.ref C) ∧ ExF K C := by
  induction h with
  | nil => intro c hc; simp at hc
  | cons h f t ih =>
    intro c hc
    cases c with
    | zero => exact ⟨_, rfl, h, f⟩
    | succ c =>
      obtain ⟨C, e1, e2⟩ := ih (c := c) (by simpa using hc)
      exact ⟨C, e1, by simpa [tabZ] using e2⟩
theorem XFs.len {K : PySem.W.Frag} {mg : Str → Option Value} {Cs : List Addr} {xs : List Str} (h : XFs K mg Cs xs) : xs.length = Cs.length := by
  induction h with
  | nil => rfl
  | cons _ _ _ ih => simp [ih]
/-- exception against exception -/
inductive XRow (K : PySem.W.Frag) (C : Addr) : List Addr → List Bool → Prop where
  | nil : XRow K C [] []
  | cons {D : Addr} {Ds : List Addr} {b : Bool} {bs : List Bool} (h : PySem.W.subIn K (.ref C) (.ref D) = some b) (h2 : PySem.W.kitOne K (.ref C) (.ref D) = some b) (t : XRow K C Ds bs) : XRow K C (D :: Ds) (b :: bs)
theorem XRow.at {K : PySem.W.Frag} {C : Addr} {Ds : List Addr} {bs : List Bool} (h : XRow K C Ds bs) : ∀ {d : Nat} {D : Addr}, Ds[d]? = some D → PySem.W.subIn K (.ref C) (.ref D) = some (bs.getD d false) ∧ PySem.W.kitOne K (.ref C) (.ref D) = some (bs.getD d false) := by
  induction h with
  | nil => intro d D e; simp at e
  | cons h h2 t ih =>
    intro d D e
    cases d with
    | zero => simp at e; subst e; exact ⟨h, h2⟩
    | succ d => simpa using ih (d := d) (by simpa using e)
inductive XRows (K : PySem.W.Frag) (Ds : List Addr) : List Addr → List (List Bool) → Prop where
  | nil : XRows K Ds [] []
  | cons {C : Addr} {Cs : List Addr} {bs : List Bool} {bb : List (List Bool)} (h : XRow K C Ds bs) (t : XRows K Ds Cs bb) : XRows K Ds (C :: Cs) (bs :: bb)
theorem XRows.at {K : PySem.W.Frag} {Ds Cs : List Addr} {bb : List (List Bool)} (h : XRows K Ds Cs bb) : ∀ {c d : Nat} {C D : Addr}, Cs[c]? = some C → Ds[d]? = some D → PySem.W.subIn K (.ref C) (.ref D) = some ((bb.getD c []).getD d false) ∧ PySem.W.kitOne K (.ref C) (.ref D) = some ((bb.getD c []).getD d false) := by
  induction h with
  | nil => intro c d C D e; simp at e
  | cons h t ih =>
    intro c d C D e1 e2
    cases c with
    | zero => simp at e1; subst e1; exact h.at e2
    | succ c => simpa using ih (c := c) (by simpa using e1) e2
/-- a program with classes -/
theorem tx_cls {T : Tb} {P : Prog} {K : PySem.W.Frag} {mg : Str → Option Value} {fns : List Fn} {as bs Cs : List Addr} {xs ls ms cs : List Str} {ks : List Klass} {mb : List Bool} (D : DFs T K as fns) (M : MGs mg xs bs) (B : ∀ x ∈ bltNames, mg x = none) (hP : P.fn = fun f => fns[f]?) (hT : T.fn = tabZ xs) (hI : T.isf = fun f => decide (f < xs.length)) (hxl : xs.length ≤ fns.length) (hb : as.take xs.length = bs) (hg : ∀ g w, P.glb g = some w → ∃ u v, mg (T.gl g) = some u ∧ RelV v u ∧ ∀ ι H, RV K ι H w v)
    (F : CFs K mg as ls ms mb Cs cs ks) (R : KRows K Cs Cs ks) (hk : P.cls = fun c => ks[c]?) (hc : T.nc = cs.length) (hcl : T.cl = tabZ cs) (him : T.ism = fun c => mb.getD c false) (hnf : T.nf = ls.length)
    (inj : ∀ f g, tabS ls f = tabS ls g → f = g) (no : ∀ f g, tabS ls f ≠ tabZ ms g) (hfm : T.fl = tabS ls ∧ T.me = tabZ ms) {Xs : List Addr} {xn : List Str} {bb : List (List Bool)} (XF : XFs K mg Xs xn) (XR : XRows K Xs Xs bb) (hxl2 : T.xl = tabZ xn) (hxn : T.nx = xn.length) (hsub : P.sub = fun c d => (bb.getD c []).getD d false) : Tx T P (fun c => Cs[c]?) (fun f => as[f]?) (fun c => Xs[c]?) K mg := by
  have hl := F.len
  have lt_of : ∀ {c : Nat} {C : Addr}, Cs[c]? = some C → c < Cs.length := fun h => (List.getElem?_eq_some_iff.mp h).1
  have ltk : ∀ {c : Nat} {k : Klass}, P.cls c = some k → c < Cs.length ∧ ks[c]? = some k := fun {c k} h => by
    rw [hk] at h
    have := (List.getElem?_eq_some_iff.mp h).1
    exact ⟨by omega, h⟩
  have isfn : ∀ {f : Nat} {fa : Addr}, as[f]? = some fa → (P.fn f).isSome = true := fun {f fa} h => by
    have := (List.getElem?_eq_some_iff.mp h).1
    rw [D.len] at this
    rw [hP]
    show (fns[f]?).isSome = true
    rw [List.getElem?_eq_getElem this]
    rfl
  exact {
  blt := B
  fn := fun f d h => by
    rw [hP] at h
    obtain ⟨fa, h1, fd, st, x, qual, ns, ps, h2⟩ := D.at h
    exact ⟨fa, fd, st, x, qual, ns, ps, h1, h2⟩
  isf := fun f h => by
    rw [hI] at h
    have hf : f < xs.length := of_decide_eq_true h
    obtain ⟨a, h1, h2⟩ := M.at hf
    rw [← hb, List.getElem?_take_of_lt hf] at h1
    exact ⟨a, h1, by rw [hT]; exact h2, isfn h1⟩
  glb := hg
  cls := fun c h => by
    rw [hc, hl.2.1] at h
    obtain ⟨C, k, e1, e2, q⟩ := F.at h
    exact ⟨C, e1, by rw [hcl]; exact q.gl⟩
  isi := isi_of (fun c C h => by obtain ⟨C', k, e1, e2, q⟩ := F.at (lt_of h); rw [h] at e1; cases e1; exact q.kc) (fun c k h => by obtain ⟨C', k', e1, e2, q⟩ := F.at (ltk h).1; exact ⟨C', e1⟩) (fun c d k k' C D hk1 hk2 hC hD => R.at hC hD (ltk hk1).2) (fun c C t h ht => by obtain ⟨C', k, e1, e2, q⟩ := F.at (lt_of h); rw [h] at e1; cases e1; exact q.ty t ht)
  mak := fun c h => by
    rw [him] at h
    have hlt : c < Cs.length := by
      rw [← hl.1]
      apply Classical.byContradiction
      intro hn
      have h : mb.getD c false = true := h
      rw [List.getD_eq_getElem?_getD, List.getElem?_eq_none (by omega)] at h
      cases h
    obtain ⟨C, k, e1, e2, q⟩ := F.at hlt
    obtain ⟨f, fa, h1, h2, h3⟩ := q.ini h
    exact ⟨C, k, f, fa, e1, by rw [hcl]; exact q.gl, by rw [hk]; exact e2, h1, h2, isfn h2, h3⟩
  mth := fun c m f h => by
    cases e : P.cls c with
    | none => rw [e] at h; cases h
    | some k =>
      rw [e] at h
      have h : k.mth m = some f := h
      obtain ⟨hlt, e2⟩ := ltk e
      obtain ⟨C, k', e1, e3, q⟩ := F.at hlt
      rw [e2] at e3
      cases e3
      obtain ⟨ml, h1, h2⟩ := q.mf
      rw [h1] at h
      obtain ⟨fa, h3, h4⟩ := h2.at h
      exact ⟨C, fa, e1, h3, isfn h3, by rw [hfm.2]; exact h4⟩
  nofm := fun f m => by rw [hfm.1, hfm.2]; exact no f m
  inj := fun f g h => inj f g (by rw [hfm.1] at h; exact h)
  noat := fun c C h => by
    obtain ⟨C', k, e1, e2, q⟩ := F.at (lt_of h)
    rw [h] at e1
    cases e1
    refine ⟨q.kc.cl, fun f hf => ?_⟩
    rw [hnf] at hf
    rw [hfm.1]
    unfold tabS
    rw [List.getElem?_eq_getElem hf]
    exact q.na _ (List.getElem_mem hf)
  exc := fun c h => by
    rw [hxn, XF.len] at h
    obtain ⟨C, e1, e2, e3⟩ := XF.at h
    exact ⟨C, e1, by rw [hxl2]; exact e2, e3⟩
  exf := fun c C h => by
    obtain ⟨C', e1, e2, e3⟩ := XF.at (List.getElem?_eq_some_iff.mp h).1
    rw [h] at e1
    cases e1
    exact e3
  exm := fun c d C D hC hD => by
    obtain ⟨h1, h2⟩ := XR.at hC hD
    obtain ⟨D', e1, _, e3⟩ := XF.at (List.getElem?_eq_some_iff.mp hD).1
    rw [hD] at e1
    cases e1
    rw [hsub]
    exact ⟨PySem.W.exm_ref e3.cc.hs e3.cc.hd e3.ty h1, h2⟩ }
end Mx

/-! Evaluating code: equations for the simplifier. -/
namespace Mx
open PySem L2

section
variable {α β : Type} {o : Orc} {ρ : Loc} {st st' : Store} {a : α}
@[simp] theorem bind_ok' (f : α → Store → R β) : (R.ok a st).bind f = f a st := id rfl
@[simp] theorem bind_bad' (f : α → Store → R β) : (R.bad : R α).bind f = .bad := id rfl
@[simp] theorem bind_exc' (f : α → Store → R β) (c fs) : (R.exc c fs st : R α).bind f = .exc c fs st := id rfl
@[simp] theorem out_ok' (f : α → Store → Out) : (R.ok a st).out ρ f = f a st := id rfl
@[simp] theorem calm_ok' : (R.ok a st).calm = .ok a st := id rfl
@[simp] theorem ofOpt_some (x : α) : ofOpt (some x) st = .ok x st := id rfl
@[simp] theorem val_rt (w : W) : (Out.rt w st).val = .ok w st := id rfl
@[simp] theorem val_nx : (Out.nx ρ st).val = .ok .non st := id rfl
@[simp] theorem seqO_nx (F : Loc → Store → Out) : seqO F (.nx ρ st) = F ρ st := id rfl
@[simp] theorem seqO_rt (F : Loc → Store → Out) (w : W) : seqO F (.rt w st) = .rt w st := id rfl
@[simp] theorem seqO_bk (F : Loc → Store → Out) : seqO F (.bk ρ st) = .bk ρ st := id rfl
@[simp] theorem seqO_ct (F : Loc → Store → Out) : seqO F (.ct ρ st) = .ct ρ st := id rfl
@[simp] theorem goOn_nx (F : Loc → Store → Out) : goOn F (.nx ρ st) = F ρ st := id rfl
@[simp] theorem goOn_ct (F : Loc → Store → Out) : goOn F (.ct ρ st) = F ρ st := id rfl
@[simp] theorem goOn_bk (F : Loc → Store → Out) : goOn F (.bk ρ st) = .nx ρ st := id rfl
@[simp] theorem goOn_rt (F : Loc → Store → Out) (w : W) : goOn F (.rt w st) = .rt w st := id rfl
@[simp] theorem out_exc' (f : α → Store → Out) (c fs) : (R.exc c fs st : R α).out ρ f = .exc c fs ρ st := id rfl
@[simp] theorem val_exc (c fs) : (Out.exc c fs ρ st).val = .exc c fs st := id rfl
@[simp] theorem seqO_exc (F : Loc → Store → Out) (c fs) : seqO F (.exc c fs ρ st) = .exc c fs ρ st := id rfl
@[simp] theorem goOn_exc (F : Loc → Store → Out) (c fs) : goOn F (.exc c fs ρ st) = .exc c fs ρ st := id rfl
/-! expressions -/
@[simp] theorem e_glb' (g : Nat) : evE o (.glb g) ρ st = ofOpt (o.glb g) st := by rw [evE]
@[simp] theorem e_int' (i : Int) : evE o (.int i) ρ st = .ok (.int i) st := by rw [evE]
@[simp] theorem e_bl' (b : Bool) : evE o (.bl b) ρ st = .ok (.bl b) st := by rw [evE]
@[simp] theorem e_non' : evE o .non ρ st = .ok .non st := by rw [evE]
@[simp] theorem e_str' (z : Str) : evE o (.str z) ρ st = .ok (.str z) st := by rw [evE]
/-- a name's value -/
def getL (ρ : Loc) (i : Nat) (st : Store) : R W := match ρ[i]? with
  | some (some w) => .ok w st
  | _ => .bad
@[simp] theorem getL_0 (w : W) (l : Loc) : getL (some w :: l) 0 st = .ok w st := id rfl
@[simp] theorem getL_s (x : Option W) (l : Loc) (n : Nat) : getL (x :: l) (n + 1) st = getL l n st := id rfl
@[simp] theorem getL_1 (x : Option W) (l : Loc) : getL (x :: l) 1 st = getL l 0 st := id rfl
@[simp] theorem getL_2 (x : Option W) (l : Loc) : getL (x :: l) 2 st = getL l 1 st := id rfl
@[simp] theorem getL_3 (x : Option W) (l : Loc) : getL (x :: l) 3 st = getL l 2 st := id rfl
@[simp] theorem getL_4 (x : Option W) (l : Loc) : getL (x :: l) 4 st = getL l 3 st := id rfl
@[simp] theorem getL_5 (x : Option W) (l : Loc) : getL (x :: l) 5 st = getL l 4 st := id rfl
@[simp] theorem getL_6 (x : Option W) (l : Loc) : getL (x :: l) 6 st = getL l 5 st := id rfl
@[simp] theorem getL_7 (x : Option W) (l : Loc) : getL (x :: l) 7 st = getL l 6 st := id rfl
@[simp] theorem getL_8 (x : Option W) (l : Loc) : getL (x :: l) 8 st = getL l 7 st := id rfl
@[simp] theorem getL_9 (x : Option W) (l : Loc) : getL (x :: l) 9 st = getL l 8 st := id rfl
@[simp] theorem getL_10 (x : Option W) (l : Loc) : getL (x :: l) 10 st = getL l 9 st := id rfl
@[simp] theorem getL_11 (x : Option W) (l : Loc) : getL (x :: l) 11 st = getL l 10 st := id rfl
@[simp] theorem getL_12 (x : Option W) (l : Loc) : getL (x :: l) 12 st = getL l 11 st := id rfl
@[simp] theorem getL_13 (x : Option W) (l : Loc) : getL (x :: l) 13 st = getL l 12 st := id rfl
@[simp] theorem getL_14 (x : Option W) (l : Loc) : getL (x :: l) 14 st = getL l 13 st := id rfl
@[simp] theorem e_var' (i : Nat) : evE o (.var i) ρ st = getL ρ i st := by rw [evE]; rfl
@[simp] theorem e_bop' (op : Operator) (a b : CE) : evE o (.bop op a b) ρ st = (evE o a ρ st).bind fun x st => (evE o b ρ st).bind fun y st => opBin op x y st := by rw [evE]
def negW (st : Store) : W → R W
  | .int i => .ok (.int (-i)) st
  | _ => .bad
@[simp] theorem negW_int (i : Int) : negW st (.int i) = .ok (.int (-i)) st := id rfl
@[simp] theorem e_neg' (a : CE) : evE o (.neg a) ρ st = (evE o a ρ st).bind fun x st => negW st x := by
  rw [evE]; rfl
/-- a comparison as a run -/
def cmpR (op : CmpOp) (x y : W) (st : Store) : R Bool := ofOpt (opCmp op x y st) st
@[simp] theorem e_cmp' (op : CmpOp) (a b : CE) : evE o (.cmp op a b) ρ st = (evE o a ρ st).bind fun x st => (evE o b ρ st).bind fun y st => (cmpR op x y st).bind fun c st => .ok (.bl c) st := by rw [evE]; rfl
@[simp] theorem e_and1' (a : CE) : evE o (.and1 a) ρ st = evE o a ρ st := by rw [evE]
@[simp] theorem e_or1' (a : CE) : evE o (.or1 a) ρ st = evE o a ρ st := by rw [evE]
def andW (F : Store → R W) (st : Store) : W → R W
  | .bl true => F st
  | .bl false => .ok (.bl false) st
  | _ => .bad
def orW (F : Store → R W) (st : Store) : W → R W
  | .bl true => .ok (.bl true) st
  | .bl false => F st
  | _ => .bad
@[simp] theorem andW_t (F : Store → R W) : andW F st (.bl true) = F st := id rfl
@[simp] theorem andW_f (F : Store → R W) : andW F st (.bl false) = .ok (.bl false) st := id rfl
@[simp] theorem orW_t (F : Store → R W) : orW F st (.bl true) = .ok (.bl true) st := id rfl
@[simp] theorem orW_f (F : Store → R W) : orW F st (.bl false) = F st := id rfl
@[simp] theorem e_and' (a b : CE) : evE o (.and a b) ρ st = (evE o a ρ st).bind fun x st => andW (evE o b ρ) st x := by
  rw [evE]; rfl
@[simp] theorem e_or' (a b : CE) : evE o (.or a b) ρ st = (evE o a ρ st).bind fun x st => orW (evE o b ρ) st x := by
  rw [evE]; rfl
def notW (st : Store) : W → R W
  | .bl c => .ok (.bl (!c)) st
  | _ => .bad
@[simp] theorem notW_bl (c : Bool) : notW st (.bl c) = .ok (.bl (!c)) st := id rfl
@[simp] theorem e_not' (a : CE) : evE o (.not a) ρ st = (evE o a ρ st).bind fun x st => notW st x := by
  rw [evE]; rfl
/-- a choice -/
def iteR (c : Bool) (a b : R β) : R β := match c with
  | true => a
  | false => b
@[simp] theorem iteR_t (a b : R β) : iteR true a b = a := id rfl
@[simp] theorem iteR_f (a b : R β) : iteR false a b = b := id rfl
@[simp] theorem e_chn' (op op' : CmpOp) (a b c : CE) : evE o (.chn op op' a b c) ρ st = (evE o a ρ st).bind fun x st => (evE o b ρ st).bind fun y st => (cmpR op x y st).bind fun k st =>
    iteR k ((evE o c ρ st).bind fun z st => (cmpR op' y z st).bind fun k st => .ok (.bl k) st) (.ok (.bl false) st) := by rw [evE]; rfl
@[simp] theorem e_ife' (c a b : CE) : evE o (.ife c a b) ρ st = (evT o c ρ st).bind fun k st => iteR k (evE o a ρ st) (evE o b ρ st) := by rw [evE]; rfl
def tupR (ws : List W) (st : Store) : R W := if ws.length ≤ sizeLine then .ok (.tup ws) st else .bad
@[simp] theorem e_tup' (es : CA) : evE o (.tup es) ρ st = (evA o es ρ st).bind fun ws st => tupR ws st := by rw [evE]; rfl
@[simp] theorem e_lst' (es : CA) : evE o (.lst es) ρ st = (evA o es ρ st).bind fun ws st => newLst ws st := by rw [evE]
@[simp] theorem e_dct' : evE o .dct ρ st = .ok (.ref st.length) (st ++ [.dic []]) := by rw [evE]
@[simp] theorem e_call' (f : Nat) (es : CA) : evE o (.call f es) ρ st = (evA o es ρ st).bind fun ws st => o.call f ws st := by rw [evE]
@[simp] theorem e_bi' (f : Bi) (es : CA) : evE o (.bi f es) ρ st = (evA o es ρ st).bind fun ws st => biW f ws st := by rw [evE]
@[simp] theorem e_mk' (f : Nat) (es : CA) : evE o (.mk f es) ρ st = (evA o es ρ st).bind fun ws st => o.make f ws st := by rw [evE]
def mthR (o : Orc) (m : Nat) (F : Store → R (List W)) (st : Store) (w : W) : R W := match getm o st w m with
  | some f => (F st).bind fun ws st => o.call f (w :: ws) st
  | none => .bad
@[simp] theorem e_mth' (x : CE) (m : Nat) (es : CA) : evE o (.mth x m es) ρ st = (evE o x ρ st).bind fun w st => mthR o m (evA o es ρ) st w := by rw [evE]; rfl
def bmR (m : Bm) (F : Store → R (List W)) (st : Store) (w : W) : R W := match isLst st w with
  | true => (F st).bind fun ws st => bmW m w ws st
  | false => .bad
@[simp] theorem e_bm' (x : CE) (m : Bm) (es : CA) : evE o (.bm m x es) ρ st = (evE o x ρ st).bind fun w st => bmR m (evA o es ρ) st w := by rw [evE]; rfl
@[simp] theorem e_idx' (a i : CE) : evE o (.idx a i) ρ st = (evE o a ρ st).bind fun x st => (evE o i ρ st).bind fun y st => ofOpt (ixW st x y) st := by rw [evE]
@[simp] theorem e_slc' (a : CE) (lo hi : CO) : evE o (.slc a lo hi) ρ st = (evE o a ρ st).bind fun x st => (evO o lo ρ st).bind fun l st => (evO o hi ρ st).bind fun h st => slW st x l h := by rw [evE]
@[simp] theorem e_fld' (x : CE) (f : Nat) : evE o (.fld x f) ρ st = (evE o x ρ st).bind fun w st => ofOpt (getFldW w f st) st := by rw [evE]
@[simp] theorem e_isi' (x : CE) (cs : List Nat) : evE o (.isi x cs) ρ st = (evE o x ρ st).bind fun w st => (ofOpt (o.isi st w cs) st).bind fun b st => .ok (.bl b) st := by rw [evE]
@[simp] theorem e_lc' (own : List Nat) (t : CT) (it : CI) (ifs : CA) (e : CE) : evE o (.lc own t it ifs e) ρ st = (evI o it ρ st).bind fun J st =>
    (lcLoop (lcBody o t ifs e) J (own.foldr (fun i ρ => ρ.set i none) ρ) J.most 0 [] st).bind fun ws st => newLst ws st := by rw [evE]; rfl
/-! tests -/
@[simp] theorem t_and1' (a : CE) : evT o (.and1 a) ρ st = evT o a ρ st := by rw [evT]
@[simp] theorem t_or1' (a : CE) : evT o (.or1 a) ρ st = evT o a ρ st := by rw [evT]
@[simp] theorem t_and' (a b : CE) : evT o (.and a b) ρ st = (evT o a ρ st).bind fun k st => iteR k (evT o b ρ st) (.ok false st) := by rw [evT]; rfl
@[simp] theorem t_or' (a b : CE) : evT o (.or a b) ρ st = (evT o a ρ st).bind fun k st => iteR k (.ok true st) (evT o b ρ st) := by rw [evT]; rfl
@[simp] theorem t_not' (a : CE) : evT o (.not a) ρ st = (evT o a ρ st).bind fun k st => .ok (!k) st := by rw [evT]
@[simp] theorem t_cmp' (op : CmpOp) (a b : CE) : evT o (.cmp op a b) ρ st = (evE o a ρ st).bind fun x st => (evE o b ρ st).bind fun y st => cmpR op x y st := by rw [evT]; rfl
@[simp] theorem t_chn' (op op' : CmpOp) (a b c : CE) : evT o (.chn op op' a b c) ρ st = (evE o a ρ st).bind fun x st => (evE o b ρ st).bind fun y st => (cmpR op x y st).bind fun k st =>
    iteR k ((evE o c ρ st).bind fun z st => cmpR op' y z st) (.ok false st) := by rw [evT]; rfl
def truR (st : Store) (w : W) : R Bool := ofOpt (truW st w) st
@[simp] theorem truR_bl (b : Bool) : truR st (.bl b) = .ok b st := id rfl
@[simp] theorem truR_non : truR st .non = .ok false st := id rfl
@[simp] theorem truR_int (i : Int) : truR st (.int i) = .ok (i != 0) st := id rfl
@[simp] theorem t_var' (i : Nat) : evT o (.var i) ρ st = (getL ρ i st).bind fun w st => truR st w := by
  rw [evT]; unfold getL; generalize ρ[i]? = x; cases x with
  | none => rfl
  | some y => cases y <;> rfl
@[simp] theorem t_call' (f : Nat) (es : CA) : evT o (.call f es) ρ st = (evE o (.call f es) ρ st).bind fun w st => truR st w := by rw [evT, evE]; rfl
@[simp] theorem t_bi' (f : Bi) (es : CA) : evT o (.bi f es) ρ st = (evE o (.bi f es) ρ st).bind fun w st => truR st w := by rw [evT, evE]; rfl
@[simp] theorem t_mth' (x : CE) (m : Nat) (es : CA) : evT o (.mth x m es) ρ st = (evE o (.mth x m es) ρ st).bind fun w st => truR st w := by rw [evT, evE]; rfl
@[simp] theorem t_idx' (a i : CE) : evT o (.idx a i) ρ st = (evE o (.idx a i) ρ st).bind fun w st => truR st w := by rw [evT, evE]; rfl
@[simp] theorem t_fld' (a : CE) (f : Nat) : evT o (.fld a f) ρ st = (evE o (.fld a f) ρ st).bind fun w st => truR st w := by rw [evT, evE]; rfl
@[simp] theorem t_isi' (x : CE) (cs : List Nat) : evT o (.isi x cs) ρ st = (evE o x ρ st).bind fun w st => ofOpt (o.isi st w cs) st := by rw [evT]
@[simp] theorem t_bl' (b : Bool) : evT o (.bl b) ρ st = .ok b st := by rw [evT]
@[simp] theorem ts_nil' : evTs o .nil ρ st = .ok true st := by rw [evTs]
@[simp] theorem ts_cons' (c : CE) (r : CA) : evTs o (.cons c r) ρ st = evT o c ρ st := by rw [evTs]
@[simp] theorem a_nil' : evA o .nil ρ st = .ok [] st := by rw [evA]
@[simp] theorem a_cons' (e : CE) (es : CA) : evA o (.cons e es) ρ st = (evE o e ρ st).bind fun w st => (evA o es ρ st).bind fun ws st => .ok (w :: ws) st := by rw [evA]
@[simp] theorem o_no' : evO o .no ρ st = .ok none st := by rw [evO]
def intR (st : Store) : W → R (Option Int)
  | .int i => .ok (some i) st
  | _ => .bad
@[simp] theorem intR_int (i : Int) : intR st (.int i) = .ok (some i) st := id rfl
@[simp] theorem o_yes' (e : CE) : evO o (.yes e) ρ st = (evE o e ρ st).bind fun w st => intR st w := by
  rw [evO]; rfl
/-! walks -/
@[simp] theorem i_val' (e : CE) : evI o (.val e) ρ st = (evE o e ρ st).bind fun w st => ofOpt (iterOf st w) st := by rw [evI]
def rng1R (st : Store) : W → R Iter
  | .int j => ofOpt (rngI 0 j) st
  | _ => .bad
def rng2R (st : Store) : W → W → R Iter
  | .int i, .int j => ofOpt (rngI i j) st
  | _, _ => .bad
def rng3R (st : Store) : W → W → W → R Iter
  | .int i, .int j, .int k => ofOpt (rngCI i j k) st
  | _, _, _ => .bad
@[simp] theorem rng1R_int (j : Int) : rng1R st (.int j) = ofOpt (rngI 0 j) st := id rfl
@[simp] theorem rng2R_int (i j : Int) : rng2R st (.int i) (.int j) = ofOpt (rngI i j) st := id rfl
@[simp] theorem rng3R_int (i j k : Int) : rng3R st (.int i) (.int j) (.int k) = ofOpt (rngCI i j k) st := id rfl
@[simp] theorem i_rng1' (a : CE) : evI o (.rng1 a) ρ st = (evE o a ρ st).bind fun w st => rng1R st w := by
  rw [evI]; rfl
@[simp] theorem i_rng2' (a b : CE) : evI o (.rng2 a b) ρ st = (evE o a ρ st).bind fun w st => (evE o b ρ st).bind fun u st => rng2R st w u := by
  rw [evI]; rfl
@[simp] theorem i_rng3' (a b c : CE) : evI o (.rng3 a b c) ρ st = (evE o a ρ st).bind fun w st => (evE o b ρ st).bind fun u st => (evE o c ρ st).bind fun v st => rng3R st w u v := by
  rw [evI]; rfl
@[simp] theorem i_enum' (a : CE) : evI o (.enum a) ρ st = (evE o a ρ st).bind fun w st => ofOpt (enumI st w) st := by rw [evI]
@[simp] theorem i_zip' (a b : CE) : evI o (.zip a b) ρ st = (evE o a ρ st).bind fun w st => (evE o b ρ st).bind fun u st => ofOpt (zipI st w u) st := by rw [evI]
@[simp] theorem i_rev' (a : CE) : evI o (.rev a) ρ st = (evE o a ρ st).bind fun w st => ofOpt (revI st w) st := by rw [evI]
/-! targets -/
@[simp] theorem g_name' (i : Nat) (w : W) : evG o (.name i) w ρ st = .ok (ρ.set i (some w)) st := by rw [evG]
@[simp] theorem g_tup' (ts : CTs) (ws : List W) : evG o (.tup ts) (.tup ws) ρ st = if ws.length = ts.len then evGs o ts ws ρ st else .bad := by rw [evG]
def gTupC (o : Orc) (ts : CTs) (n : Nat) (ρ : Loc) (st : Store) : R Loc := match lstAt st n with
  | some ws => if ws.length = ts.len then evGs o ts ws ρ st else .bad
  | none => .bad
@[simp] theorem g_tupr' (ts : CTs) (n : Nat) : evG o (.tup ts) (.ref n) ρ st = gTupC o ts n ρ st := by rw [evG]; rfl
theorem gTupC_lst {ts : CTs} {n : Nat} {ws : List W} (h : lstAt st n = some ws) (hl : ws.length = ts.len) : gTupC o ts n ρ st = evGs o ts ws ρ st := by
  unfold gTupC
  rw [h]
  exact if_pos hl
def setR (a b w : W) (ρ : Loc) (st : Store) : R Loc := match setW a b w st with
  | some st' => .ok ρ st'
  | none => .bad
@[simp] theorem g_idx' (x i : CE) (w : W) : evG o (.idx x i) w ρ st = (evE o x ρ st).bind fun a st => (evE o i ρ st).bind fun b st => setR a b w ρ st := by rw [evG]; rfl
def setFR (a : W) (f : Nat) (w : W) (ρ : Loc) (st : Store) : R Loc := match setFldW a f w st with
  | some st' => .ok ρ st'
  | none => .bad
@[simp] theorem g_fld' (x : CE) (f : Nat) (w : W) : evG o (.fld x f) w ρ st = (evE o x ρ st).bind fun a st => setFR a f w ρ st := by rw [evG]; rfl
@[simp] theorem gs_nil' : evGs o .nil [] ρ st = .ok ρ st := by rw [evGs]
@[simp] theorem gs_cons' (t : CT) (ts : CTs) (w : W) (ws : List W) : evGs o (.cons t ts) (w :: ws) ρ st = (evG o t w ρ st).bind fun ρ st => (evGs o ts ws ρ st).calm := by rw [evGs]
@[simp] theorem len_nil' : CTs.len .nil = 0 := id rfl
@[simp] theorem len_cons' (t : CT) (ts : CTs) : CTs.len (.cons t ts) = ts.len + 1 := id rfl
/-! statements -/
@[simp] theorem s_skip' : evS o .skip ρ st = .nx ρ st := by rw [evS]
@[simp] theorem s_rse' (c : Nat) : evS o (.rse c) ρ st = .exc c [] ρ st := by rw [evS]
@[simp] theorem s_trx' (b : CB) (i : Option Nat) (h : Nat) (s : XS) : evS o (.trx b i h s) ρ st = tryO o.sub h (runX o.sub i s) (evB o b ρ st) := by rw [evS]
@[simp] theorem s_set' (t : CT) (e : CE) : evS o (.set t e) ρ st = (evE o e ρ st).out ρ fun w st => (evG o t w ρ st).out ρ fun ρ st => .nx ρ st := by rw [evS]
@[simp] theorem s_par' (i j : Nat) (a b : CE) : evS o (.par i j a b) ρ st = (evE o a ρ st).out ρ fun x st => (evE o b ρ st).out ρ fun y st => .nx ((ρ.set i (some x)).set j (some y)) st := by rw [evS]
@[simp] theorem s_expr' (e : CE) : evS o (.expr e) ρ st = (evE o e ρ st).out ρ fun _ st => .nx ρ st := by rw [evS]
@[simp] theorem s_ret' (e : CE) : evS o (.ret e) ρ st = (evE o e ρ st).out ρ fun w st => .rt w st := by rw [evS]
@[simp] theorem s_retN' : evS o .retN ρ st = .rt .non st := by rw [evS]
@[simp] theorem s_brk' : evS o .brk ρ st = .bk ρ st := by rw [evS]
@[simp] theorem s_cnt' : evS o .cnt ρ st = .ct ρ st := by rw [evS]
def iteO (c : Bool) (a b : Out) : Out := match c with
  | true => a
  | false => b
@[simp] theorem iteO_t (a b : Out) : iteO true a b = a := id rfl
@[simp] theorem iteO_f (a b : Out) : iteO false a b = b := id rfl
@[simp] theorem s_ife' (c : CE) (a b : CB) : evS o (.ife c a b) ρ st = (evT o c ρ st).out ρ fun k st => iteO k (evB o a ρ st) (evB o b ρ st) := by rw [evS]; rfl
@[simp] theorem b_nil' : evB o .nil ρ st = .nx ρ st := by rw [evB]
@[simp] theorem b_cons' (s : CS) (b : CB) : evB o (.cons s b) ρ st = seqO (evB o b) (evS o s ρ st) := evB_cons
theorem s_whl' (c : CE) (b : CB) : evS o (.whl c b) ρ st = whlLoop (evT o c) (evB o b) mostTurns ρ st := by rw [evS]
@[simp] theorem s_for' (t : CT) (it : CI) (b : CB) : evS o (.for t it b) ρ st = (evI o it ρ st).out ρ fun J st => forLoop (fun w ρ st => (evG o t w ρ st).out ρ fun ρ st => evB o b ρ st) J J.most 0 ρ st := by rw [evS]
/-! operations -/
@[simp] theorem op_add' (i j : Int) : opBin .Add (.int i) (.int j) st = .ok (.int (i + j)) st := id rfl
@[simp] theorem op_sub' (i j : Int) : opBin .Sub (.int i) (.int j) st = .ok (.int (i - j)) st := id rfl
theorem op_mul' {i j : Int} (h : i.natAbs.log2 + j.natAbs.log2 < 1000000) : opBin .Mult (.int i) (.int j) st = .ok (.int (i * j)) st := if_pos h
theorem op_fdiv' {i j : Int} (h : j ≠ 0) (h2 : j.natAbs.log2 < 9000) : opBin .FloorDiv (.int i) (.int j) st = .ok (.int (i.fdiv j)) st := if_pos ⟨h, h2⟩
theorem op_mod' {i j : Int} (h : j ≠ 0) : opBin .Mod (.int i) (.int j) st = .ok (.int (i.fmod j)) st := if_pos h
theorem op_pow' {i j : Int} (h : 0 ≤ j) (h2 : j ≤ 1000000) (h3 : i.natAbs < 2 ^ 64) : opBin .Pow (.int i) (.int j) st = .ok (.int (i ^ j.toNat)) st := if_pos ⟨h, h2, h3⟩
@[simp] theorem c_lt' (i j : Int) : cmpR .Lt (.int i) (.int j) st = .ok (decide (i < j)) st := id rfl
@[simp] theorem c_le' (i j : Int) : cmpR .LtE (.int i) (.int j) st = .ok (decide (i ≤ j)) st := id rfl
@[simp] theorem c_gt' (i j : Int) : cmpR .Gt (.int i) (.int j) st = .ok (decide (j < i)) st := id rfl
@[simp] theorem c_ge' (i j : Int) : cmpR .GtE (.int i) (.int j) st = .ok (decide (j ≤ i)) st := id rfl
theorem eqI (i j : Int) : PyData.eqv (.int i) (.int j) = decide (i = j) := by
  show (i == j) = _
  by_cases h : i = j <;> simp [h]
@[simp] theorem c_eq' (i j : Int) : cmpR .Eq (.int i) (.int j) st = .ok (decide (i = j)) st := by
  show ofOpt (some (PyData.eqv (.int i) (.int j))) st = _
  rw [eqI]; rfl
@[simp] theorem c_ne' (i j : Int) : cmpR .NotEq (.int i) (.int j) st = .ok (!decide (i = j)) st := by
  show ofOpt (some (!PyData.eqv (.int i) (.int j))) st = _
  rw [eqI]; rfl
@[simp] theorem c_eqb' (i j : Bool) : cmpR .Eq (.bl i) (.bl j) st = .ok (i == j) st := by cases i <;> cases j <;> rfl
@[simp] theorem c_neb' (i j : Bool) : cmpR .NotEq (.bl i) (.bl j) st = .ok (!(i == j)) st := by cases i <;> cases j <;> rfl
@[simp] theorem c_isn' (w : W) : cmpR .Is w .non st = .ok (isNonW w) st := id rfl
@[simp] theorem c_isnn' (w : W) : cmpR .IsNot w .non st = .ok (!isNonW w) st := id rfl
@[simp] theorem c_isb' (i j : Bool) : cmpR .Is (.bl i) (.bl j) st = .ok (decide (i = j)) st := id rfl
@[simp] theorem isNon_int (i : Int) : isNonW (.int i) = false := id rfl
@[simp] theorem isNon_tup (i : List W) : isNonW (.tup i) = false := id rfl
@[simp] theorem isNon_ref (i : Nat) : isNonW (.ref i) = false := id rfl
@[simp] theorem isNon_non : isNonW .non = true := id rfl
@[simp] theorem tup_r {ws : List W} (h : ws.length ≤ 1000) : tupR ws st = .ok (.tup ws) st := if_pos (by rw [sizeLine_eq]; omega)
theorem new_lst {ws : List W} (h : ws.length ≤ 1000000) : newLst ws st = .ok (.ref st.length) (st ++ [.lst ws]) := if_pos (by rw [sizeLine_eq]; omega)
/-! indices -/
theorem atI_nat {α : Type} (xs : List α) (n : Nat) : atI xs (n : Int) = xs[n]? := by
  unfold atI ixN
  rw [if_pos (Int.natCast_nonneg n)]
  by_cases h : n < xs.length
  · rw [if_pos (by exact_mod_cast h)]; simp
  · rw [if_neg (by exact_mod_cast h)]
    rw [List.getElem?_eq_none_iff.mpr (Nat.le_of_not_lt h)]; rfl
@[simp] theorem atI_0 {α : Type} (x : α) (xs : List α) : atI (x :: xs) 0 = some x := by
  have := atI_nat (x :: xs) 0
  simpa using this
@[simp] theorem atI_1 {α : Type} (x y : α) (xs : List α) : atI (x :: y :: xs) 1 = some y := by
  have := atI_nat (x :: y :: xs) 1
  simpa using this
@[simp] theorem ix_tup (ws : List W) (i : Int) : ixW st (.tup ws) (.int i) = atI ws i := id rfl
@[simp] theorem ix_scr (ws : List Int) (i : Int) : ixW st (.scr ws) (.int i) = (atI ws i).map .int := id rfl
theorem ix_lst {n : Nat} {ws : List W} (h : st[n]? = some (.lst ws)) (i : Int) : ixW st (.ref n) (.int i) = atI ws i := by
  unfold ixW; simp only [h]
/-! the top's answers -/
variable {P : Prog} {call mkc : Nat → List W → Store → R W}
@[simp] theorem orc_call : (orcOf P call mkc).call = call := id rfl
@[simp] theorem orc_isi (w : W) (cs : List Nat) : (orcOf P call mkc).isi st w cs = if cs.length ≤ 100 then (tyOf st w).bind (fun t => isAny P t cs) else none := id rfl
@[simp] theorem orc_glb : (orcOf P call mkc).glb = P.glb := id rfl
@[simp] theorem ty_int (i : Int) : tyOf st (.int i) = some 2 := id rfl
@[simp] theorem ty_bl (i : Bool) : tyOf st (.bl i) = some 1 := id rfl
@[simp] theorem ty_non : tyOf st .non = some 0 := id rfl
@[simp] theorem ty_str (z : Str) : tyOf st (.str z) = some 3 := id rfl
@[simp] theorem ty_tup (ws : List W) : tyOf st (.tup ws) = some 4 := id rfl
@[simp] theorem ty_scr (ws : List Int) : tyOf st (.scr ws) = some 5 := id rfl
theorem ty_lst {n : Nat} {ws : List W} (h : st[n]? = some (.lst ws)) : tyOf st (.ref n) = some 5 := by simp [tyOf, h]
theorem ty_dic {n : Nat} {ws : List (Key × W)} (h : st[n]? = some (.dic ws)) : tyOf st (.ref n) = some 6 := by simp [tyOf, h]
theorem isOne_low {t c : Nat} (ht : t < 16) (hc : c < 7) : isOne P t c = some (t == c || (t == 1 && c == 2)) := by
  unfold isOne
  rw [if_pos ht, if_pos (by omega), if_pos hc]
theorem isAny_1 {t c : Nat} (ht : t < 16) (hc : c < 7) : isAny P t [c] = some (t == c || (t == 1 && c == 2)) := by
  unfold isAny
  rw [isOne_low ht hc]
  cases (t == c || (t == 1 && c == 2)) <;> rfl
theorem isAny_2 {t c d : Nat} (ht : t < 16) (hc : c < 7) (hd : d < 7) : isAny P t [c, d] = some ((t == c || (t == 1 && c == 2)) || (t == d || (t == 1 && d == 2))) := by
  rw [isAny, isOne_low ht hc, isAny_1 ht hd]
  cases (t == c || (t == 1 && c == 2)) <;> rfl
end

/-! ### cells behind a store -/
section
variable {st ex : Store} {n : Nat}
@[simp] theorem len_assoc (st : Store) (a b : Nat) : st.length + a + b = st.length + (a + b) := Nat.add_assoc _ _ _
@[simp] theorem get_ex (n : Nat) : (st ++ ex)[st.length + n]? = ex[n]? := by
  rw [List.getElem?_append_right (Nat.le_add_right _ _), Nat.add_sub_cancel_left]
@[simp] theorem get_ex0 : (st ++ ex)[st.length]? = ex[0]? := by
  rw [List.getElem?_append_right (Nat.le_refl _), Nat.sub_self]
def ixC : Option Cell → W → Option W
  | some (.lst ws), .int k => atI ws k
  | some (.dic kvs), k => (keyOf k).bind fun k => findK k kvs
  | _, _ => none
@[simp] theorem ixC_lst (ws : List W) (k : Int) : ixC (some (.lst ws)) (.int k) = atI ws k := id rfl
@[simp] theorem ixC_dic (kvs : List (Key × W)) (k : W) : ixC (some (.dic kvs)) k = (keyOf k).bind fun k => findK k kvs := by cases k <;> rfl
@[simp] theorem ix_ref (w : W) : ixW st (.ref n) w = ixC st[n]? w := by
  simp only [ixW]
  cases st[n]? with
  | none => cases w <;> rfl
  | some c => cases c <;> (cases w <;> rfl)
def lstC : Option Cell → Option (List W)
  | some (.lst ws) => some ws
  | _ => none
@[simp] theorem lstC_lst (ws : List W) : lstC (some (.lst ws)) = some ws := id rfl
@[simp] theorem lst_at : lstAt st n = lstC st[n]? := by
  simp only [lstAt]
  cases st[n]? with
  | none => rfl
  | some c => cases c <;> rfl
def tyC : Option Cell → Option Nat
  | some (.lst _) => some 5
  | some (.dic _) => some 6
  | some (.ins c _) => some (c + 16)
  | _ => none
@[simp] theorem tyC_lst (ws : List W) : tyC (some (.lst ws)) = some 5 := id rfl
@[simp] theorem tyC_dic (ws : List (Key × W)) : tyC (some (.dic ws)) = some 6 := id rfl
@[simp] theorem tyC_ins (c : Nat) (ws : List (Nat × W)) : tyC (some (.ins c ws)) = some (c + 16) := id rfl
@[simp] theorem ty_ref : tyOf st (.ref n) = tyC st[n]? := by
  simp only [tyOf]
  cases st[n]? with
  | none => rfl
  | some c => cases c <;> rfl
@[simp] theorem len_tup (ws : List W) : biW .len [.tup ws] st = .ok (.int ws.length) st := id rfl
@[simp] theorem len_scr (ws : List Int) : biW .len [.scr ws] st = .ok (.int ws.length) st := id rfl
def lenC (st : Store) : Option Cell → R W
  | some (.lst ws) => .ok (.int ws.length) st
  | some (.dic ws) => .ok (.int ws.length) st
  | _ => .bad
@[simp] theorem lenC_lst (ws : List W) : lenC st (some (.lst ws)) = .ok (.int ws.length) st := id rfl
@[simp] theorem len_ref : biW .len [.ref n] st = lenC st st[n]? := by
  simp only [biW]
  cases st[n]? with
  | none => rfl
  | some c => cases c <;> rfl
@[simp] theorem list_tup (ws : List W) : biW .list [.tup ws] st = newLst ws st := id rfl
@[simp] theorem max2_int (i j : Int) : biW .max2 [.int i, .int j] st = .ok (.int (max i j)) st := by
  show R.ok (W.int (if j > i then j else i)) st = _
  congr 2; split <;> omega
@[simp] theorem min2_int (i j : Int) : biW .min2 [.int i, .int j] st = .ok (.int (min i j)) st := by
  show R.ok (W.int (if j < i then j else i)) st = _
  congr 2; split <;> omega
theorem str_int {i : Int} (h : i.natAbs.log2 < 1920) : biW .str [.int i] st = .ok (.str (toString i)) st := if_pos h
@[simp] theorem new_few {ws : List W} (h : ws.length ≤ 1000) : newLst ws st = .ok (.ref st.length) (st ++ [.lst ws]) := new_lst (by omega)
end
section
variable {st ex : Store} {n : Nat}
@[simp] theorem bmR_ref (m : Bm) (F : Store → R (List W)) : bmR m F st (.ref n) = iteR (lstC st[n]?).isSome ((F st).bind fun ws st => bmW m (.ref n) ws st) .bad := by
  show (match (lstAt st n).isSome with | true => _ | false => _) = _
  rw [lst_at]; rfl
def appC (st : Store) (n : Nat) (w : W) : Option (List W) → R W
  | some ws => if ws.length < sizeLine then .ok .non (st.set n (.lst (ws ++ [w]))) else .bad
  | none => .bad
@[simp] theorem bm_append (w : W) : bmW .append (.ref n) [w] st = appC st n w (lstC st[n]?) := by
  rw [← lst_at]; rfl
@[simp] theorem appC_lst {ws : List W} {w : W} (h : ws.length < 1000000) : appC st n w (some ws) = .ok .non (st.set n (.lst (ws ++ [w]))) := if_pos (by rw [sizeLine_eq]; omega)
@[simp] theorem set_ex (n : Nat) (c : Cell) : (st ++ ex).set (st.length + n) c = st ++ ex.set n c := by
  rw [List.set_append_right _ _ (Nat.le_add_right _ _), Nat.add_sub_cancel_left]
@[simp] theorem set_ex0 (c : Cell) : (st ++ ex).set st.length c = st ++ ex.set 0 c := by
  rw [List.set_append_right _ _ (Nat.le_refl _), Nat.sub_self]
def catC (st : Store) : Option (List W) → Option (List W) → R W
  | some x, some y => newLst (x ++ y) st
  | _, _ => .bad
@[simp] theorem op_cat' (m n : Nat) : opBin .Add (.ref m) (.ref n) st = catC st (lstC st[m]?) (lstC st[n]?) := by
  rw [← lst_at, ← lst_at]; rfl
@[simp] theorem catC_lst (x y : List W) : catC st (some x) (some y) = newLst (x ++ y) st := id rfl
@[simp] theorem op_catT {x y : List W} (h : x.length + y.length ≤ 1000000) : opBin .Add (.tup x) (.tup y) st = .ok (.tup (x ++ y)) st := if_pos (by rw [sizeLine_eq]; omega)
end
section
variable {st : Store} {n : Nat}
@[simp] theorem it_tup (ws : List W) : iterOf st (.tup ws) = some (.tup ws) := id rfl
@[simp] theorem it_ref : iterOf st (.ref n) = (lstC st[n]?).map fun ws => Iter.lst n ws.length := by rw [← lst_at]; rfl
@[simp] theorem enum_ref : enumI st (.ref n) = (lstC st[n]?).map fun ws => Iter.enum n ws.length := by rw [← lst_at]; rfl
@[simp] theorem rev_ref : revI st (.ref n) = (lstC st[n]?).map fun ws => Iter.rev n ws.length := by rw [← lst_at]; rfl
end
section
variable {st : Store} {n : Nat}
def tupC (st : Store) : Option (List W) → R W
  | some ws => .ok (.tup ws) st
  | none => .bad
@[simp] theorem tuple_ref : biW .tuple [.ref n] st = tupC st (lstC st[n]?) := by rw [← lst_at]; rfl
@[simp] theorem tupC_lst (ws : List W) : tupC st (some ws) = .ok (.tup ws) st := id rfl
def newC (st : Store) : Option (List W) → R W
  | some ws => newLst ws st
  | none => .bad
@[simp] theorem list_ref : biW .list [.ref n] st = newC st (lstC st[n]?) := by rw [← lst_at]; rfl
@[simp] theorem newC_lst (ws : List W) : newC st (some ws) = newLst ws st := id rfl
theorem set_lst {ws : List W} {i : Int} {j : Nat} {w : W} {ρ : Loc} (h : st[n]? = some (.lst ws)) (hj : ixN ws.length i = some j) : setR (.ref n) (.int i) w ρ st = .ok ρ (st.set n (.lst (ws.set j w))) := by
  unfold setR setW
  simp only [h, hj, Option.map_some]
theorem pop_lst {ws : List W} {w : W} (h : st[n]? = some (.lst ws)) (hw : ws[ws.length - 1]? = some w) : bmW .pop (.ref n) [] st = .ok w (st.set n (.lst ws.dropLast)) := by
  have e : lstAt st n = some ws := by rw [lst_at, h]; rfl
  unfold bmW
  simp only [e, hw]
theorem ixN_in {n : Nat} {i : Int} (h0 : 0 ≤ i) (h1 : i < n) : ixN n i = some i.toNat := by
  unfold ixN
  rw [if_pos h0, if_pos h1]
end
section
variable {st : Store} {n : Nat}
theorem sl_ref {ws : List W} {lo hi : Option Int} (h : st[n]? = some (.lst ws)) : slW st (.ref n) lo hi = newLst (cutW ws lo hi) st := by
  have e : lstAt st n = some ws := by rw [lst_at, h]; rfl
  unfold slW
  simp only [e]
theorem cut_sub {α : Type} (xs : List α) (lo hi : Option Int) : (cutW xs lo hi).length ≤ xs.length ∧ ∀ x ∈ cutW xs lo hi, x ∈ xs := by
  unfold cutW
  exact ⟨by simp; omega, fun x hx => List.mem_of_mem_drop (List.mem_of_mem_take hx)⟩
end
/-! ### loops -/
theorem whl_step {test : Loc → Store → R Bool} {body : Loc → Store → Out} {f : Nat} {ρ : Loc} {st : Store} : whlLoop test body (f + 1) ρ st = (test ρ st).out ρ fun k st => iteO k (goOn (whlLoop test body f) (body ρ st)) (.nx ρ st) := by
  rw [whlLoop]; rfl
/-- a walk that goes on to its end -/
theorem for_inv {body : W → Loc → Store → Out} {it : Iter} {Inv : Nat → Loc → Store → Prop} {n : Nat} (h : ∀ i ρ st, i < n → Inv i ρ st → ∃ w ρ' st', it.get st i = some (some w) ∧ (body w ρ st = .nx ρ' st' ∨ body w ρ st = .ct ρ' st') ∧ Inv (i + 1) ρ' st')
    (he : ∀ ρ st, Inv n ρ st → it.get st n = some none) : ∀ {m i : Nat} {ρ : Loc} {st : Store}, n ≤ m + i → i ≤ n → Inv i ρ st → ∃ ρ' st', forLoop body it m i ρ st = .nx ρ' st' ∧ Inv n ρ' st' := by
  intro m
  induction m with
  | zero =>
    intro i ρ st hm hi hI
    have e : i = n := by omega
    subst e
    refine ⟨ρ, st, ?_, hI⟩
    rw [forLoop, he ρ st hI]
  | succ m ih =>
    intro i ρ st hm hi hI
    by_cases e : i = n
    · subst e
      refine ⟨ρ, st, ?_, hI⟩
      rw [forLoop, he ρ st hI]
    · obtain ⟨w, ρ1, st1, hg, hb, hI1⟩ := h i ρ st (by omega) hI
      obtain ⟨ρ2, st2, h2, hI2⟩ := ih (i := i + 1) (by omega) (by omega) hI1
      refine ⟨ρ2, st2, ?_, hI2⟩
      rw [forLoop, hg]
      rcases hb with hb | hb
      · simp only [hb]; exact h2
      · simp only [hb]; exact h2
end Mx

/-! Plain facts: sizes, the greatest common divisor, fractions. -/
namespace Mx
open PySem L2

/-- below 2 ^ n -/
def Sm (n : Nat) (i : Int) : Prop := i.natAbs < 2 ^ n
theorem Sm.mono {m n : Nat} {i : Int} (h : Sm m i) (l : m ≤ n) : Sm n i := Nat.lt_of_lt_of_le h (Nat.pow_le_pow_right (by decide) l)
theorem Sm.log {n : Nat} {i : Int} (h : Sm n i) : i.natAbs.log2 ≤ n := by
  by_cases e : i.natAbs = 0
  · rw [e]; simp
  · exact Nat.le_of_lt ((Nat.log2_lt e).mpr h)
theorem Sm.mul {m n : Nat} {i j : Int} (h : Sm m i) (g : Sm n j) : Sm (m + n) (i * j) := by
  unfold Sm at *
  rw [Int.natAbs_mul, Nat.pow_add]
  exact Nat.lt_of_le_of_lt (Nat.mul_le_mul_left _ (Nat.le_of_lt g)) (Nat.mul_lt_mul_of_pos_right h (Nat.two_pow_pos n))
theorem Sm.add {m n : Nat} {i j : Int} (h : Sm m i) (g : Sm n j) : Sm (max m n + 1) (i + j) := by
  unfold Sm at *
  have h1 : i.natAbs < 2 ^ max m n := Nat.lt_of_lt_of_le h (Nat.pow_le_pow_right (by decide) (Nat.le_max_left _ _))
  have h2 : j.natAbs < 2 ^ max m n := Nat.lt_of_lt_of_le g (Nat.pow_le_pow_right (by decide) (Nat.le_max_right _ _))
  rw [Nat.pow_succ]
  have := Int.natAbs_add_le i j
  omega
theorem Sm.neg {n : Nat} {i : Int} (h : Sm n i) : Sm n (-i) := by
  unfold Sm at *; rw [Int.natAbs_neg]; exact h
theorem Sm.sub {m n : Nat} {i j : Int} (h : Sm m i) (g : Sm n j) : Sm (max m n + 1) (i - j) := by
  rw [Int.sub_eq_add_neg]; exact h.add g.neg
theorem Sm.of {n : Nat} {i : Int} (h1 : -(2 ^ n : Nat) < i) (h2 : i < (2 ^ n : Nat)) : Sm n i := by
  unfold Sm; omega
theorem Sm.lit {n : Nat} {i : Int} (h : Nat.blt i.natAbs (2 ^ n) = true) : Sm n i := Nat.blt_eq.mp h
theorem mul_fits {m n : Nat} {i j : Int} (h : Sm m i) (g : Sm n j) (l : m + n < 1000000) : i.natAbs.log2 + j.natAbs.log2 < 1000000 := by
  have := h.log
  have := g.log
  omega
theorem mulS {m n : Nat} {i j : Int} {st : Store} (h : Sm m i) (g : Sm n j) (l : m + n < 1000000) : opBin .Mult (.int i) (.int j) st = .ok (.int (i * j)) st := op_mul' (mul_fits h g l)

/-! ### the greatest common divisor by Euclid's turns -/
theorem fmod_nat (x y : Nat) : (x : Int).fmod (y : Int) = ((x % y : Nat) : Int) := by
  rw [Int.fmod_eq_emod_of_nonneg _ (Int.natCast_nonneg y)]
  exact (Int.natCast_emod x y).symm
theorem fdiv_nat (x y : Nat) : (x : Int).fdiv (y : Int) = ((x / y : Nat) : Int) := by
  rw [Int.fdiv_eq_ediv_of_nonneg _ (Int.natCast_nonneg y)]
  exact (Int.natCast_ediv x y).symm
theorem euclid {test : Loc → Store → R Bool} {body : Loc → Store → Out} {st : Store} (L : Int → Int → Loc) (ht : ∀ x y : Nat, test (L x y) st = .ok (decide (y ≠ 0)) st) (hb : ∀ x y : Nat, y ≠ 0 → body (L x y) st = .nx (L y ((x % y : Nat) : Int)) st) :
    ∀ (n x y f : Nat), y < 2 ^ n → 2 * n + 1 ≤ f → whlLoop test body f (L x y) st = .nx (L (Nat.gcd x y : Nat) 0) st := by
  intro n
  induction n with
  | zero =>
    intro x y f hy hf
    have e : y = 0 := by simpa using hy
    subst e
    obtain ⟨g, rfl⟩ : ∃ g, f = g + 1 := ⟨f - 1, by omega⟩
    rw [whl_step, ht]
    simp
  | succ n ih =>
    intro x y f hy hf
    obtain ⟨g, rfl⟩ : ∃ g, f = g + 1 := ⟨f - 1, by omega⟩
    by_cases e : y = 0
    · subst e
      rw [whl_step, ht]
      simp
    · rw [whl_step, ht]
      simp only [out_ok', ne_eq, e, not_false_eq_true, decide_true, iteO_t]
      rw [hb x y e]
      simp only [goOn_nx]
      have hpos : 0 < y := Nat.pos_of_ne_zero e
      have hm := Nat.mod_lt x hpos
      rw [show Nat.gcd x y = Nat.gcd y (x % y) by rw [Nat.gcd_comm x y, Nat.gcd_rec y x, Nat.gcd_comm]]
      by_cases h2 : x % y < 2 ^ n
      · exact ih y (x % y) g h2 (by omega)
      · obtain ⟨g', rfl⟩ : ∃ g', g = g' + 1 := ⟨g - 1, by omega⟩
        have e2 : x % y ≠ 0 := by
          intro z
          rw [z] at h2
          exact h2 (Nat.two_pow_pos n)
        rw [whl_step, ht]
        simp only [out_ok', ne_eq, e2, not_false_eq_true, decide_true, iteO_t]
        rw [hb y (x % y) e2]
        simp only [goOn_nx]
        rw [show Nat.gcd y (x % y) = Nat.gcd (x % y) (y % (x % y)) by rw [Nat.gcd_comm y (x % y), Nat.gcd_rec (x % y) y, Nat.gcd_comm]]
        refine ih (x % y) (y % (x % y)) g' ?_ (by omega)
        have l1 : y % (x % y) ≤ y - x % y := by
          have h5 := Nat.mod_eq_sub_mod (Nat.le_of_lt hm)
          rw [h5]
          exact Nat.mod_le _ _
        rw [Nat.pow_succ] at hy
        omega

@[simp] theorem atI_lit {α : Type} (xs : List α) (n : Nat) : atI xs (no_index (OfNat.ofNat n : Int)) = xs[n]? := atI_nat xs n
theorem fm_nn (a : Int) {b : Int} (h : 0 < b) : 0 ≤ a.fmod b := Int.fmod_nonneg_of_pos a h
theorem fm_lt (a : Int) {b : Int} (h : 0 < b) : a.fmod b < b := Int.fmod_lt_of_pos a h
theorem Sm.nn {n : Nat} {i : Int} (h : 0 ≤ i) (h2 : i < (2 ^ n : Nat)) : Sm n i := Sm.of (by have := Nat.two_pow_pos n; omega) h2
theorem fm_sm (a : Int) {b : Int} {n : Nat} (h : 0 < b) (h2 : b ≤ (2 ^ n : Nat)) : Sm n (a.fmod b) := Sm.nn (fm_nn a h) (by have := fm_lt a h; omega)
/-- a store with more behind it -/
theorem get_more {st ex : Store} {n : Nat} {c : Cell} (h : st[n]? = some c) : (st ++ ex)[n]? = some c := by
  rw [List.getElem?_append_left (List.getElem?_eq_some_iff.mp h).1]; exact h
theorem get_last {st : Store} {c : Cell} : (st ++ [c])[st.length]? = some c := by simp

theorem mulL {i j : Int} {st : Store} (h : i.natAbs < 2 ^ 250) (g : j.natAbs < 2 ^ 250) : opBin .Mult (.int i) (.int j) st = .ok (.int (i * j)) st := mulS (m := 250) (n := 250) h g (by decide)
theorem fdivL {i j : Int} {st : Store} (h : j ≠ 0) (g : j.natAbs < 2 ^ 250) : opBin .FloorDiv (.int i) (.int j) st = .ok (.int (i.fdiv j)) st := op_fdiv' h (by have := Sm.log (n := 250) g; omega)

/-- a store that grew -/
def Gr (st st' : Store) : Prop := ∃ ex, st' = st ++ ex
theorem Gr.refl (st : Store) : Gr st st := ⟨[], by simp⟩
theorem Gr.trans {a b c : Store} (h : Gr a b) (g : Gr b c) : Gr a c := by
  obtain ⟨x, rfl⟩ := h
  obtain ⟨y, rfl⟩ := g
  exact ⟨x ++ y, by simp⟩
theorem Gr.app (st ex : Store) : Gr st (st ++ ex) := ⟨ex, rfl⟩
theorem Gr.get {st st' : Store} (h : Gr st st') {n : Nat} {c : Cell} (e : st[n]? = some c) : st'[n]? = some c := by
  obtain ⟨x, rfl⟩ := h
  exact get_more e
theorem rng_0 {n : Nat} (h : n < 2 ^ 60) : rngI 0 (n : Int) = some (.rng 0 n) := by
  unfold rngI
  rw [if_pos]
  · simp
  · simp only [rngOk, Bool.and_eq_true, decide_eq_true_eq]
    omega
@[simp] theorem most_rng (lo : Int) (n : Nat) : Iter.most (.rng lo n) = n := id rfl
@[simp] theorem most_rngC (lo c : Int) (n : Nat) : Iter.most (.rngC lo c n) = n := id rfl
theorem get_rng {st : Store} {lo : Int} {n i : Nat} (h : i < n) : Iter.get st i (.rng lo n) = some (some (.int (lo + i))) := by
  show some (if i < n then _ else _) = _
  rw [if_pos h]
theorem end_rng {st : Store} {lo : Int} {n : Nat} : Iter.get st n (.rng lo n) = some none := by
  show some (if n < n then _ else _) = _
  rw [if_neg (by omega)]
theorem get_rngC {st : Store} {lo c : Int} {n i : Nat} (h : i < n) : Iter.get st i (.rngC lo c n) = some (some (.int (lo + (i : Nat) * c))) := by
  show some (if i < n then _ else _) = _
  rw [if_pos h]
theorem end_rngC {st : Store} {lo c : Int} {n : Nat} : Iter.get st n (.rngC lo c n) = some none := by
  show some (if n < n then _ else _) = _
  rw [if_neg (by omega)]
theorem rng2_small : ∀ h, h < 64 → (Builtin.Range.small 0 (h : Nat) 2 = true ∧ Builtin.Range.rangeSize 0 (h : Nat) 2 = ((h + 1) / 2 : Nat)) := by decide +kernel
theorem rng_2 {h : Nat} (hh : h < 64) : rngCI 0 (h : Int) 2 = some (.rngC 0 2 ((h + 1) / 2)) := by
  obtain ⟨h1, h2⟩ := rng2_small h hh
  unfold rngCI
  rw [if_pos ⟨by decide, by decide, h1, by rw [h2]; omega⟩, h2, Int.toNat_natCast]
end Mx

/-! Values as plain data. -/
namespace Mx
open PySem L2

/-- one by one -/
inductive All2 {α β : Type} (R : α → β → Prop) : List α → List β → Prop where
  | nil : All2 R [] []
  | cons {a : α} {b : β} {as : List α} {bs : List β} (h : R a b) (t : All2 R as bs) : All2 R (a :: as) (b :: bs)
section
variable {α β : Type} {R R' : α → β → Prop} {as : List α} {bs : List β}
theorem All2.len (h : All2 R as bs) : as.length = bs.length := by
  induction h with
  | nil => rfl
  | cons _ _ ih => simp [ih]
theorem All2.imp (h : All2 R as bs) (g : ∀ a b, a ∈ as → b ∈ bs → R a b → R' a b) : All2 R' as bs := by
  induction h with
  | nil => exact .nil
  | cons h t ih => exact .cons (g _ _ (by simp) (by simp) h) (ih fun a b ha hb => g a b (by simp [ha]) (by simp [hb]))
theorem All2.get (h : All2 R as bs) : ∀ {i : Nat} {a : α}, as[i]? = some a → ∃ b, bs[i]? = some b ∧ R a b := by
  induction h with
  | nil => intro i a e; simp at e
  | @cons a b as bs h t ih =>
    intro i x e
    cases i with
    | zero => simp at e; subst e; exact ⟨b, rfl, h⟩
    | succ i => simp at e; obtain ⟨y, h1, h2⟩ := ih e; exact ⟨y, by simpa using h1, h2⟩
theorem All2.mem (h : All2 R as bs) {a : α} (ha : a ∈ as) : ∃ b ∈ bs, R a b := by
  induction h with
  | nil => simp at ha
  | cons h t ih =>
    rcases List.mem_cons.mp ha with e | e
    · subst e; exact ⟨_, by simp, h⟩
    · obtain ⟨b, h1, h2⟩ := ih e; exact ⟨b, by simp [h1], h2⟩
end

mutual
/-- a value that is plain data -/
inductive Dn (st : Store) : W → PyData → Prop where
  | non : Dn st .non .none
  | bl (b : Bool) : Dn st (.bl b) (.bool b)
  | int (i : Int) : Dn st (.int i) (.int i)
  | str (z : Str) : Dn st (.str z) (.str z)
  | tup {ws : List W} {ds : List PyData} (h : Dns st ws ds) : Dn st (.tup ws) (.tuple ds)
  | lst {n : Nat} {ws : List W} {ds : List PyData} (e : st[n]? = some (.lst ws)) (h : Dns st ws ds) : Dn st (.ref n) (.list ds)
inductive Dns (st : Store) : List W → List PyData → Prop where
  | nil : Dns st [] []
  | cons {w : W} {d : PyData} {ws : List W} {ds : List PyData} (h : Dn st w d) (t : Dns st ws ds) : Dns st (w :: ws) (d :: ds)
end
section
variable {st st' : Store}
mutual
theorem Dn.keep (g : ∀ (n : Nat) (ws : List W), st[n]? = some (.lst ws) → st'[n]? = some (.lst ws)) : ∀ {w : W} {d : PyData}, Dn st w d → Dn st' w d
  | _, _, .non => .non
  | _, _, .bl b => .bl b
  | _, _, .int i => .int i
  | _, _, .str z => .str z
  | _, _, .tup h => .tup (Dns.keep g h)
  | _, _, .lst e h => .lst (g _ _ e) (Dns.keep g h)
theorem Dns.keep (g : ∀ (n : Nat) (ws : List W), st[n]? = some (.lst ws) → st'[n]? = some (.lst ws)) : ∀ {w : List W} {d : List PyData}, Dns st w d → Dns st' w d
  | _, _, .nil => .nil
  | _, _, .cons h t => .cons (Dn.keep g h) (Dns.keep g t)
end
theorem Dn.gr {w : W} {d : PyData} (h : Dn st w d) (g : Gr st st') : Dn st' w d := h.keep fun _ _ e => g.get e
theorem Dns.gr {w : List W} {d : List PyData} (h : Dns st w d) (g : Gr st st') : Dns st' w d := h.keep fun _ _ e => g.get e
theorem Dns.all2 {ws : List W} {ds : List PyData} (h : Dns st ws ds) : All2 (Dn st) ws ds := by
  induction ws generalizing ds with
  | nil => cases h; exact .nil
  | cons w ws ih => cases h with | cons h t => exact .cons h (ih t)
theorem Dns.len {ws : List W} {ds : List PyData} (h : Dns st ws ds) : ws.length = ds.length := h.all2.len
theorem Dns.of {ws : List W} {ds : List PyData} (h : All2 (Dn st) ws ds) : Dns st ws ds := by
  induction h with
  | nil => exact .nil
  | cons h t ih => exact .cons h ih
/-- the type's number -/
def tyD : PyData → Nat
  | .none => 0
  | .bool _ => 1
  | .int _ => 2
  | .str _ => 3
  | .tuple _ => 4
  | .list _ => 5
  | .dict _ => 6
theorem Dn.ty {w : W} {d : PyData} (h : Dn st w d) : tyOf st w = some (tyD d) := by
  cases h <;> first | rfl | (rename_i e _; simp [tyD, e])
theorem tyD_low (d : PyData) : tyD d < 16 := by cases d <;> simp [tyD]
end

/-! ### walks over values that leave the store as it was, but for more behind it -/
theorem gr_lst {st st' : Store} (g : Gr st st') {n : Nat} {ws : List W} (e : st[n]? = some (.lst ws)) (l i : Nat) : Iter.get st' i (.lst n l) = some ws[i]? := by
  show (lstAt st' n).map (fun ws => ws[i]?) = _
  rw [lst_at, g.get e]; rfl
theorem get_tup (st : Store) (ws : List W) (i : Nat) : Iter.get st i (.tup ws) = some ws[i]? := rfl
@[simp] theorem most_tup (ws : List W) : Iter.most (.tup ws) = ws.length := id rfl
@[simp] theorem most_lst (n l : Nat) : Iter.most (.lst n l) = l := id rfl
/-- an iterator that tells the items of a list, whatever is laid behind -/
def Tells (it : Iter) (st : Store) (ws : List W) : Prop := ∀ st', Gr st st' → ∀ i, it.get st' i = some ws[i]?
theorem tells_tup (st : Store) (ws : List W) : Tells (.tup ws) st ws := fun _ _ _ => rfl
theorem tells_lst {st : Store} {n l : Nat} {ws : List W} (e : st[n]? = some (.lst ws)) : Tells (.lst n l) st ws := fun _ g i => gr_lst g e l i
/-- a comprehension: each item is taken by f, or left -/
theorem lc_map {body : W → Loc → Store → R (Option W)} {it : Iter} {ρ : Loc} {ws : List W} {st : Store} (ht : Tells it st ws) (f : W → Option W → Prop) (hb : ∀ w ∈ ws, ∀ st', Gr st st' → ∃ u st'', body w ρ st' = .ok u st'' ∧ Gr st' st'' ∧ f w u) (hl : ws.length ≤ 1000000) :
    ∀ m i acc st1, Gr st st1 → ws.length ≤ m + i → i ≤ ws.length → acc.length ≤ i → ∃ us st2, lcLoop body it ρ m i acc st1 = .ok (acc ++ us.filterMap id) st2 ∧ Gr st1 st2 ∧ All2 f (ws.drop i) us := by
  intro m
  induction m with
  | zero =>
    intro i acc st1 g hm hi ha
    have e : ws[i]? = none := List.getElem?_eq_none_iff.mpr (by omega)
    refine ⟨[], st1, ?_, .refl _, ?_⟩
    · rw [lcLoop, ht st1 g i, e]; simp
    · rw [List.drop_eq_nil_of_le (by omega)]; exact .nil
  | succ m ih =>
    intro i acc st1 g hm hi ha
    by_cases hlt : i < ws.length
    · have e : ws[i]? = some ws[i] := List.getElem?_eq_getElem hlt
      obtain ⟨u, st2, h1, g2, hf⟩ := hb ws[i] (List.getElem_mem _) st1 g
      have hd : ws.drop i = ws[i] :: ws.drop (i + 1) := List.drop_eq_getElem_cons hlt
      cases u with
      | none =>
        obtain ⟨us, st3, h3, g3, h4⟩ := ih (i + 1) acc st2 (g.trans g2) (by omega) (by omega) (by omega)
        refine ⟨none :: us, st3, ?_, g2.trans g3, by rw [hd]; exact .cons hf h4⟩
        rw [lcLoop, ht st1 g i, e]
        simp only [h1]
        rw [h3]; simp
      | some u =>
        obtain ⟨us, st3, h3, g3, h4⟩ := ih (i + 1) (acc ++ [u]) st2 (g.trans g2) (by omega) (by omega) (by simp; omega)
        refine ⟨some u :: us, st3, ?_, g2.trans g3, by rw [hd]; exact .cons hf h4⟩
        rw [lcLoop, ht st1 g i, e]
        simp only [h1]
        rw [if_pos (by rw [sizeLine_eq]; omega), h3]; simp
    · have e : ws[i]? = none := List.getElem?_eq_none_iff.mpr (by omega)
      refine ⟨[], st1, ?_, .refl _, ?_⟩
      · rw [lcLoop, ht st1 g i, e]; simp
      · rw [List.drop_eq_nil_of_le (by omega)]; exact .nil
/-- the same as a whole: the new list -/
theorem lc_new {body : W → Loc → Store → R (Option W)} {it : Iter} {ρ : Loc} {ws : List W} {st : Store} (ht : Tells it st ws) (f : W → Option W → Prop) (hb : ∀ w ∈ ws, ∀ st', Gr st st' → ∃ u st'', body w ρ st' = .ok u st'' ∧ Gr st' st'' ∧ f w u) (hl : ws.length ≤ 1000000) (hm : ws.length ≤ it.most) :
    ∃ us p st2, ((lcLoop body it ρ it.most 0 [] st).bind fun ws st => newLst ws st) = .ok (.ref p) st2 ∧ Gr st st2 ∧ st2[p]? = some (.lst (us.filterMap id)) ∧ All2 f ws us := by
  obtain ⟨us, st2, h1, g, h2⟩ := lc_map ht f hb hl it.most 0 [] st (.refl _) (by omega) (by omega) (by simp)
  rw [List.drop_zero] at h2
  have hlen := h2.len
  have hz : (us.filterMap id).length ≤ us.length := List.length_filterMap_le _ _
  refine ⟨us, st2.length, st2 ++ [.lst (us.filterMap id)], ?_, g.trans (Gr.app _ _), get_last, h2⟩
  rw [h1]
  simp only [bind_ok', List.nil_append]
  exact new_lst (by omega)
/-- a walk that ends where a test fails, or goes through -/
theorem for_all {body : W → Loc → Store → Out} {it : Iter} {ws : List W} {st : Store} (ht : Tells it st ws) (Inv : Loc → Prop) (p : W → Bool) (w0 : W) (hb : ∀ w ∈ ws, ∀ ρ st', Gr st st' → Inv ρ → ∃ st'', Gr st' st'' ∧ ((p w = true ∧ ∃ ρ', Inv ρ' ∧ (body w ρ st' = .nx ρ' st'' ∨ body w ρ st' = .ct ρ' st'')) ∨ (p w = false ∧ body w ρ st' = .rt w0 st''))) :
    ∀ m i ρ st1, Gr st st1 → ws.length ≤ m + i → i ≤ ws.length → Inv ρ → ∃ st2, Gr st1 st2 ∧ (((ws.drop i).all p = true ∧ ∃ ρ', Inv ρ' ∧ forLoop body it m i ρ st1 = .nx ρ' st2) ∨ ((ws.drop i).all p = false ∧ forLoop body it m i ρ st1 = .rt w0 st2)) := by
  intro m
  induction m with
  | zero =>
    intro i ρ st1 g hm hi hI
    have e : ws[i]? = none := List.getElem?_eq_none_iff.mpr (by omega)
    refine ⟨st1, .refl _, .inl ⟨by rw [List.drop_eq_nil_of_le (by omega)]; rfl, ρ, hI, ?_⟩⟩
    rw [forLoop, ht st1 g i, e]
  | succ m ih =>
    intro i ρ st1 g hm hi hI
    by_cases hlt : i < ws.length
    · have e : ws[i]? = some ws[i] := List.getElem?_eq_getElem hlt
      have hd : ws.drop i = ws[i] :: ws.drop (i + 1) := List.drop_eq_getElem_cons hlt
      obtain ⟨st2, g2, h⟩ := hb ws[i] (List.getElem_mem _) ρ st1 g hI
      rcases h with ⟨hp, ρ', hI', h⟩ | ⟨hp, h⟩
      · obtain ⟨st3, g3, h3⟩ := ih (i + 1) ρ' st2 (g.trans g2) (by omega) (by omega) hI'
        refine ⟨st3, g2.trans g3, ?_⟩
        have er : forLoop body it (m + 1) i ρ st1 = forLoop body it m (i + 1) ρ' st2 := by
          rw [forLoop, ht st1 g i, e]
          rcases h with h | h <;> simp only [h]
        rw [hd, List.all_cons, hp, Bool.true_and, er]
        exact h3
      · refine ⟨st2, g2, .inr ⟨by rw [hd, List.all_cons, hp]; rfl, ?_⟩⟩
        rw [forLoop, ht st1 g i, e]
        simp only [h]
    · have e : ws[i]? = none := List.getElem?_eq_none_iff.mpr (by omega)
      refine ⟨st1, .refl _, .inl ⟨by rw [List.drop_eq_nil_of_le (by omega)]; rfl, ρ, hI, ?_⟩⟩
      rw [forLoop, ht st1 g i, e]

section
variable {st : Store}
mutual
theorem Dn.det : ∀ {w : W} {d e : PyData}, Dn st w d → Dn st w e → d = e
  | _, _, _, .non, .non => rfl
  | _, _, _, .bl _, .bl _ => rfl
  | _, _, _, .int _, .int _ => rfl
  | _, _, _, .str _, .str _ => rfl
  | _, _, _, .tup h, .tup g => by rw [Dns.det h g]
  | _, _, _, .lst e h, .lst e' g => by
    rw [e] at e'
    cases e'
    rw [Dns.det h g]
theorem Dns.det : ∀ {w : List W} {d e : List PyData}, Dns st w d → Dns st w e → d = e
  | _, _, _, .nil, .nil => rfl
  | _, _, _, .cons h t, .cons h' t' => by rw [Dn.det h h', Dns.det t t']
end
open Classical in
/-- a test of data as a test of values -/
noncomputable def asW (st : Store) (q : PyData → Bool) (w : W) : Bool := if h : ∃ d, Dn st w d then q h.choose else false
theorem asW_eq {q : PyData → Bool} {w : W} {d : PyData} (h : Dn st w d) : asW st q w = q d := by
  have hx : ∃ d, Dn st w d := ⟨d, h⟩
  unfold asW
  rw [dif_pos hx, hx.choose_spec.det h]
theorem asW_all {q : PyData → Bool} {ws : List W} {ds : List PyData} (h : Dns st ws ds) : ws.all (asW st q) = ds.all q := by
  induction ws generalizing ds with
  | nil => cases h; rfl
  | cons w ws ih => cases h with | cons h t => rw [List.all_cons, List.all_cons, asW_eq h, ih t]
theorem Dns.mem {ws : List W} {ds : List PyData} (h : Dns st ws ds) {w : W} (hw : w ∈ ws) : ∃ d ∈ ds, Dn st w d := h.all2.mem hw
/-- a walk over data that ends where a test fails -/
theorem for_data {body : W → Loc → Store → Out} {it : Iter} {ws : List W} {ds : List PyData} (ht : Tells it st ws) (hd : Dns st ws ds) (Inv : Loc → Prop) (q : PyData → Bool) (w0 : W) (hm : ws.length ≤ it.most)
    (hb : ∀ w d, d ∈ ds → Dn st w d → ∀ ρ st', Gr st st' → Inv ρ → ∃ st'', Gr st' st'' ∧ ((q d = true ∧ ∃ ρ', Inv ρ' ∧ (body w ρ st' = .nx ρ' st'' ∨ body w ρ st' = .ct ρ' st'')) ∨ (q d = false ∧ body w ρ st' = .rt w0 st''))) {ρ : Loc} (hI : Inv ρ) :
    ∃ st2, Gr st st2 ∧ ((ds.all q = true ∧ ∃ ρ', Inv ρ' ∧ forLoop body it it.most 0 ρ st = .nx ρ' st2) ∨ (ds.all q = false ∧ forLoop body it it.most 0 ρ st = .rt w0 st2)) := by
  obtain ⟨st2, g, h⟩ := for_all ht Inv (asW st q) w0 (fun w hw ρ st' g hI => by
    obtain ⟨d, hdm, hd⟩ := hd.mem hw
    rw [asW_eq hd]
    exact hb w d hdm hd ρ st' g hI) it.most 0 ρ st (.refl _) (by omega) (by omega) hI
  rw [List.drop_zero, asW_all hd] at h
  exact ⟨st2, g, h⟩
/-- a comprehension that leaves out what passes a test: nothing is left just where all pass -/
theorem lc_data {body : W → Loc → Store → R (Option W)} {it : Iter} {ρ : Loc} {ws : List W} {ds : List PyData} (ht : Tells it st ws) (hd : Dns st ws ds) (q : PyData → Bool) (hb : ∀ w d, d ∈ ds → Dn st w d → ∀ st', Gr st st' → ∃ st'', body w ρ st' = .ok (if q d then none else some w) st'' ∧ Gr st' st'') (hl : ws.length ≤ 1000000) (hm : ws.length ≤ it.most) :
    ∃ us p st2, ((lcLoop body it ρ it.most 0 [] st).bind fun ws st => newLst ws st) = .ok (.ref p) st2 ∧ Gr st st2 ∧ st2[p]? = some (.lst us) ∧ (us.length = 0 ↔ ds.all q = true) := by
  obtain ⟨us, p, st2, h1, g, h2, h3⟩ := lc_new (ρ := ρ) (body := body) ht (fun w u => u = if asW st q w then none else some w) (fun w hw st' g => by
    obtain ⟨d, hdm, hd⟩ := hd.mem hw
    obtain ⟨st'', h, g'⟩ := hb w d hdm hd st' g
    exact ⟨_, st'', h, g', by rw [asW_eq hd]⟩) hl hm
  refine ⟨_, p, st2, h1, g, h2, ?_⟩
  rw [← asW_all hd]
  clear h1 h2 hm hl hd hb ht
  induction h3 with
  | nil => simp
  | @cons w u ws us h t ih =>
    subst h
    rw [List.filterMap_cons, List.all_cons]
    cases asW st q w with
    | true => simpa using ih
    | false => simp
end

/-! ### equality of data -/
/-- data that can be laid, so deep at most -/
def Lay (k : Nat) (d : PyData) : Prop := d.canLay0 = true ∧ d.depth ≤ k
theorem Lay.mono {j k : Nat} {d : PyData} (h : Lay j d) (l : j ≤ k) : Lay k d := ⟨h.1, Nat.le_trans h.2 l⟩
theorem lay_all {k : Nat} : ∀ {ds : List PyData}, (∀ d ∈ ds, Lay k d) → PyData.canLayAll0 ds = true ∧ PyData.depthAll ds ≤ k
  | [], _ => ⟨rfl, Nat.zero_le _⟩
  | d :: ds, h => by
    obtain ⟨h1, h2⟩ := lay_all (ds := ds) fun x hx => h x (by simp [hx])
    obtain ⟨h3, h4⟩ := h d (by simp)
    refine ⟨?_, ?_⟩
    · show (PyData.canLay0 d && PyData.canLayAll0 ds) = true
      rw [h3, h1]; rfl
    · show max (PyData.depth d) (PyData.depthAll ds) ≤ k
      omega
theorem lay_list {k : Nat} {ds : List PyData} (h : ∀ d ∈ ds, Lay k d) : Lay (k + 1) (.list ds) := ⟨(lay_all h).1, Nat.succ_le_succ (lay_all h).2⟩
theorem lay_tuple {k : Nat} {ds : List PyData} (h : ∀ d ∈ ds, Lay k d) : Lay (k + 1) (.tuple ds) := ⟨(lay_all h).1, Nat.succ_le_succ (lay_all h).2⟩
theorem lay_int {k : Nat} (i : Int) : Lay k (.int i) := ⟨rfl, Nat.zero_le _⟩
theorem lay_bool {k : Nat} (i : Bool) : Lay k (.bool i) := ⟨rfl, Nat.zero_le _⟩
theorem lay_none {k : Nat} : Lay k .none := ⟨rfl, Nat.zero_le _⟩
section
variable {st : Store}
mutual
theorem Dn.toD : ∀ {w : W} {d : PyData}, Dn st w d → ∀ {f : Nat}, d.depth < f → Mx.toD st f w = some d
  | _, _, .non, f, h => by obtain ⟨g, rfl⟩ : ∃ g, f = g + 1 := ⟨f - 1, by omega⟩; rfl
  | _, _, .bl _, f, h => by obtain ⟨g, rfl⟩ : ∃ g, f = g + 1 := ⟨f - 1, by omega⟩; rfl
  | _, _, .int _, f, h => by obtain ⟨g, rfl⟩ : ∃ g, f = g + 1 := ⟨f - 1, by omega⟩; rfl
  | _, _, .str _, f, h => by obtain ⟨g, rfl⟩ : ∃ g, f = g + 1 := ⟨f - 1, by omega⟩; rfl
  | _, _, .tup (ws := ws) (ds := ds) t, f, h => by
    obtain ⟨g, rfl⟩ : ∃ g, f = g + 1 := ⟨f - 1, by omega⟩
    have h' : PyData.depthAll ds + 1 < g + 1 := h
    show (ws.mapM (Mx.toD st g)).map PyData.tuple = _
    rw [Dns.toD t (by omega)]; rfl
  | _, _, .lst (n := n) (ws := ws) (ds := ds) e t, f, h => by
    obtain ⟨g, rfl⟩ : ∃ g, f = g + 1 := ⟨f - 1, by omega⟩
    have h' : PyData.depthAll ds + 1 < g + 1 := h
    show (match lstAt st n with | some ws => (ws.mapM (Mx.toD st g)).map PyData.list | none => none) = _
    rw [lst_at, e]
    show (ws.mapM (Mx.toD st g)).map PyData.list = _
    rw [Dns.toD t (by omega)]; rfl
theorem Dns.toD : ∀ {w : List W} {d : List PyData}, Dns st w d → ∀ {f : Nat}, PyData.depthAll d < f → w.mapM (Mx.toD st f) = some d
  | _, _, .nil, f, h => by rw [List.mapM_nil]; rfl
  | _, _, .cons (w := w) (d := d) (ws := ws) (ds := ds) t ts, f, h => by
    have h' : max (PyData.depth d) (PyData.depthAll ds) < f := h
    rw [List.mapM_cons, Dn.toD t (by omega), Dns.toD ts (by omega)]; rfl
end
theorem eq_data {w u : W} {d e : PyData} (hw : Dn st w d) (hu : Dn st u e) (ld : Lay 60 d) (le : Lay 60 e) : eqW st w u = some (PyData.eqv d e) := by
  unfold eqW
  rw [hw.toD (f := 64) (by have := ld.2; omega), hu.toD (f := 64) (by have := le.2; omega)]
  have s1 : SeqAt.shaped d = true := by unfold SeqAt.shaped; rw [ld.1, decide_eq_true (by have := ld.2; omega)]; rfl
  have s2 : SeqAt.shaped e = true := by unfold SeqAt.shaped; rw [le.1, decide_eq_true (by have := le.2; omega)]; rfl
  show (if SeqAt.shaped d = true ∧ SeqAt.shaped e = true then some (PyData.eqv d e) else none) = _
  rw [if_pos ⟨s1, s2⟩]
theorem c_eqD {w u : W} {d e : PyData} (hw : Dn st w d) (hu : Dn st u e) (ld : Lay 60 d) (le : Lay 60 e) : cmpR .Eq w u st = .ok (PyData.eqv d e) st := by
  show ofOpt (eqW st w u) st = _
  rw [eq_data hw hu ld le]; rfl
theorem c_neD {w u : W} {d e : PyData} (hw : Dn st w d) (hu : Dn st u e) (ld : Lay 60 d) (le : Lay 60 e) : cmpR .NotEq w u st = .ok (!PyData.eqv d e) st := by
  show ofOpt ((eqW st w u).map (!·)) st = _
  rw [eq_data hw hu ld le]; rfl
theorem eqv_nil (ds : List PyData) : PyData.eqv (.list ds) (.list []) = ds.isEmpty := by cases ds <;> rfl
end

/-- a comprehension with an invariant -/
theorem lc_inv {body : W → Loc → Store → R (Option W)} {it : Iter} {ρ : Loc} {Inv : Nat → List W → Store → Prop} {n : Nat} (hs : ∀ i acc st, Inv i acc st → acc.length ≤ 1000) (h : ∀ i acc st, i < n → Inv i acc st → ∃ w st', it.get st i = some (some w) ∧ ((∃ u, body w ρ st = .ok (some u) st' ∧ Inv (i + 1) (acc ++ [u]) st') ∨ (body w ρ st = .ok none st' ∧ Inv (i + 1) acc st')))
    (he : ∀ acc st, Inv n acc st → it.get st n = some none) : ∀ m i acc st, n ≤ m + i → i ≤ n → Inv i acc st → ∃ us st', lcLoop body it ρ m i acc st = .ok us st' ∧ Inv n us st' := by
  intro m
  induction m with
  | zero =>
    intro i acc st hm hi hI
    have e : i = n := by omega
    subst e
    exact ⟨acc, st, by rw [lcLoop, he acc st hI], hI⟩
  | succ m ih =>
    intro i acc st hm hi hI
    by_cases e : i = n
    · subst e
      exact ⟨acc, st, by rw [lcLoop, he acc st hI], hI⟩
    · obtain ⟨w, st1, hg, hb⟩ := h i acc st (by omega) hI
      have hz := hs _ _ _ hI
      rcases hb with ⟨u, hb, hI1⟩ | ⟨hb, hI1⟩
      · obtain ⟨us, st2, h2, hI2⟩ := ih (i + 1) (acc ++ [u]) st1 (by omega) (by omega) hI1
        refine ⟨us, st2, ?_, hI2⟩
        rw [lcLoop, hg]
        simp only [hb]
        rw [if_pos (by rw [sizeLine_eq]; omega)]
        exact h2
      · obtain ⟨us, st2, h2, hI2⟩ := ih (i + 1) acc st1 (by omega) (by omega) hI1
        refine ⟨us, st2, ?_, hI2⟩
        rw [lcLoop, hg]
        simp only [hb]
        exact h2
end Mx

/-! Fractions in lowest terms. -/
namespace Mx
open PySem L2
@[simp] theorem abs' (i : Int) (st : Store) : biW .abs [.int i] st = .ok (.int i.natAbs) st := by
  show R.ok (W.int (if i < 0 then -i else i)) st = _
  congr 2
  split <;> omega
/-- the fraction in lowest terms -/
def fg (t b : Int) : Int := if b < 0 then -(Int.gcd t b : Int) else Int.gcd t b
def fw (t b : Int) : W := .tup [.int t, .int b]
def fr (t b : Int) : W := fw (t.fdiv (fg t b)) (b.fdiv (fg t b))

theorem gcd_pos {t b : Int} (hb : b ≠ 0) : 0 < Int.gcd t b := Nat.pos_of_ne_zero fun e => hb (Int.gcd_eq_zero_iff.mp e).2
theorem gcd_sm {t b : Int} (hb : b ≠ 0) {n : Nat} (h : Sm n b) : Sm n (Int.gcd t b) := by
  unfold Sm at *
  have : Int.gcd t b ≤ b.natAbs := Nat.le_of_dvd (by omega) (Int.gcd_dvd_natAbs_right t b)
  simp
  omega
theorem fg_ne {t b : Int} (hb : b ≠ 0) : fg t b ≠ 0 := by
  have := gcd_pos (t := t) hb
  unfold fg
  split <;> omega
theorem fg_log {t b : Int} (hb : b ≠ 0) {n : Nat} (h : Sm n b) (hn : n ≤ 8990) : (fg t b).natAbs.log2 < 9000 := by
  have h1 : Sm n (fg t b) := by
    unfold fg
    split
    · exact (gcd_sm hb h).neg
    · exact gcd_sm hb h
  have := h1.log
  omega
theorem eq_fw (a b c d : Int) (st : Store) : cmpR .Eq (fw a b) (fw c d) st = .ok (decide (a = c) && decide (b = d)) st := by
  show ofOpt (some (PyData.eqv (.tuple [.int a, .int b]) (.tuple [.int c, .int d]))) st = _
  have : PyData.eqv (.tuple [.int a, .int b]) (.tuple [.int c, .int d]) = (decide (a = c) && decide (b = d)) := by
    show (PyData.eqv (.int a) (.int c) && (PyData.eqv (.int b) (.int d) && true)) = _
    rw [eqI, eqI, Bool.and_true]
  rw [this]; rfl
theorem low_sm {t b : Int} (hb : 0 < b) {n : Nat} (ht : Sm n t) (h : Sm n b) : ∃ x y : Int, fr t b = fw x y ∧ 0 < y ∧ Sm n x ∧ Sm n y := by
  have g := gcd_pos (t := t) (b := b) (by omega)
  have eg : fg t b = Int.gcd t b := if_neg (by omega)
  have e1 : t.fdiv (fg t b) = t / (Int.gcd t b : Int) := by rw [eg, Int.fdiv_eq_ediv_of_nonneg _ (by omega)]
  have e2 : b.fdiv (fg t b) = b / (Int.gcd t b : Int) := by rw [eg, Int.fdiv_eq_ediv_of_nonneg _ (by omega)]
  refine ⟨t / (Int.gcd t b : Int), b / (Int.gcd t b : Int), by unfold fr; rw [e1, e2], ?_, ?_, ?_⟩
  · exact Int.ediv_pos_of_pos_of_dvd hb (by omega) (Int.gcd_dvd_right t b)
  · unfold Sm at *
    have := Int.natAbs_ediv_le_natAbs t (Int.gcd t b : Int)
    omega
  · unfold Sm at *
    have := Int.natAbs_ediv_le_natAbs b (Int.gcd t b : Int)
    omega

/-- an item of a list whose length is known -/
theorem pickN {l : List W} {n : Nat} (hl : l.length = n) {q : Int} (h0 : 0 ≤ q) (h1 : q < n) : ∃ w, w ∈ l ∧ atI l q = some w := by
  obtain ⟨m, rfl⟩ := Int.eq_ofNat_of_zero_le h0
  refine ⟨l[m]'(by omega), List.getElem_mem _, ?_⟩
  rw [atI_nat]
  exact List.getElem?_eq_getElem _
/-- is it a fraction in lowest terms? -/
def numB : PyData → Bool
  | .tuple [.int a, .int b] => decide (1 ≤ b) && decide (Int.gcd a b = 1)
  | _ => false
/-- asked by reckoning again -/
theorem low_iff {a b : Int} (hb : 1 ≤ b) : (decide (a.fdiv (fg a b) = a) && decide (b.fdiv (fg a b) = b)) = decide (Int.gcd a b = 1) := by
  have g := gcd_pos (t := a) (b := b) (by omega)
  have eg : fg a b = Int.gcd a b := if_neg (by omega)
  rw [eg, ← Bool.decide_and]
  refine decide_eq_decide.mpr ⟨fun ⟨_, h2⟩ => ?_, fun h1 => ?_⟩
  · rw [Int.fdiv_eq_ediv_of_nonneg _ (by omega)] at h2
    have := Int.ediv_mul_cancel (Int.gcd_dvd_right a b)
    rw [h2] at this
    have h3 : b * ((Int.gcd a b : Int) - 1) = 0 := by rw [Int.mul_sub, this]; omega
    rcases Int.mul_eq_zero.mp h3 with z | z <;> omega
  · rw [h1]; simp
end Mx

/-! Rows and tables of fractions. -/
namespace Mx
open PySem L2

abbrev Fr := Int × Int
def fp (x : Fr) : W := fw x.1 x.2
def lowF (t b : Int) : Fr := (t.fdiv (fg t b), b.fdiv (fg t b))
theorem fr_low (t b : Int) : fr t b = fp (lowF t b) := rfl
def addF (x y : Fr) : Fr := lowF (x.1 * y.2 + y.1 * x.2) (x.2 * y.2)
def mulF (x y : Fr) : Fr := lowF (x.1 * y.1) (x.2 * y.2)
def subF (x y : Fr) : Fr := lowF (x.1 * y.2 - y.1 * x.2) (x.2 * y.2)
theorem All2.snoc {α β : Type} {R : α → β → Prop} {as : List α} {bs : List β} {a : α} {b : β} (h : All2 R as bs) (g : R a b) : All2 R (as ++ [a]) (bs ++ [b]) := by
  induction h with
  | nil => exact .cons g .nil
  | cons h t ih => exact .cons h ih
/-- a fraction of numbers below 2 ^ n -/
def Bd (n : Nat) (x : Fr) : Prop := 0 < x.2 ∧ Sm n x.1 ∧ Sm n x.2
theorem Bd.mono {m n : Nat} {x : Fr} (h : Bd m x) (l : m ≤ n) : Bd n x := ⟨h.1, h.2.1.mono l, h.2.2.mono l⟩
theorem Bd.low {t b : Int} {n : Nat} (hb : 0 < b) (ht : Sm n t) (h : Sm n b) : Bd n (lowF t b) := by
  obtain ⟨x, y, e, h1, h2, h3⟩ := low_sm hb ht h
  have e' : fw (lowF t b).1 (lowF t b).2 = fw x y := e
  unfold fw at e'
  injection e' with e'
  injection e' with e1 e2
  injection e1 with e1
  injection e2 with e2 _
  injection e2 with e2
  unfold Bd
  rw [e1, e2]
  exact ⟨h1, h2, h3⟩
theorem Bd.add {m n : Nat} {x y : Fr} (h : Bd m x) (g : Bd n y) : Bd (m + n + 1) (addF x y) := by
  refine Bd.low (Int.mul_pos h.1 g.1) ?_ ((h.2.2.mul g.2.2).mono (by omega))
  exact ((h.2.1.mul g.2.2).add (g.2.1.mul h.2.2)).mono (by omega)
theorem Bd.sub {m n : Nat} {x y : Fr} (h : Bd m x) (g : Bd n y) : Bd (m + n + 1) (subF x y) := by
  refine Bd.low (Int.mul_pos h.1 g.1) ?_ ((h.2.2.mul g.2.2).mono (by omega))
  exact ((h.2.1.mul g.2.2).sub (g.2.1.mul h.2.2)).mono (by omega)
theorem Bd.mul {m n : Nat} {x y : Fr} (h : Bd m x) (g : Bd n y) : Bd (m + n) (mulF x y) := Bd.low (Int.mul_pos h.1 g.1) (h.2.1.mul g.2.1) (h.2.2.mul g.2.2)
theorem Bd.ne {n : Nat} {x : Fr} (h : Bd n x) : x.2 ≠ 0 := Int.ne_of_gt h.1

/-- a list of just these items -/
abbrev Is (st : Store) (q : Nat) (ws : List W) : Prop := st[q]? = some (.lst ws)
abbrev RowAt (st : Store) (q : Nat) (xs : List Fr) : Prop := Is st q (xs.map fp)
/-- a new list -/
structure New (st st' : Store) (q : Nat) (ws : List W) : Prop where
  gr : Gr st st'
  new : st.length ≤ q
  at_ : Is st' q ws
structure TabAt (st : Store) (p : Nat) (qs : List Nat) (M : List (List Fr)) : Prop where
  at_ : Is st p (qs.map W.ref)
  rows : All2 (RowAt st) qs M
structure NewTab (st st' : Store) (p : Nat) (qs : List Nat) (M : List (List Fr)) : Prop where
  gr : Gr st st'
  new : st.length ≤ p
  tab : TabAt st' p qs M
  nd : qs.Nodup
  no : p ∉ qs
  big : ∀ q ∈ qs, st.length ≤ q
theorem lt_of_is {st : Store} {q : Nat} {ws : List W} (h : Is st q ws) : q < st.length := (List.getElem?_eq_some_iff.mp h).1
theorem Gr.len {st st' : Store} (g : Gr st st') : st.length ≤ st'.length := by
  obtain ⟨ex, rfl⟩ := g
  simp
theorem TabAt.gr {st st' : Store} {p : Nat} {qs : List Nat} {M : List (List Fr)} (h : TabAt st p qs M) (g : Gr st st') : TabAt st' p qs M := ⟨g.get h.at_, h.rows.imp fun _ _ _ _ r => g.get r⟩

/-! ### walks -/
def rngW (lo : Int) (n : Nat) : List W := (List.range n).map fun i => .int (lo + (i : Nat))
theorem tells_rng (st : Store) (lo : Int) (n : Nat) : Tells (.rng lo n) st (rngW lo n) := by
  intro st' _ i
  show some (if i < n then _ else _) = _
  unfold rngW
  by_cases h : i < n
  · rw [if_pos h]; simp [h]
  · rw [if_neg h]; simp [h]
theorem tells_zip {st : Store} {n m l : Nat} {ws us : List W} (h : Is st n ws) (g : Is st m us) : Tells (.zip n m l) st (List.zipWith (fun w u => .tup [w, u]) ws us) := by
  intro st' gr i
  show (match lstAt st' n, lstAt st' m with | some ws, some us => _ | _, _ => none) = _
  rw [lst_at, lst_at, gr.get h, gr.get g]
  simp only [lstC_lst, List.getElem?_zipWith]
  cases ws[i]? <;> cases us[i]? <;> rfl
@[simp] theorem most_zip (n m l : Nat) : Iter.most (.zip n m l) = l := id rfl
def zipC : Option (List W) → Option (List W) → Nat → Nat → Option Iter
  | some ws, some us, n, m => some (.zip n m (min ws.length us.length))
  | _, _, _, _ => none
@[simp] theorem zip_ref {st : Store} (n m : Nat) : zipI st (.ref n) (.ref m) = zipC (lstC st[n]?) (lstC st[m]?) n m := by
  rw [← lst_at, ← lst_at]
  show (match lstAt st n, lstAt st m with | some ws, some us => some (Iter.zip n m (min ws.length us.length)) | _, _ => none) = _
  cases lstAt st n <;> cases lstAt st m <;> rfl
@[simp] theorem zipC_lst (ws us : List W) (n m : Nat) : zipC (some ws) (some us) n m = some (.zip n m (min ws.length us.length)) := id rfl

/-- a comprehension: item by item -/
theorem lc_list {body : W → Loc → Store → R (Option W)} {it : Iter} {ρ : Loc} {ws us : List W} {st : Store} (ht : Tells it st ws) (h : All2 (fun w u => ∀ st', Gr st st' → ∃ st'', body w ρ st' = .ok (some u) st'' ∧ Gr st' st'') ws us) (hl : ws.length ≤ 1000) (hm : ws.length ≤ it.most) :
    ∃ q st2, ((lcLoop body it ρ it.most 0 [] st).bind fun ws st => newLst ws st) = .ok (.ref q) st2 ∧ New st st2 q us := by
  obtain ⟨vs, st2, h1, g, hi, e⟩ := lc_inv (it := it) (body := body) (ρ := ρ) (n := ws.length) (Inv := fun i acc st' => Gr st st' ∧ i ≤ ws.length ∧ acc = us.take i)
    (fun i acc st' h => by rw [h.2.2, List.length_take]; have := h.2.1; omega)
    (fun i acc st' hi ⟨g, hi', e⟩ => by
      obtain ⟨w, ew⟩ : ∃ w, ws[i]? = some w := ⟨_, List.getElem?_eq_getElem hi⟩
      obtain ⟨u, eu, hb⟩ := h.get ew
      obtain ⟨st'', hb, g'⟩ := hb st' g
      refine ⟨w, st'', by rw [ht st' g i, ew], .inl ⟨u, hb, g.trans g', by omega, ?_⟩⟩
      rw [e, List.take_add_one, eu]; rfl)
    (fun acc st' ⟨g, _, _⟩ => by rw [ht st' g, List.getElem?_eq_none_iff.mpr (Nat.le_refl _)]) it.most 0 [] st (by omega) (by omega) ⟨.refl _, by omega, rfl⟩
  have e2 : vs = us := by rw [e, h.len, List.take_length]
  subst e2
  have hlen := h.len
  refine ⟨st2.length, st2 ++ [.lst vs], ?_, g.trans (Gr.app _ _), g.len, get_last⟩
  rw [h1]
  exact new_lst (by omega)
/-- a comprehension of new rows -/
theorem lc_rows {body : W → Loc → Store → R (Option W)} {it : Iter} {ρ : Loc} {ws : List W} {M : List (List Fr)} {st : Store} (ht : Tells it st ws) (h : All2 (fun w xs => ∀ st', Gr st st' → ∃ q st'', body w ρ st' = .ok (some (.ref q)) st'' ∧ New st' st'' q (xs.map fp)) ws M) (hl : ws.length ≤ 1000) (hm : ws.length ≤ it.most) :
    ∃ p qs st2, ((lcLoop body it ρ it.most 0 [] st).bind fun ws st => newLst ws st) = .ok (.ref p) st2 ∧ NewTab st st2 p qs M := by
  obtain ⟨vs, st2, h1, g, hi, qs, e, e2, nd, big⟩ := lc_inv (it := it) (body := body) (ρ := ρ) (n := ws.length) (Inv := fun i acc st' => Gr st st' ∧ i ≤ ws.length ∧ ∃ qs : List Nat, acc = qs.map W.ref ∧ All2 (RowAt st') qs (M.take i) ∧ qs.Nodup ∧ ∀ q ∈ qs, st.length ≤ q ∧ q < st'.length)
    (fun i acc st' h => by
      obtain ⟨_, hi, qs, e, a, _⟩ := h
      have := a.len
      rw [List.length_take] at this
      rw [e, List.length_map]; omega)
    (fun i acc st' hi ⟨g, hi', qs, e, a, nd, big⟩ => by
      obtain ⟨w, ew⟩ : ∃ w, ws[i]? = some w := ⟨_, List.getElem?_eq_getElem hi⟩
      obtain ⟨xs, eu, hb⟩ := h.get ew
      obtain ⟨q, st'', hb, N⟩ := hb st' g
      refine ⟨w, st'', by rw [ht st' g i, ew], .inl ⟨.ref q, hb, g.trans N.gr, by omega, qs ++ [q], by simp [e], ?_, ?_, ?_⟩⟩
      · rw [List.take_add_one, eu]
        have a' := a.imp (R' := RowAt st'') fun _ _ _ _ r => N.gr.get r
        exact a'.snoc N.at_
      · rw [List.nodup_append]
        refine ⟨nd, by simp, fun x hx y hy => ?_⟩
        rw [List.mem_singleton] at hy
        have := (big x hx).2
        have := N.new
        omega
      · intro x hx
        rcases List.mem_append.mp hx with z | z
        · have := big x z; have := N.gr.len; omega
        · rw [List.mem_singleton] at z
          subst z
          have := N.new; have := g.len; have := lt_of_is N.at_
          omega)
    (fun acc st' ⟨g, _⟩ => by rw [ht st' g, List.getElem?_eq_none_iff.mpr (Nat.le_refl _)]) it.most 0 [] st (by omega) (by omega) ⟨.refl _, by omega, [], rfl, by rw [List.take_zero]; exact .nil, by simp, by simp⟩
  have hlen := h.len
  rw [hlen, List.take_length] at e2
  have hq := e2.len
  refine ⟨st2.length, qs, st2 ++ [.lst vs], ?_, g.trans (Gr.app _ _), g.len, ⟨by rw [e]; exact get_last, e2.imp fun _ _ _ _ r => get_more r⟩, nd, fun hm => by have := (big _ hm).2; omega, fun q hq => (big q hq).1⟩
  rw [h1]
  exact new_lst (by rw [e, List.length_map]; omega)

/-! ### data -/
/-- all below 2 ^ n -/
def RB (n : Nat) (xs : List Fr) : Prop := ∀ x ∈ xs, Bd n x
def TB (n : Nat) (M : List (List Fr)) : Prop := ∀ xs ∈ M, RB n xs
theorem RB.mono {m n : Nat} {xs : List Fr} (h : RB m xs) (l : m ≤ n) : RB n xs := fun x hx => (h x hx).mono l
theorem TB.mono {m n : Nat} {M : List (List Fr)} (h : TB m M) (l : m ≤ n) : TB n M := fun x hx => (h x hx).mono l
theorem all2_map {α β γ : Type} {R : β → γ → Prop} {f : α → β} {g : α → γ} : ∀ {xs : List α}, (∀ x ∈ xs, R (f x) (g x)) → All2 R (xs.map f) (xs.map g)
  | [], _ => .nil
  | x :: xs, h => .cons (h x (by simp)) (all2_map fun y hy => h y (by simp [hy]))
theorem all2_of {α β : Type} {R : α → β → Prop} {g : α → β} : ∀ {xs : List α}, (∀ x ∈ xs, R x (g x)) → All2 R xs (xs.map g)
  | [], _ => .nil
  | x :: xs, h => .cons (h x (by simp)) (all2_of fun y hy => h y (by simp [hy]))
theorem all2_zip {α β γ δ : Type} {R : γ → δ → Prop} {a : α → W} {b : β → W} {f : W → W → γ} {g : α → β → δ} : ∀ {xs : List α} {ys : List β}, (∀ x ∈ xs, ∀ y ∈ ys, R (f (a x) (b y)) (g x y)) → All2 R (List.zipWith f (xs.map a) (ys.map b)) (List.zipWith g xs ys)
  | [], _, _ => by simp; exact .nil
  | _ :: _, [], _ => by simp; exact .nil
  | x :: xs, y :: ys, h => by
    simp only [List.map_cons, List.zipWith_cons_cons]
    exact .cons (h x (by simp) y (by simp)) (all2_zip fun x' hx y' hy => h x' (by simp [hx]) y' (by simp [hy]))
theorem zip_map {α β γ : Type} (g : α → β → γ) (h : γ → W) (xs : List α) (ys : List β) : (List.zipWith g xs ys).map h = List.zipWith (fun x y => h (g x y)) xs ys := by rw [List.map_zipWith]
/-- a table's rows side by side -/
theorem all2_rows {st : Store} {R : W → List Fr → Prop} {f : W → W → W} {g : List Fr → List Fr → List Fr} : ∀ {qs : List Nat} {M : List (List Fr)} {rs : List Nat} {L : List (List Fr)}, All2 (RowAt st) qs M → All2 (RowAt st) rs L → (∀ q xs r ys, xs ∈ M → ys ∈ L → RowAt st q xs → RowAt st r ys → R (f (.ref q) (.ref r)) (g xs ys)) → All2 R (List.zipWith f (qs.map W.ref) (rs.map W.ref)) (List.zipWith g M L)
  | _, _, _, _, .nil, _, _ => by simp; exact .nil
  | _, _, _, _, .cons _ _, .nil, _ => by simp; exact .nil
  | _, _, _, _, .cons h t, .cons h' t', H => by
    simp only [List.map_cons, List.zipWith_cons_cons]
    exact .cons (H _ _ _ _ (by simp) (by simp) h h') (all2_rows t t' fun q xs r ys hx hy a b => H q xs r ys (by simp [hx]) (by simp [hy]) a b)
theorem all2_tab {st : Store} {R : W → List Fr → Prop} {g : List Fr → List Fr} : ∀ {qs : List Nat} {M : List (List Fr)}, All2 (RowAt st) qs M → (∀ q xs, xs ∈ M → RowAt st q xs → R (.ref q) (g xs)) → All2 R (qs.map W.ref) (M.map g)
  | _, _, .nil, _ => .nil
  | _, _, .cons h t, H => .cons (H _ _ (by simp) h) (all2_tab t fun q xs hx a => H q xs (by simp [hx]) a)
theorem all2_tab2 {β : Type} {st : Store} {R : W → β → Prop} {g : List Fr → β} : ∀ {qs : List Nat} {M : List (List Fr)}, All2 (RowAt st) qs M → (∀ q xs, xs ∈ M → RowAt st q xs → R (.ref q) (g xs)) → All2 R (qs.map W.ref) (M.map g)
  | _, _, .nil, _ => .nil
  | _, _, .cons h t, H => .cons (H _ _ (by simp) h) (all2_tab2 t fun q xs hx a => H q xs (by simp [hx]) a)
theorem all2_ix {α β : Type} {R : α → β → Prop} : ∀ {as : List α} {bs : List β}, as.length = bs.length → (∀ (j : Nat) (a : α), as[j]? = some a → ∀ b : β, bs[j]? = some b → R a b) → All2 R as bs
  | [], [], _, _ => .nil
  | [], _ :: _, h, _ => by simp at h
  | _ :: _, [], h, _ => by simp at h
  | a :: as, b :: bs, h, H => .cons (H 0 a rfl b rfl) (all2_ix (by simpa using h) fun j x hx y hy => H (j + 1) x (by simpa using hx) y (by simpa using hy))
/-- so weighs a row -/
def wF (xs ys : List Fr) : Fr := (List.zip xs ys).foldl (fun t p => addF t (mulF p.1 p.2)) (0, 1)

theorem op_rep' {st : Store} {n w : Nat} {ws : List W} (h : Is st n ws) (hl : ws.length ≤ 100) (hw : w ≤ 100) : opBin .Mult (.ref n) (.int w) st = newLst (List.replicate w ws).flatten st := by
  have e : lstAt st n = some ws := by rw [lst_at, h]; rfl
  have hm := Nat.mul_le_mul hl hw
  show (match lstAt st n with | some x => _ | none => _) = _
  rw [e]
  show (if -(2 ^ 63) ≤ (w : Int) ∧ (w : Int) < 2 ^ 63 ∧ ws.length * (w : Int).toNat ≤ sizeLine then _ else _) = _
  rw [if_pos ⟨by omega, by omega, by rw [sizeLine_eq, Int.toNat_natCast]; omega⟩, Int.toNat_natCast]
theorem rep_one (w : Nat) (x : W) : (List.replicate w [x]).flatten = List.replicate w x := by
  induction w with
  | zero => rfl
  | succ w ih => rw [List.replicate_succ, List.flatten_cons, ih]; rfl
/-- a cell of the list that is new is written -/
theorem Gr.set {a b : Store} (g : Gr a b) {i : Nat} (h : a.length ≤ i) (c : Cell) : Gr a (b.set i c) := by
  obtain ⟨ex, rfl⟩ := g
  exact ⟨ex.set (i - a.length) c, by rw [List.set_append_right _ _ h]⟩
theorem is_set {st : Store} {p q : Nat} {ws us : List W} (h : Is st q ws) (hne : q ≠ p) : Is (st.set p (.lst us)) q ws := by
  show (st.set p (.lst us))[q]? = _
  rw [List.getElem?_set_ne (Ne.symm hne)]; exact h
theorem is_set_same {st : Store} {p : Nat} {ws us : List W} (h : Is st p ws) : Is (st.set p (.lst us)) p us := by
  show (st.set p (.lst us))[p]? = _
  exact List.getElem?_set_self (lt_of_is h)

/-! ### tables as data -/
def dF (x : Fr) : PyData := .tuple [.int x.1, .int x.2]
def dR (xs : List Fr) : PyData := .list (xs.map dF)
def dT (M : List (List Fr)) : PyData := .list (M.map dR)
theorem fp_dn (st : Store) (x : Fr) : Dn st (fp x) (dF x) := .tup (.cons (.int _) (.cons (.int _) .nil))
theorem fps_dn (st : Store) : ∀ xs : List Fr, Dns st (xs.map fp) (xs.map dF)
  | [] => .nil
  | x :: xs => .cons (fp_dn st x) (fps_dn st xs)
theorem row_dn {st : Store} {q : Nat} {xs : List Fr} (h : RowAt st q xs) : Dn st (.ref q) (dR xs) := .lst h (fps_dn st xs)
theorem rows_dn {st : Store} : ∀ {qs : List Nat} {M : List (List Fr)}, All2 (RowAt st) qs M → Dns st (qs.map W.ref) (M.map dR)
  | _, _, .nil => .nil
  | _, _, .cons h t => .cons (row_dn h) (rows_dn t)
theorem TabAt.dn {st : Store} {p : Nat} {qs : List Nat} {M : List (List Fr)} (h : TabAt st p qs M) : Dn st (.ref p) (dT M) := .lst h.at_ (rows_dn h.rows)
theorem lay_dF (x : Fr) : Lay 1 (dF x) := lay_tuple (k := 0) (by intro d hd; simp at hd; rcases hd with e | e <;> subst e <;> exact lay_int _)
theorem lay_dR (xs : List Fr) : Lay 2 (dR xs) := lay_list (by intro d hd; obtain ⟨x, _, rfl⟩ := List.mem_map.mp hd; exact lay_dF x)
theorem lay_dT (M : List (List Fr)) : Lay 3 (dT M) := lay_list (by intro d hd; obtain ⟨x, _, rfl⟩ := List.mem_map.mp hd; exact lay_dR x)
theorem eqv_dF (x : Fr) : PyData.eqv (dF x) (dF x) = true := by
  show (PyData.eqv (.int x.1) (.int x.1) && (PyData.eqv (.int x.2) (.int x.2) && true)) = true
  rw [eqI, eqI]; simp
theorem eqvAll_map {α : Type} {f : α → PyData} (h : ∀ x, PyData.eqv (f x) (f x) = true) : ∀ xs : List α, PyData.eqvAll (xs.map f) (xs.map f) = true
  | [] => rfl
  | x :: xs => by
    show (PyData.eqv (f x) (f x) && PyData.eqvAll (xs.map f) (xs.map f)) = true
    rw [h, eqvAll_map h xs]; rfl
theorem eqv_dR (xs : List Fr) : PyData.eqv (dR xs) (dR xs) = true := eqvAll_map eqv_dF xs
theorem eqv_dT (M : List (List Fr)) : PyData.eqv (dT M) (dT M) = true := eqvAll_map eqv_dR M
/-- of whole numbers, tuples and lists, so deep -/
inductive Sk : Nat → PyData → Prop where
  | int {k : Nat} (i : Int) : Sk k (.int i)
  | tup {k : Nat} {ds : List PyData} (h : ∀ d ∈ ds, Sk k d) : Sk (k + 1) (.tuple ds)
  | lst {k : Nat} {ds : List PyData} (h : ∀ d ∈ ds, Sk k d) : Sk (k + 1) (.list ds)
theorem sk_dF (x : Fr) : Sk 1 (dF x) := .tup (by intro d hd; simp at hd; rcases hd with e | e <;> subst e <;> exact .int _)
theorem sk_dR (xs : List Fr) : Sk 2 (dR xs) := .lst (by intro d hd; obtain ⟨x, _, rfl⟩ := List.mem_map.mp hd; exact sk_dF x)
theorem sk_dT (M : List (List Fr)) : Sk 3 (dT M) := .lst (by intro d hd; obtain ⟨x, _, rfl⟩ := List.mem_map.mp hd; exact sk_dR x)
theorem tells_zipT (st : Store) (ws us : List W) : Tells (.zipT ws us) st (List.zipWith (fun w u => .tup [w, u]) ws us) := by
  intro st' gr i
  show some (match ws[i]?, us[i]? with | some w, some u => _ | _, _ => none) = _
  rw [List.getElem?_zipWith]
  cases ws[i]? <;> cases us[i]? <;> rfl
@[simp] theorem most_zipT (ws us : List W) : Iter.most (.zipT ws us) = ws.length := id rfl
@[simp] theorem zip_tup (st : Store) (ws us : List W) : zipI st (.tup ws) (.tup us) = some (.zipT ws us) := id rfl

theorem cut_last (ys : List W) (x : W) : cutW (ys ++ [x]) none (some (-1)) = ys := by
  unfold cutW
  rw [HT.sIx_none]
  have e : HT.sIx (ys ++ [x]).length (ys ++ [x]).length (some (-1)) - 0 = ys.length := by
    unfold HT.sIx
    simp only []
    rw [if_pos (by decide), List.length_append, List.length_singleton]
    omega
  rw [e]
  simp
theorem clear_lst {st : Store} {n : Nat} {ws : List W} (h : Is st n ws) : bmW .clear (.ref n) [] st = .ok .non (st.set n (.lst [])) := by
  have e : lstAt st n = some ws := by rw [lst_at, h]; rfl
  unfold bmW
  simp only [e]

/-- a comprehension of values of which the data is known -/
theorem lc_dn {body : W → Loc → Store → R (Option W)} {it : Iter} {ρ : Loc} {ws : List W} {ds : List PyData} {st : Store} (ht : Tells it st ws) (h : All2 (fun w d => ∀ st', Gr st st' → ∃ u st'', body w ρ st' = .ok (some u) st'' ∧ Gr st' st'' ∧ Dn st'' u d) ws ds) (hl : ws.length ≤ 1000) (hm : ws.length ≤ it.most) :
    ∃ q st2, ((lcLoop body it ρ it.most 0 [] st).bind fun ws st => newLst ws st) = .ok (.ref q) st2 ∧ Gr st st2 ∧ Dn st2 (.ref q) (.list ds) := by
  obtain ⟨vs, st2, h1, g, hi, e⟩ := lc_inv (it := it) (body := body) (ρ := ρ) (n := ws.length) (Inv := fun i acc st' => Gr st st' ∧ i ≤ ws.length ∧ All2 (Dn st') acc (ds.take i))
    (fun i acc st' h => by
      have := h.2.2.len
      rw [List.length_take] at this
      have := h.2.1
      omega)
    (fun i acc st' hi ⟨g, hi', e⟩ => by
      obtain ⟨w, ew⟩ : ∃ w, ws[i]? = some w := ⟨_, List.getElem?_eq_getElem hi⟩
      obtain ⟨d, eu, hb⟩ := h.get ew
      obtain ⟨u, st'', hb, g', hd⟩ := hb st' g
      refine ⟨w, st'', by rw [ht st' g i, ew], .inl ⟨u, hb, g.trans g', by omega, ?_⟩⟩
      rw [List.take_add_one, eu]
      exact (e.imp fun _ _ _ _ r => r.gr g').snoc hd)
    (fun acc st' ⟨g, _, _⟩ => by rw [ht st' g, List.getElem?_eq_none_iff.mpr (Nat.le_refl _)]) it.most 0 [] st (by omega) (by omega) ⟨.refl _, by omega, by rw [List.take_zero]; exact .nil⟩
  have hlen := h.len
  rw [hlen, List.take_length] at e
  have hv := e.len
  refine ⟨st2.length, st2 ++ [.lst vs], ?_, g.trans (Gr.app _ _), .lst get_last (.of (e.imp fun _ _ _ _ r => r.gr (Gr.app _ _)))⟩
  rw [h1]
  exact new_lst (by omega)
theorem cut_nat {α : Type} (ws : List α) {l h : Nat} (h1 : l ≤ h) (h2 : h ≤ ws.length) : cutW ws (some (l : Int)) (some (h : Int)) = (ws.drop l).take (h - l) := by
  unfold cutW
  rw [HT.sIx_nat, HT.sIx_nat]
  simp only [Nat.min_eq_left h2, Nat.min_eq_left (Nat.le_trans h1 h2)]
end Mx

/-! Fractions in lowest terms are the rational numbers. -/
namespace Mx
open PySem L2

def ofR (q : Rat) : Fr := (q.num, (q.den : Int))
theorem ofR_inj {p q : Rat} (h : ofR p = ofR q) : p = q := by
  unfold ofR at h
  injection h with h1 h2
  exact Rat.ext h1 (by exact_mod_cast h2)
theorem low_div (t b : Int) (hb : b ≠ 0) : lowF t b = ofR (Rat.divInt t b) := by
  have g := gcd_pos (t := t) hb
  have d1 : ((Int.gcd t b : Nat) : Int) ∣ t := Int.gcd_dvd_left t b
  have d2 : ((Int.gcd t b : Nat) : Int) ∣ b := Int.gcd_dvd_right t b
  unfold lowF ofR
  rw [Rat.num_divInt, Rat.den_divInt, if_neg hb, Int.gcd_comm b t]
  have gp : ((Int.gcd t b : Nat) : Int) ≠ 0 := by omega
  by_cases h : b < 0
  · have eg : fg t b = -((Int.gcd t b : Nat) : Int) := if_pos h
    rw [eg, Int.fdiv_eq_ediv_of_dvd (Int.neg_dvd.mpr d1), Int.fdiv_eq_ediv_of_dvd (Int.neg_dvd.mpr d2), Int.ediv_neg, Int.ediv_neg, Int.sign_eq_neg_one_of_neg h]
    have e1 : (-1 * t) / ((Int.gcd t b : Nat) : Int) = -(t / ((Int.gcd t b : Nat) : Int)) := by
      rw [Int.neg_one_mul, Int.neg_ediv_of_dvd d1]
    have e2 : -(b / ((Int.gcd t b : Nat) : Int)) = ((b.natAbs / Int.gcd t b : Nat) : Int) := by
      rw [← Int.neg_ediv_of_dvd d2, Int.natCast_ediv]
      congr 1
      omega
    rw [e1, e2]
  · have eg : fg t b = ((Int.gcd t b : Nat) : Int) := if_neg h
    rw [eg, Int.fdiv_eq_ediv_of_dvd d1, Int.fdiv_eq_ediv_of_dvd d2, Int.sign_eq_one_of_pos (by omega), Int.one_mul]
    have e2 : b / ((Int.gcd t b : Nat) : Int) = ((b.natAbs / Int.gcd t b : Nat) : Int) := by
      rw [Int.natCast_ediv]
      congr 1
      omega
    rw [e2]
theorem add_R (p q : Rat) : addF (ofR p) (ofR q) = ofR (p + q) := by
  have h1 : (p.den : Int) ≠ 0 := by exact_mod_cast p.den_nz
  have h2 : (q.den : Int) ≠ 0 := by exact_mod_cast q.den_nz
  show lowF (p.num * q.den + q.num * p.den) (p.den * q.den) = _
  rw [low_div _ _ (Int.mul_ne_zero h1 h2), Rat.add_def', ← Rat.divInt_ofNat]
  congr 2
theorem sub_R (p q : Rat) : subF (ofR p) (ofR q) = ofR (p - q) := by
  have h1 : (p.den : Int) ≠ 0 := by exact_mod_cast p.den_nz
  have h2 : (q.den : Int) ≠ 0 := by exact_mod_cast q.den_nz
  show lowF (p.num * q.den - q.num * p.den) (p.den * q.den) = _
  rw [low_div _ _ (Int.mul_ne_zero h1 h2), Rat.sub_def', ← Rat.divInt_ofNat]
  congr 2
theorem mul_R (p q : Rat) : mulF (ofR p) (ofR q) = ofR (p * q) := by
  have h1 : (p.den : Int) ≠ 0 := by exact_mod_cast p.den_nz
  have h2 : (q.den : Int) ≠ 0 := by exact_mod_cast q.den_nz
  show lowF (p.num * q.num) (p.den * q.den) = _
  rw [low_div _ _ (Int.mul_ne_zero h1 h2), Rat.mul_def', ← Rat.divInt_ofNat]
  congr 2
def divF (x y : Fr) : Fr := lowF (x.1 * y.2) (x.2 * y.1)
theorem div_R (p q : Rat) (hq : q ≠ 0) : divF (ofR p) (ofR q) = ofR (p / q) := by
  have h1 : (p.den : Int) ≠ 0 := by exact_mod_cast p.den_nz
  have h2 : q.num ≠ 0 := fun e => hq (Rat.num_eq_zero.mp e)
  show lowF (p.num * q.den) (p.den * q.num) = _
  rw [low_div _ _ (Int.mul_ne_zero h1 h2), ← Rat.divInt_mul_divInt, Rat.num_divInt_den, Rat.div_def]
  congr 2
  rw [← Rat.inv_divInt, Rat.num_divInt_den]
theorem inv_R (q : Rat) (hq : q ≠ 0) : lowF (ofR q).2 (ofR q).1 = ofR q⁻¹ := by
  have h2 : q.num ≠ 0 := fun e => hq (Rat.num_eq_zero.mp e)
  show lowF q.den q.num = _
  rw [low_div _ _ h2, ← Rat.inv_divInt, Rat.num_divInt_den]
example (a b c : Rat) (h : b ≠ 0) : a - a / b * b = 0 := by grind
example (a b c d : Rat) (h : b ≠ 0) (h2 : c ≠ 0) : a * (b * c) * (1 / (a * 1 * b)) = c ∨ a = 0 := by grind
end Mx

/-! Rows and tables of rational numbers; loops that may end by a return. -/
namespace Mx
open PySem L2

/-! ### loops -/
/-- a while loop of at most n turns that goes on, or ends by a return -/
theorem whl_ret {test : Loc → Store → R Bool} {body : Loc → Store → Out} {Inv : Nat → Loc → Store → Prop} {End : Loc → Store → Prop} {Ret : W → Store → Prop} {n : Nat}
    (h : ∀ i ρ st, i < n → Inv i ρ st → ∃ st1, test ρ st = .ok true st1 ∧ ((∃ ρ' st', (body ρ st1 = .nx ρ' st' ∨ body ρ st1 = .ct ρ' st') ∧ Inv (i + 1) ρ' st') ∨ (∃ w st', body ρ st1 = .rt w st' ∧ Ret w st')))
    (he : ∀ ρ st, Inv n ρ st → ∃ st1, test ρ st = .ok false st1 ∧ End ρ st1) :
    ∀ {m i : Nat} {ρ : Loc} {st : Store}, n < m + i → i ≤ n → Inv i ρ st → (∃ ρ' st', whlLoop test body m ρ st = .nx ρ' st' ∧ End ρ' st') ∨ (∃ w st', whlLoop test body m ρ st = .rt w st' ∧ Ret w st') := by
  intro m
  induction m with
  | zero => intro i ρ st hm hi; omega
  | succ m ih =>
    intro i ρ st hm hi hI
    by_cases e : i = n
    · subst e
      obtain ⟨st1, ht, hE⟩ := he ρ st hI
      refine .inl ⟨ρ, st1, ?_, hE⟩
      rw [whl_step, ht]; rfl
    · obtain ⟨st1, ht, hb⟩ := h i ρ st (by omega) hI
      rcases hb with ⟨ρ', st', hb, hI'⟩ | ⟨w, st', hb, hR⟩
      · have := ih (i := i + 1) (by omega) (by omega) hI'
        have e2 : whlLoop test body (m + 1) ρ st = whlLoop test body m ρ' st' := by
          rw [whl_step, ht]
          rcases hb with hb | hb
          · show goOn _ (body ρ st1) = _
            rw [hb]; rfl
          · show goOn _ (body ρ st1) = _
            rw [hb]; rfl
        rw [e2]; exact this
      · refine .inr ⟨w, st', ?_, hR⟩
        rw [whl_step, ht]
        show goOn _ (body ρ st1) = _
        rw [hb]; rfl
/-- a for loop that goes on to its end, or ends by a return -/
theorem for_ret {body : W → Loc → Store → Out} {it : Iter} {Inv : Nat → Loc → Store → Prop} {Ret : W → Store → Prop} {n : Nat}
    (h : ∀ i ρ st, i < n → Inv i ρ st → ∃ w, it.get st i = some (some w) ∧ ((∃ ρ' st', (body w ρ st = .nx ρ' st' ∨ body w ρ st = .ct ρ' st') ∧ Inv (i + 1) ρ' st') ∨ (∃ u st', body w ρ st = .rt u st' ∧ Ret u st')))
    (he : ∀ ρ st, Inv n ρ st → it.get st n = some none) :
    ∀ {m i : Nat} {ρ : Loc} {st : Store}, n ≤ m + i → i ≤ n → Inv i ρ st → (∃ ρ' st', forLoop body it m i ρ st = .nx ρ' st' ∧ Inv n ρ' st') ∨ (∃ u st', forLoop body it m i ρ st = .rt u st' ∧ Ret u st') := by
  intro m
  induction m with
  | zero =>
    intro i ρ st hm hi hI
    have e : i = n := by omega
    subst e
    refine .inl ⟨ρ, st, ?_, hI⟩
    rw [forLoop, he ρ st hI]
  | succ m ih =>
    intro i ρ st hm hi hI
    by_cases e : i = n
    · subst e
      refine .inl ⟨ρ, st, ?_, hI⟩
      rw [forLoop, he ρ st hI]
    · obtain ⟨w, hg, hb⟩ := h i ρ st (by omega) hI
      rcases hb with ⟨ρ1, st1, hb, hI1⟩ | ⟨u, st', hb, hR⟩
      · have e2 : forLoop body it (m + 1) i ρ st = forLoop body it m (i + 1) ρ1 st1 := by
          rw [forLoop, hg]
          rcases hb with hb | hb <;> simp only [hb]
        rw [e2]
        exact ih (i := i + 1) (by omega) (by omega) hI1
      · refine .inr ⟨u, st', ?_, hR⟩
        rw [forLoop, hg]
        simp only [hb]
theorem cut_tail (x : W) (xs : List W) : cutW (x :: xs) (some 1) none = xs := by
  unfold cutW
  rw [HT.sIx_none, show (1 : Int) = ((1 : Nat) : Int) from rfl, HT.sIx_nat]
  simp
theorem cut_head {α : Type} (ws : List α) {h : Nat} (h2 : h ≤ ws.length) : cutW ws none (some (h : Int)) = ws.take h := by
  unfold cutW
  rw [HT.sIx_none, HT.sIx_nat, Nat.min_eq_left h2]
  simp
theorem pop_at0 {st : Store} {n : Nat} {w : W} {ws : List W} (h : st[n]? = some (.lst (w :: ws))) : bmW .popAt (.ref n) [.int 0] st = .ok w (st.set n (.lst ws)) := by
  have e : lstAt st n = some (w :: ws) := by rw [lst_at, h]; rfl
  have e2 : ixN (w :: ws).length 0 = some 0 := ixN_in (by omega) (by rw [List.length_cons]; omega)
  unfold bmW
  simp only [e, e2]
  rfl

theorem atI_last (ws : List W) (w : W) : atI (ws ++ [w]) (-1) = some w := by
  unfold atI ixN
  rw [if_neg (by decide), List.length_append, List.length_singleton]
  split
  · rename_i h
    simp only [Option.bind_some]
    rw [show (-1 + ((ws.length + 1 : Nat) : Int)).toNat = ws.length by omega]
    exact List.getElem?_concat_length
  · rename_i h
    exact absurd h (by omega)
/-! ### a list of one's own, made at the start -/
def Ap (st st' : Store) (ws : List W) : Prop := ∃ ex, st' = st ++ .lst ws :: ex
theorem Ap.nil (st : Store) (ws : List W) : Ap st (st ++ [.lst ws]) ws := ⟨[], rfl⟩
theorem Ap.get {st st' : Store} {ws : List W} (h : Ap st st' ws) : Is st' st.length ws := by
  obtain ⟨ex, rfl⟩ := h
  simp [Is]
theorem Ap.gr {st s t : Store} {ws : List W} (h : Ap st s ws) (g : Gr s t) : Ap st t ws := by
  obtain ⟨ex, rfl⟩ := h
  obtain ⟨ex', rfl⟩ := g
  exact ⟨ex ++ ex', by simp⟩
theorem Ap.set {st s : Store} {ws : List W} (h : Ap st s ws) (us : List W) : Ap st (s.set st.length (.lst us)) us := by
  obtain ⟨ex, rfl⟩ := h
  exact ⟨ex, by simp⟩
theorem Ap.new {st s : Store} {ws : List W} (h : Ap st s ws) : New st s st.length ws := ⟨by obtain ⟨ex, rfl⟩ := h; exact Gr.app _ _, Nat.le_refl _, h.get⟩

/-! ### rational rows -/
def fq (q : Rat) : W := fp (ofR q)
abbrev RowQ (st : Store) (q : Nat) (xs : List Rat) : Prop := Is st q (xs.map fq)
/-- so many bits -/
def BQ (n : Nat) (q : Rat) : Prop := Bd n (ofR q)
def RQ (n : Nat) (xs : List Rat) : Prop := ∀ x ∈ xs, BQ n x
def TQ (n : Nat) (M : List (List Rat)) : Prop := ∀ xs ∈ M, RQ n xs
theorem BQ.mono {m n : Nat} {q : Rat} (h : BQ m q) (l : m ≤ n) : BQ n q := Bd.mono h l
theorem BQ.add {m n : Nat} {p q : Rat} (h : BQ m p) (g : BQ n q) : BQ (m + n + 1) (p + q) := by
  unfold BQ; rw [← add_R]; exact Bd.add h g
theorem BQ.sub {m n : Nat} {p q : Rat} (h : BQ m p) (g : BQ n q) : BQ (m + n + 1) (p - q) := by
  unfold BQ; rw [← sub_R]; exact Bd.sub h g
theorem BQ.mul {m n : Nat} {p q : Rat} (h : BQ m p) (g : BQ n q) : BQ (m + n) (p * q) := by
  unfold BQ; rw [← mul_R]; exact Bd.mul h g
theorem BQ.inv {n : Nat} {q : Rat} (h : BQ n q) (h0 : q ≠ 0) : BQ n q⁻¹ := by
  obtain ⟨h1, h2, h3⟩ := h
  have hn : q.num ≠ 0 := fun e => h0 (Rat.num_eq_zero.mp e)
  refine ⟨?_, ?_, ?_⟩
  · show (0 : Int) < ((q⁻¹).den : Int)
    have := (q⁻¹).den_pos
    omega
  · show Sm n (q⁻¹).num
    rw [Rat.num_inv]
    have h3' : Sm n (q.den : Int) := h3
    unfold Sm at *
    rw [Int.natAbs_mul]
    have : q.num.sign.natAbs = 1 := Int.natAbs_sign_of_ne_zero hn
    rw [this]; simpa using h3'
  · show Sm n ((q⁻¹).den : Int)
    rw [Rat.den_inv, if_neg hn]
    have h2' : Sm n q.num := h2
    unfold Sm at *
    simpa using h2'
theorem BQ.div {m n : Nat} {p q : Rat} (h : BQ m p) (g : BQ n q) (h0 : q ≠ 0) : BQ (m + n) (p / q) := by
  rw [Rat.div_def]; exact h.mul (g.inv h0)
theorem BQ.neg {n : Nat} {q : Rat} (h : BQ n q) : BQ n (-q) := by
  obtain ⟨h1, h2, h3⟩ := h
  refine ⟨?_, ?_, ?_⟩
  · show (0 : Int) < ((-q).den : Int)
    have := (-q).den_pos
    omega
  · show Sm n (-q).num
    rw [Rat.neg_num]; exact Sm.neg h2
  · exact h3
theorem BQ.one : BQ 1 1 := ⟨by decide, Sm.lit rfl, Sm.lit rfl⟩
theorem BQ.zero : BQ 1 0 := ⟨by decide, Sm.lit rfl, Sm.lit rfl⟩
theorem fq_0 : fq 0 = .tup [.int 0, .int 1] := rfl
theorem fq_1 : fq 1 = .tup [.int 1, .int 1] := rfl
theorem fq_def (q : Rat) : fq q = .tup [.int q.num, .int (q.den : Int)] := rfl
@[simp] theorem ix_fq0 (q : Rat) (st : Store) : ixW st (fq q) (.int 0) = some (.int q.num) := by rw [fq_def, ix_tup, atI_0]
@[simp] theorem ix_fq1 (q : Rat) (st : Store) : ixW st (fq q) (.int 1) = some (.int q.den) := by rw [fq_def, ix_tup, atI_1]
/-- a fraction in lowest terms, of so many bits -/
def BdL (n : Nat) (x : Fr) : Prop := Bd n x ∧ ∃ q : Rat, x = ofR q
def RBL (n : Nat) (xs : List Fr) : Prop := ∀ x ∈ xs, BdL n x
theorem BdL.low {t b : Int} {n : Nat} (hb : 0 < b) (ht : Sm n t) (h : Sm n b) : BdL n (lowF t b) := ⟨Bd.low hb ht h, _, low_div t b (by omega)⟩
theorem ofR_int (n : Int) : ofR (n : Rat) = (n, 1) := rfl
theorem RBL.q {n : Nat} : ∀ {xs : List Fr}, RBL n xs → ∃ ys : List Rat, xs = ys.map ofR ∧ RQ n ys
  | [], _ => ⟨[], rfl, by intro x hx; simp at hx⟩
  | x :: xs, h => by
    obtain ⟨b, q, e⟩ := h x (by simp)
    obtain ⟨ys, e2, hb⟩ := RBL.q (n := n) (xs := xs) fun y hy => h y (by simp [hy])
    refine ⟨q :: ys, by rw [e, e2]; rfl, fun y hy => ?_⟩
    rcases List.mem_cons.mp hy with z | z
    · rw [z]; unfold BQ; rw [← e]; exact b
    · exact hb y z
theorem neg_ofR (q : Rat) : fp (0 - (ofR q).1, (ofR q).2) = fq (-q) := by
  unfold fq ofR
  rw [Rat.neg_num, Rat.neg_den, Int.zero_sub]
theorem num_posQ (q : Rat) : 0 < q.num ↔ 0 < q := by
  have h1 : 0 ≤ (-q).num ↔ 0 ≤ -q := Rat.num_nonneg
  rw [Rat.neg_num] at h1
  constructor
  · intro h
    have : ¬ 0 ≤ -q := fun z => by have := h1.mpr z; omega
    grind
  · intro h
    have : ¬ 0 ≤ -q.num := fun z => by have := h1.mp z; grind
    omega
theorem all2_zq {γ : Type} {R : W → γ → Prop} {f : W → W → W} {g : Rat → Rat → γ} : ∀ {xs ys : List Rat}, (∀ x ∈ xs, ∀ y ∈ ys, R (f (fq x) (fq y)) (g x y)) → All2 R (List.zipWith f (xs.map fq) (ys.map fq)) (List.zipWith g xs ys)
  | [], _, _ => by simp; exact .nil
  | _ :: _, [], _ => by simp; exact .nil
  | x :: xs, y :: ys, h => by
    simp only [List.map_cons, List.zipWith_cons_cons]
    exact .cons (h x (by simp) y (by simp)) (all2_zq fun x' hx y' hy => h x' (by simp [hx]) y' (by simp [hy]))

theorem all2_take {α β : Type} {R : α → β → Prop} {as : List α} {bs : List β} (h : All2 R as bs) (j : Nat) : All2 R (as.take j) (bs.take j) := by
  induction h generalizing j with
  | nil => cases j <;> exact .nil
  | cons h t ih =>
    cases j with
    | zero => exact .nil
    | succ j => exact .cons h (ih j)
/-! ### rational tables -/
def Sq (n : Nat) (M : List (List Rat)) : Prop := M.length = n ∧ ∀ r ∈ M, r.length = n
structure TabQ (st : Store) (p : Nat) (qs : List Nat) (M : List (List Rat)) : Prop where
  at_ : Is st p (qs.map W.ref)
  rows : All2 (RowQ st) qs M
theorem TabQ.gr {st st' : Store} {p : Nat} {qs : List Nat} {M : List (List Rat)} (h : TabQ st p qs M) (g : Gr st st') : TabQ st' p qs M := ⟨g.get h.at_, h.rows.imp fun _ _ _ _ r => g.get r⟩
theorem TabQ.set {st : Store} {p n : Nat} {qs : List Nat} {M : List (List Rat)} (h : TabQ st p qs M) (h1 : p ≠ n) (h2 : ∀ q ∈ qs, q ≠ n) (ws : List W) : TabQ (st.set n (.lst ws)) p qs M := ⟨is_set h.at_ h1, h.rows.imp fun q _ hq _ r => is_set r (h2 q hq)⟩
theorem TabQ.lt {st : Store} {p : Nat} {qs : List Nat} {M : List (List Rat)} (h : TabQ st p qs M) : p < st.length ∧ ∀ q ∈ qs, q < st.length := ⟨lt_of_is h.at_, fun q hq => by
  obtain ⟨_, _, r⟩ := h.rows.mem hq
  exact lt_of_is r⟩
theorem TabQ.put {st : Store} {p : Nat} {qs : List Nat} {M : List (List Rat)} (h : TabQ st p qs M) (hp : p ∉ qs) (nd : qs.Nodup) {i : Nat} {q : Nat} {xs : List Rat} (hq : qs[i]? = some q) (ys : List Rat) : TabQ (st.set q (.lst (ys.map fq))) p qs (M.set i ys) := by
  have hi : i < qs.length := (List.getElem?_eq_some_iff.mp hq).1
  have hq' := (List.getElem?_eq_some_iff.mp hq).2
  have hne : p ≠ q := fun e => hp (by rw [e]; exact List.mem_of_getElem? hq)
  refine ⟨is_set h.at_ hne, all2_ix (by rw [List.length_set]; exact h.rows.len) fun j a ha b hb => ?_⟩
  by_cases hji : i = j
  · subst hji
    have : b = ys := by
      rw [List.getElem?_set_self (by have := h.rows.len; omega)] at hb
      exact (Option.some.inj hb).symm
    subst this
    have ea : a = q := by rw [hq] at ha; exact (Option.some.inj ha).symm
    rw [ea]
    obtain ⟨_, _, r⟩ := h.rows.get hq
    exact is_set_same r
  · rw [List.getElem?_set_ne hji] at hb
    have hja : j < qs.length := (List.getElem?_eq_some_iff.mp ha).1
    have ha' := (List.getElem?_eq_some_iff.mp ha).2
    have hne2 : a ≠ q := fun e => hji ((List.getElem_inj nd).mp (by rw [hq', ha', e]))
    obtain ⟨b', hb', r⟩ := h.rows.get ha
    rw [hb] at hb'
    cases hb'
    exact is_set r hne2
theorem Sq.put {n i : Nat} {M : List (List Rat)} (h : Sq n M) {ys : List Rat} (hy : ys.length = n) : Sq n (M.set i ys) := by
  refine ⟨by rw [List.length_set]; exact h.1, fun r hr => ?_⟩
  rcases List.mem_or_eq_of_mem_set hr with z | z
  · exact h.2 r z
  · rw [z]; exact hy
theorem TQ.put {n i : Nat} {M : List (List Rat)} (h : TQ n M) {ys : List Rat} (hy : RQ n ys) : TQ n (M.set i ys) := by
  intro r hr
  rcases List.mem_or_eq_of_mem_set hr with z | z
  · exact h r z
  · rw [z]; exact hy
theorem RQ.put {n i : Nat} {xs : List Rat} (h : RQ n xs) {x : Rat} (hx : BQ n x) : RQ n (xs.set i x) := by
  intro r hr
  rcases List.mem_or_eq_of_mem_set hr with z | z
  · exact h r z
  · rw [z]; exact hx
theorem RQ.mono {m n : Nat} {xs : List Rat} (h : RQ m xs) (l : m ≤ n) : RQ n xs := fun x hx => (h x hx).mono l
theorem TQ.mono {m n : Nat} {M : List (List Rat)} (h : TQ m M) (l : m ≤ n) : TQ n M := fun x hx => (h x hx).mono l
def frT (M : List (List Rat)) : List (List Fr) := M.map (List.map ofR)
theorem rowQ_iff {st : Store} {q : Nat} {xs : List Rat} : RowQ st q xs ↔ RowAt st q (xs.map ofR) := by
  unfold RowQ RowAt
  rw [List.map_map]; exact Iff.rfl
theorem rows_fr {st : Store} : ∀ {qs : List Nat} {M : List (List Rat)}, All2 (RowQ st) qs M → All2 (RowAt st) qs (frT M)
  | _, _, .nil => .nil
  | _, _, .cons h t => .cons (rowQ_iff.mp h) (rows_fr t)
theorem rows_q {st : Store} : ∀ {qs : List Nat} {M : List (List Rat)}, All2 (RowAt st) qs (frT M) → All2 (RowQ st) qs M
  | _, [], h => by cases h; exact .nil
  | _, _ :: _, h => by cases h with | cons h t => exact .cons (rowQ_iff.mpr h) (rows_q t)
theorem TabQ.fr {st : Store} {p : Nat} {qs : List Nat} {M : List (List Rat)} (h : TabQ st p qs M) : TabAt st p qs (frT M) := ⟨h.at_, rows_fr h.rows⟩
theorem TabAt.q {st : Store} {p : Nat} {qs : List Nat} {M : List (List Rat)} (h : TabAt st p qs (frT M)) : TabQ st p qs M := ⟨h.at_, rows_q h.rows⟩
/-- a list of rows is no row -/
theorem TabQ.no {st : Store} {p : Nat} {qs : List Nat} {M : List (List Rat)} (h : TabQ st p qs M) (hM : M ≠ []) : p ∉ qs := by
  intro hp
  obtain ⟨xs, _, hx⟩ := h.rows.mem hp
  have h1 : Is st p (xs.map fq) := hx
  have h2 := h.at_
  unfold Is at h1 h2
  rw [h1] at h2
  injection h2 with h2
  injection h2 with h2
  cases qs with
  | nil => simp at hp
  | cons q qs =>
    cases xs with
    | nil => simp at h2
    | cons x xs =>
      rw [List.map_cons, List.map_cons] at h2
      injection h2 with h2
      rw [fq_def] at h2
      simp at h2
theorem all2_tabQ {γ : Type} {st : Store} {R : W → γ → Prop} {g : List Rat → γ} : ∀ {qs : List Nat} {M : List (List Rat)}, All2 (RowQ st) qs M → (∀ q xs, xs ∈ M → RowQ st q xs → R (.ref q) (g xs)) → All2 R (qs.map W.ref) (M.map g)
  | _, _, .nil, _ => .nil
  | _, _, .cons h t, H => .cons (H _ _ (by simp) h) (all2_tabQ t fun q xs hx a => H q xs (by simp [hx]) a)
structure NewTabQ (st st' : Store) (p : Nat) (qs : List Nat) (M : List (List Rat)) : Prop where
  gr : Gr st st'
  new : st.length ≤ p
  tab : TabQ st' p qs M
  big : ∀ q ∈ qs, st.length ≤ q
  nd : qs.Nodup
theorem NewTab.q {st st' : Store} {p : Nat} {qs : List Nat} {M : List (List Rat)} (h : NewTab st st' p qs (frT M)) : NewTabQ st st' p qs M := ⟨h.gr, h.new, h.tab.q, h.big, h.nd⟩
theorem lc_rowsQ {body : W → Loc → Store → R (Option W)} {it : Iter} {ρ : Loc} {ws : List W} {M : List (List Rat)} {st : Store} (ht : Tells it st ws) (h : All2 (fun w xs => ∀ st', Gr st st' → ∃ q st'', body w ρ st' = .ok (some (.ref q)) st'' ∧ New st' st'' q (xs.map fq)) ws M) (hl : ws.length ≤ 1000) (hm : ws.length ≤ it.most) :
    ∃ p qs st2, ((lcLoop body it ρ it.most 0 [] st).bind fun ws st => newLst ws st) = .ok (.ref p) st2 ∧ NewTabQ st st2 p qs M := by
  have h' : All2 (fun w xs => ∀ st', Gr st st' → ∃ q st'', body w ρ st' = .ok (some (.ref q)) st'' ∧ New st' st'' q (xs.map fp)) ws (frT M) := by
    clear hl hm ht
    induction h with
    | nil => exact .nil
    | @cons w xs ws M h t ih =>
      refine .cons (fun st' g => ?_) ih
      obtain ⟨q, st'', h1, h2⟩ := h st' g
      refine ⟨q, st'', h1, ?_⟩
      rw [List.map_map]; exact h2
  obtain ⟨p, qs, st2, h1, N⟩ := lc_rows ht h' hl hm
  exact ⟨p, qs, st2, h1, N.q⟩
/-- is the list of rows empty? -/
theorem tab_nil {st : Store} {p e : Nat} {qs : List Nat} {M : List (List Rat)} (h : TabQ st p qs M) (he : Is st e []) : cmpR .NotEq (.ref p) (.ref e) st = .ok (!M.isEmpty) st := by
  rw [c_neD (d := dT (frT M)) (e := .list []) h.fr.dn (.lst he .nil) ((lay_dT _).mono (by decide)) ⟨rfl, by decide⟩]
  unfold dT
  rw [eqv_nil]
  cases M <;> rfl
theorem ne_0 (q : Rat) (st : Store) : cmpR .NotEq (fq q) (.tup [.int 0, .int 1]) st = .ok (!decide (q = 0)) st := by
  have h := eq_fw q.num q.den 0 1 st
  have h2 : cmpR .NotEq (fq q) (.tup [.int 0, .int 1]) st = (cmpR .Eq (fw q.num q.den) (fw 0 1) st).bind fun b st => .ok (!b) st := by
    show ofOpt ((eqW st (fw q.num q.den) (fw 0 1)).map (!·)) st = (ofOpt (eqW st (fw q.num q.den) (fw 0 1)) st).bind (fun b st => .ok (!b) st)
    cases (eqW st (fw q.num q.den) (fw 0 1)) with
    | none => rfl
    | some b => rfl
  rw [h2, h]
  show R.ok (!(decide (q.num = 0) && decide ((q.den : Int) = 1))) st = _
  congr 2
  rw [← Bool.decide_and]
  refine decide_eq_decide.mpr ⟨fun ⟨h, _⟩ => Rat.num_eq_zero.mp h, fun h => by subst h; exact ⟨rfl, rfl⟩⟩

/-! ### elimination -/
/-- a row less so many times another -/
def lessR (row : List Rat) (by' : Rat) (other : List Rat) : List Rat := List.zipWith (fun h t => h - by' * t) row other
def hd (r : List Rat) : Rat := r.headD 0
def stp (f r : List Rat) : List Rat := (lessR r (hd r / hd f) f).tail
def El : List (List Rat) → List (List Rat)
  | [] => []
  | f :: rs => rs.map (stp f)
def piv (M : List (List Rat)) : Rat := hd (M.headD [])
def Ei : Nat → List (List Rat) → List (List Rat)
  | 0, M => M
  | j + 1, M => Ei j (El M)
def pv (j : Nat) (M : List (List Rat)) : Rat := piv (Ei j M)
theorem Ei_s (j : Nat) (M : List (List Rat)) : Ei (j + 1) M = El (Ei j M) := by
  induction j generalizing M with
  | zero => rfl
  | succ j ih => rw [Ei, ih (El M)]; rfl
theorem stp_len (f r : List Rat) : (stp f r).length = min r.length f.length - 1 := by
  unfold stp lessR; simp; omega
theorem El_sq {n : Nat} {M : List (List Rat)} (h : Sq (n + 1) M) : Sq n (El M) := by
  obtain ⟨h1, h2⟩ := h
  cases M with
  | nil => simp at h1
  | cons f rs =>
    refine ⟨by simpa [El] using h1, fun r hr => ?_⟩
    obtain ⟨r', hr', rfl⟩ := List.mem_map.mp hr
    rw [stp_len, h2 f (by simp), h2 r' (by simp [hr'])]
    omega
theorem Ei_sq {n : Nat} {M : List (List Rat)} (h : Sq n M) : ∀ {j : Nat}, j ≤ n → Sq (n - j) (Ei j M)
  | 0, _ => h
  | j + 1, hj => by
    rw [Ei_s]
    refine El_sq ?_
    have := Ei_sq h (j := j) (by omega)
    rw [show n - j = n - (j + 1) + 1 by omega] at this
    exact this
theorem hd_mem {r : List Rat} {n : Nat} (h : r.length = n + 1) : hd r ∈ r := by
  cases r with
  | nil => simp at h
  | cons x r => simp [hd]
theorem mem_zip {xs ys : List Rat} {f : Rat → Rat → Rat} {z : Rat} (h : z ∈ List.zipWith f xs ys) : ∃ x ∈ xs, ∃ y ∈ ys, z = f x y := by
  induction xs generalizing ys with
  | nil => simp at h
  | cons x xs ih =>
    cases ys with
    | nil => simp at h
    | cons y ys =>
      rw [List.zipWith_cons_cons] at h
      rcases List.mem_cons.mp h with e | e
      · exact ⟨x, by simp, y, by simp, e⟩
      · obtain ⟨a, ha, b, hb, e⟩ := ih e
        exact ⟨a, by simp [ha], b, by simp [hb], e⟩
theorem lessR_bd {b l m : Nat} {r o : List Rat} {y : Rat} (hr : RQ b r) (hy : BQ l y) (ho : RQ m o) : RQ (b + (l + m) + 1) (lessR r y o) := by
  intro z hz
  obtain ⟨x, hx, t, ht, rfl⟩ := mem_zip hz
  exact (hr x hx).sub (hy.mul (ho t ht))
theorem El_bd {n b : Nat} {M : List (List Rat)} (h : Sq (n + 1) M) (hb : TQ b M) (h0 : piv M ≠ 0) : TQ (4 * b + 1) (El M) := by
  obtain ⟨h1, h2⟩ := h
  cases M with
  | nil => simp at h1
  | cons f rs =>
    intro r hr
    obtain ⟨r', hr', rfl⟩ := List.mem_map.mp hr
    have h3 : BQ (b + b) (hd r' / hd f) := (hb r' (by simp [hr']) _ (hd_mem (h2 r' (by simp [hr'])))).div (hb f (by simp) _ (hd_mem (h2 f (by simp)))) h0
    intro x hx
    have := lessR_bd (hb r' (by simp [hr'])) h3 (hb f (by simp)) x (List.mem_of_mem_tail hx)
    exact this.mono (by omega)
def bt : Nat → Nat
  | 0 => 39
  | j + 1 => 4 * bt j + 1
theorem Ei_bd {n : Nat} {M : List (List Rat)} (h : Sq n M) (hb : TQ 39 M) : ∀ {j : Nat}, j ≤ n → (∀ i < j, pv i M ≠ 0) → TQ (bt j) (Ei j M)
  | 0, _, _ => hb
  | j + 1, hj, h0 => by
    rw [Ei_s]
    have s := Ei_sq h (j := j) (by omega)
    rw [show n - j = n - (j + 1) + 1 by omega] at s
    exact El_bd s (Ei_bd h hb (j := j) (by omega) fun i hi => h0 i (by omega)) (h0 j (by omega))
theorem piv_bd {n b : Nat} {M : List (List Rat)} (h : Sq (n + 1) M) (hb : TQ b M) : BQ b (piv M) := by
  obtain ⟨h1, h2⟩ := h
  cases M with
  | nil => simp at h1
  | cons f rs => exact hb f (by simp) _ (hd_mem (h2 f (by simp)))
/-- the first rows and columns -/
def cut (k : Nat) (M : List (List Rat)) : List (List Rat) := (M.take k).map (List.take k)
theorem stp_cut (k : Nat) (f r : List Rat) : stp (f.take (k + 1)) (r.take (k + 1)) = (stp f r).take k := by
  have h1 : ∀ r : List Rat, hd (r.take (k + 1)) = hd r := fun r => by cases r <;> rfl
  unfold stp lessR
  rw [h1, h1, ← List.take_zipWith]
  generalize List.zipWith _ r f = l
  cases l <;> simp
theorem El_cut (k : Nat) (M : List (List Rat)) : El (cut (k + 1) M) = cut k (El M) := by
  cases M with
  | nil => cases k <;> rfl
  | cons f rs =>
    unfold cut
    rw [List.take_succ_cons, List.map_cons]
    show List.map _ (List.map _ _) = List.map _ (List.take k (rs.map (stp f)))
    rw [← List.map_take, List.map_map, List.map_map]
    refine List.map_congr_left fun r hr => ?_
    exact stp_cut k f r
theorem piv_cut (k : Nat) (M : List (List Rat)) : piv (cut (k + 1) M) = piv M := by
  cases M with
  | nil => rfl
  | cons f rs => cases f <;> rfl
theorem Ei_cut {j k : Nat} (h : j ≤ k) (M : List (List Rat)) : Ei j (cut k M) = cut (k - j) (Ei j M) := by
  induction j generalizing k M with
  | zero => rfl
  | succ j ih =>
    obtain ⟨k, rfl⟩ : ∃ k', k = k' + 1 := ⟨k - 1, by omega⟩
    rw [Ei, El_cut, ih (by omega)]
    congr 1
    omega
theorem pv_cut {j k : Nat} (h : j < k) (M : List (List Rat)) : pv j (cut k M) = pv j M := by
  unfold pv
  rw [Ei_cut (by omega), show k - j = k - j - 1 + 1 by omega, piv_cut]
theorem cut_sq {n k : Nat} {M : List (List Rat)} (h : Sq n M) (hk : k ≤ n) : Sq k (cut k M) := by
  obtain ⟨h1, h2⟩ := h
  refine ⟨by simp [cut]; omega, fun r hr => ?_⟩
  obtain ⟨r', hr', rfl⟩ := List.mem_map.mp hr
  have := h2 r' (List.mem_of_mem_take hr')
  simp; omega
theorem cut_bd {b k : Nat} {M : List (List Rat)} (h : TQ b M) : TQ b (cut k M) := by
  intro r hr x hx
  obtain ⟨r', hr', rfl⟩ := List.mem_map.mp hr
  exact h r' (List.mem_of_mem_take hr') x (List.mem_of_mem_take hx)
/-- the product of the first pivots -/
def Pr : Nat → List (List Rat) → Rat
  | 0, _ => 1
  | k + 1, M => Pr k M * pv k M
theorem Pr_cut {j k : Nat} (h : j ≤ k) (M : List (List Rat)) : Pr j (cut k M) = Pr j M := by
  induction j with
  | zero => rfl
  | succ j ih => rw [Pr, Pr, ih (by omega), pv_cut (by omega)]
def pb : Nat → Nat
  | 0 => 1
  | k + 1 => pb k + bt k
/-- the steps: each pivot, up to the first that is not above nought -/
def Res (n : Nat) (M : List (List Rat)) (xs : List Rat) : Prop := ∃ k, xs = (List.range k).map (fun j => pv j M) ∧ ((k = n ∧ ∀ j < k, 0 < pv j M) ∨ (0 < k ∧ k ≤ n ∧ (∀ j < k - 1, 0 < pv j M) ∧ ¬ 0 < pv (k - 1) M))
theorem Res.one {n : Nat} {M : List (List Rat)} {xs ys : List Rat} (h : Res n M xs) (g : Res n M ys) : xs = ys := by
  obtain ⟨k, rfl, h⟩ := h
  obtain ⟨l, rfl, g⟩ := g
  have : k = l := by
    rcases h with ⟨rfl, h⟩ | ⟨h1, h2, h3, h4⟩
    · rcases g with ⟨rfl, g⟩ | ⟨g1, g2, g3, g4⟩
      · rfl
      · exact absurd (h (l - 1) (by omega)) g4
    · rcases g with ⟨rfl, g⟩ | ⟨g1, g2, g3, g4⟩
      · exact absurd (g (k - 1) (by omega)) h4
      · rcases Nat.lt_trichotomy k l with z | z | z
        · exact absurd (g3 (k - 1) (by omega)) h4
        · exact z
        · exact absurd (h3 (l - 1) (by omega)) g4
  subst this; rfl
end Mx

/-! Whole numbers over powers of 27720; tables of any rows; stores of which only some cells change. -/
namespace Mx
open PySem L2

/-! ### scaled numbers -/
theorem pow_addQ (a : Rat) (m n : Nat) : a ^ (m + n) = a ^ m * a ^ n := by
  induction n with
  | zero => rw [Rat.pow_zero, Nat.add_zero, Rat.mul_one]
  | succ n ih => rw [← Nat.add_assoc, Rat.pow_succ, ih, Rat.pow_succ, Rat.mul_assoc]
theorem mul_denQ (q : Rat) : q * ((q.den : Int) : Rat) = (q.num : Rat) := by
  have h := Rat.num_divInt_den q
  rw [Rat.divInt_eq_div] at h
  have hd : ((q.den : Int) : Rat) ≠ 0 := by
    intro z
    have : (q.den : Int) = 0 := by exact_mod_cast z
    have := q.den_pos
    omega
  generalize ((q.den : Int) : Rat) = d at *
  grind
/-- a whole number below 2 ^ N over 27720 ^ e -/
def Sc (e N : Nat) (q : Rat) : Prop := ∃ n : Int, (n : Rat) = q * (27720 : Rat) ^ e ∧ Sm N n
theorem Sc.mono {e N M : Nat} {q : Rat} (h : Sc e N q) (l : N ≤ M) : Sc e M q := by
  obtain ⟨n, h1, h2⟩ := h
  exact ⟨n, h1, h2.mono l⟩
theorem Sc.add {e N M : Nat} {p q : Rat} (h : Sc e N p) (g : Sc e M q) : Sc e (max N M + 1) (p + q) := by
  obtain ⟨n, h1, h2⟩ := h
  obtain ⟨m, g1, g2⟩ := g
  refine ⟨n + m, ?_, h2.add g2⟩
  rw [Rat.intCast_add, h1, g1]
  grind
theorem Sc.mul {e f N M : Nat} {p q : Rat} (h : Sc e N p) (g : Sc f M q) : Sc (e + f) (N + M) (p * q) := by
  obtain ⟨n, h1, h2⟩ := h
  obtain ⟨m, g1, g2⟩ := g
  refine ⟨n * m, ?_, h2.mul g2⟩
  rw [Rat.intCast_mul, h1, g1, pow_addQ]
  grind
theorem Sc.zero (e N : Nat) : Sc e N 0 := ⟨0, by rw [Rat.zero_mul]; rfl, Nat.two_pow_pos N⟩
theorem cast_pow (e : Nat) : (((27720 : Int) ^ e : Int) : Rat) = (27720 : Rat) ^ e := by
  induction e with
  | zero => rfl
  | succ e ih => rw [Int.pow_succ, Rat.pow_succ, Rat.intCast_mul, ih]; rfl
theorem pow_ne (e : Nat) : (27720 : Rat) ^ e ≠ 0 := by
  rw [← cast_pow]
  intro h
  have : ((27720 : Int) ^ e) = 0 := by exact_mod_cast h
  exact absurd this (Int.ne_of_gt (Int.pow_pos (by decide)))
theorem sm_pow (e : Nat) : Sm (15 * e + 1) ((27720 : Int) ^ e) := by
  unfold Sm
  rw [Int.natAbs_pow]
  have : (27720 : Int).natAbs = 27720 := rfl
  rw [this]
  have h : 27720 ^ e ≤ (2 ^ 15) ^ e := Nat.pow_le_pow_left (by decide) e
  rw [← Nat.pow_mul] at h
  rw [Nat.pow_succ]
  have := Nat.two_pow_pos (15 * e)
  omega
theorem Sc.up {e N : Nat} {q : Rat} (h : Sc e N q) (d : Nat) : Sc (e + d) (N + 15 * d + 1) q := by
  have : Sc d (15 * d + 1) 1 := ⟨27720 ^ d, by rw [cast_pow, Rat.one_mul], sm_pow d⟩
  have := h.mul this
  rw [Rat.mul_one] at this
  exact this.mono (by omega)
theorem Sc.bq {e N : Nat} {q : Rat} (h : Sc e N q) : BQ (max N (15 * e + 1)) q := by
  obtain ⟨n, h1, h2⟩ := h
  have hp : (0 : Int) < 27720 ^ e := Int.pow_pos (by decide)
  have e1 : Rat.divInt n (27720 ^ e) = q := by
    rw [Rat.divInt_eq_div, cast_pow, h1]
    have := pow_ne e
    grind
  have b := Bd.low hp (h2.mono (Nat.le_max_left N (15 * e + 1))) ((sm_pow e).mono (Nat.le_max_right N (15 * e + 1)))
  rw [low_div _ _ (by omega), e1] at b
  exact b
/-- all of a row, of a table -/
def RSc (e N : Nat) (xs : List Rat) : Prop := ∀ x ∈ xs, Sc e N x
def TSc (e N : Nat) (M : List (List Rat)) : Prop := ∀ xs ∈ M, RSc e N xs
/-- the sum -/
def sumQ : List Rat → Rat
  | [] => 0
  | x :: xs => x + sumQ xs
theorem sumQ_snoc (xs : List Rat) (x : Rat) : sumQ (xs ++ [x]) = sumQ xs + x := by
  induction xs with
  | nil => show x + 0 = 0 + x; grind
  | cons y xs ih => show y + sumQ (xs ++ [x]) = y + sumQ xs + x; rw [ih]; grind
theorem Sc.sum {e N : Nat} : ∀ {xs : List Rat}, RSc e N xs → Sc e (N + xs.length) (sumQ xs)
  | [], _ => Sc.zero _ _
  | x :: xs, h => by
    have h1 := h x (by simp)
    have h2 := Sc.sum (xs := xs) fun y hy => h y (by simp [hy])
    exact (h1.add h2).mono (by rw [List.length_cons]; omega)
def dq (xs ys : List Rat) : Rat := sumQ (List.zipWith (· * ·) xs ys)
theorem RSc.zip {e f N M : Nat} {xs ys : List Rat} (h : RSc e N xs) (g : RSc f M ys) : RSc (e + f) (N + M) (List.zipWith (· * ·) xs ys) := by
  intro z hz
  obtain ⟨x, hx, y, hy, rfl⟩ := mem_zip hz
  exact (h x hx).mul (g y hy)
theorem Sc.dq {e f N M n : Nat} {xs ys : List Rat} (h : RSc e N xs) (g : RSc f M ys) (hl : xs.length ≤ n) : Sc (e + f) (N + M + n) (dq xs ys) := by
  refine (Sc.sum (RSc.zip h g)).mono ?_
  rw [List.length_zipWith]; omega
/-! ### whole numbers of scaled ones -/
def Zs (e : Nat) (ns : List Int) (xs : List Rat) : Prop := ns.map (fun n : Int => (n : Rat)) = xs.map fun x => x * (27720 : Rat) ^ e
theorem Zs.len {e : Nat} {ns : List Int} {xs : List Rat} (h : Zs e ns xs) : ns.length = xs.length := by
  have := congrArg List.length h
  simpa using this
theorem Zs.cons {e : Nat} {n : Int} {ns : List Int} {x : Rat} {xs : List Rat} : Zs e (n :: ns) (x :: xs) ↔ (n : Rat) = x * (27720 : Rat) ^ e ∧ Zs e ns xs := by
  unfold Zs
  simp
theorem Zs.nil (e : Nat) : Zs e [] [] := rfl
theorem Zs.get {e : Nat} {ns : List Int} {xs : List Rat} (h : Zs e ns xs) {i : Nat} {n : Int} {x : Rat} (h1 : ns[i]? = some n) (h2 : xs[i]? = some x) : (n : Rat) = x * (27720 : Rat) ^ e := by
  have := congrArg (fun l : List Rat => l[i]?) h
  simp [h1, h2] at this
  exact this
def dI (ns ms : List Int) : Int := (List.zipWith (· * ·) ns ms).sum
theorem dI_dq {e f : Nat} : ∀ {ns ms : List Int} {xs ys : List Rat}, Zs e ns xs → Zs f ms ys → ((dI ns ms : Int) : Rat) = dq xs ys * (27720 : Rat) ^ (e + f)
  | [], ms, [], ys, _, _ => by simp [dI, dq, sumQ]
  | [], _, _ :: _, _, h, _ => by have := h.len; simp at this
  | _ :: _, _, [], _, h, _ => by have := h.len; simp at this
  | n :: ns, [], x :: xs, [], _, _ => by simp [dI, dq, sumQ]
  | _ :: _, [], _ :: _, _ :: _, _, h => by have := h.len; simp at this
  | _ :: _, _ :: _, _ :: _, [], _, h => by have := h.len; simp at this
  | n :: ns, m :: ms, x :: xs, y :: ys, h, g => by
    obtain ⟨h1, h2⟩ := Zs.cons.mp h
    obtain ⟨g1, g2⟩ := Zs.cons.mp g
    have ih := dI_dq h2 g2
    unfold dI dq at *
    simp only [List.zipWith_cons_cons, List.sum_cons, sumQ]
    rw [Rat.intCast_add, Rat.intCast_mul, ih, h1, g1, pow_addQ]
    grind
def RI (N : Nat) (ns : List Int) : Prop := ∀ n ∈ ns, Sm N n
/-- the whole number of a number over 27720 -/
def zQ (q : Rat) : Int := q.num * (27720 : Int).fdiv q.den
theorem zQ_ok {N : Nat} {q : Rat} (h : Sc 1 N q) : ((zQ q : Int) : Rat) = q * (27720 : Rat) ^ 1 ∧ Sm N (zQ q) := by
  obtain ⟨n, h1, h2⟩ := h
  have e1 := mul_denQ q
  have e2 : n * (q.den : Int) = q.num * 27720 := by
    have : ((n * (q.den : Int) : Int) : Rat) = ((q.num * 27720 : Int) : Rat) := by
      rw [Rat.intCast_mul, Rat.intCast_mul, ← e1, h1]
      have : ((27720 : Int) : Rat) = 27720 := rfl
      rw [this, Rat.pow_one]
      grind
    exact_mod_cast this
  have d1 : q.den ∣ 27720 := by
    have : (q.den : Int) ∣ q.num * 27720 := ⟨n, by rw [← e2, Int.mul_comm]⟩
    have h3 : q.den ∣ (q.num * 27720).natAbs := by
      have := Int.natAbs_dvd_natAbs.mpr this
      exact this
    rw [Int.natAbs_mul] at h3
    exact (Nat.Coprime.dvd_of_dvd_mul_left (Nat.Coprime.symm q.reduced) h3)
  obtain ⟨c, hc⟩ := d1
  have ez : zQ q = n := by
    unfold zQ
    rw [Int.fdiv_eq_ediv_of_nonneg _ (by omega)]
    have hp := q.den_pos
    have e3 : (27720 : Int) / (q.den : Int) = (c : Int) := by
      have : (27720 : Int) = (q.den : Int) * (c : Int) := by exact_mod_cast hc
      rw [this, Int.mul_ediv_cancel_left _ (by omega)]
    rw [e3]
    have e4 : (27720 : Int) = (q.den : Int) * (c : Int) := by exact_mod_cast hc
    rw [e4, ← Int.mul_assoc, Int.mul_comm q.num, Int.mul_assoc, Int.mul_comm n] at e2
    exact (Int.eq_of_mul_eq_mul_left (by omega) e2).symm
  rw [ez]
  exact ⟨h1, h2⟩
theorem zQs_ok {N : Nat} {xs : List Rat} (h : RSc 1 N xs) : Zs 1 (xs.map zQ) xs ∧ RI N (xs.map zQ) := by
  refine ⟨?_, fun n hn => ?_⟩
  · unfold Zs
    rw [List.map_map]
    exact List.map_congr_left fun x hx => (zQ_ok (h x hx)).1
  · obtain ⟨x, hx, rfl⟩ := List.mem_map.mp hn
    exact (zQ_ok (h x hx)).2
theorem dI_sm {N M n : Nat} {ns ms : List Int} (h : RI N ns) (g : RI M ms) (hl : ns.length ≤ n) : Sm (N + M + n) (dI ns ms) := by
  have key : ∀ (l : List Int), (∀ x ∈ l, Sm (N + M) x) → Sm (N + M + l.length) l.sum := by
    intro l
    induction l with
    | nil => intro _; exact Nat.two_pow_pos _
    | cons x l ih =>
      intro hx
      have h1 := hx x (by simp)
      have h2 := ih fun y hy => hx y (by simp [hy])
      rw [List.sum_cons]
      exact (h1.add h2).mono (by rw [List.length_cons]; omega)
  refine (key _ fun z hz => ?_).mono (show _ ≤ N + M + n by rw [List.length_zipWith]; omega)
  obtain ⟨i, hi, rfl⟩ := List.mem_iff_getElem.mp hz
  rw [List.getElem_zipWith]
  exact (h _ (List.getElem_mem _)).mul (g _ (List.getElem_mem _))
/-- what the laws ask of a told fraction -/
theorem is_scaled {v : Int} {q : Rat} {e : Nat} (h : (v : Rat) = q * (27720 : Rat) ^ e) : q.num * (27720 : Int) ^ e = v * (q.den : Int) := by
  have e1 := mul_denQ q
  have : ((q.num * (27720 : Int) ^ e : Int) : Rat) = ((v * (q.den : Int) : Int) : Rat) := by
    rw [Rat.intCast_mul, Rat.intCast_mul, cast_pow, h, ← e1]
    grind
  exact_mod_cast this

/-! ### tables of rows of any kind -/
structure TabF {α : Type} (f : α → W) (st : Store) (p : Nat) (qs : List Nat) (M : List (List α)) : Prop where
  at_ : Is st p (qs.map W.ref)
  rows : All2 (fun q xs => Is st q (xs.map f)) qs M
structure NewF {α : Type} (f : α → W) (st st' : Store) (p : Nat) (qs : List Nat) (M : List (List α)) : Prop where
  gr : Gr st st'
  new : st.length ≤ p
  tab : TabF f st' p qs M
  nd : qs.Nodup
  no : p ∉ qs
  big : ∀ q ∈ qs, st.length ≤ q
section
variable {α : Type} {f : α → W} {st st' : Store} {p : Nat} {qs : List Nat} {M : List (List α)}
theorem TabF.gr (h : TabF f st p qs M) (g : Gr st st') : TabF f st' p qs M := ⟨g.get h.at_, h.rows.imp fun _ _ _ _ r => g.get r⟩
theorem TabF.lt (h : TabF f st p qs M) : p < st.length ∧ ∀ q ∈ qs, q < st.length := ⟨lt_of_is h.at_, fun q hq => by
  obtain ⟨_, _, r⟩ := h.rows.mem hq
  exact lt_of_is r⟩
theorem TabF.len (h : TabF f st p qs M) : qs.length = M.length := h.rows.len
theorem all2_tabF {γ : Type} {R : W → γ → Prop} {g : List α → γ} : ∀ {qs : List Nat} {M : List (List α)}, All2 (fun q xs => Is st q (xs.map f)) qs M → (∀ q xs, xs ∈ M → Is st q (xs.map f) → R (.ref q) (g xs)) → All2 R (qs.map W.ref) (M.map g)
  | _, _, .nil, _ => .nil
  | _, _, .cons h t, H => .cons (H _ _ (by simp) h) (all2_tabF t fun q xs hx a => H q xs (by simp [hx]) a)
/-- a comprehension of new rows -/
theorem lc_rowsF {body : W → Loc → Store → R (Option W)} {it : Iter} {ρ : Loc} {ws : List W} {M : List (List α)} {st : Store} (ht : Tells it st ws) (h : All2 (fun w xs => ∀ st', Gr st st' → ∃ q st'', body w ρ st' = .ok (some (.ref q)) st'' ∧ New st' st'' q (xs.map f)) ws M) (hl : ws.length ≤ 1000) (hm : ws.length ≤ it.most) :
    ∃ p qs st2, ((lcLoop body it ρ it.most 0 [] st).bind fun ws st => newLst ws st) = .ok (.ref p) st2 ∧ NewF f st st2 p qs M := by
  obtain ⟨vs, st2, h1, g, hi, qs, e, e2, nd, big⟩ := lc_inv (it := it) (body := body) (ρ := ρ) (n := ws.length) (Inv := fun i acc st' => Gr st st' ∧ i ≤ ws.length ∧ ∃ qs : List Nat, acc = qs.map W.ref ∧ All2 (fun q xs => Is st' q (xs.map f)) qs (M.take i) ∧ qs.Nodup ∧ ∀ q ∈ qs, st.length ≤ q ∧ q < st'.length)
    (fun i acc st' h => by
      obtain ⟨_, hi, qs, e, a, _⟩ := h
      have := a.len
      rw [List.length_take] at this
      rw [e, List.length_map]; omega)
    (fun i acc st' hi ⟨g, hi', qs, e, a, nd, big⟩ => by
      obtain ⟨w, ew⟩ : ∃ w, ws[i]? = some w := ⟨_, List.getElem?_eq_getElem hi⟩
      obtain ⟨xs, eu, hb⟩ := h.get ew
      obtain ⟨q, st'', hb, N⟩ := hb st' g
      refine ⟨w, st'', by rw [ht st' g i, ew], .inl ⟨.ref q, hb, g.trans N.gr, by omega, qs ++ [q], by simp [e], ?_, ?_, ?_⟩⟩
      · rw [List.take_add_one, eu]
        have a' := a.imp (R' := fun q xs => Is st'' q (xs.map f)) fun _ _ _ _ r => N.gr.get r
        exact a'.snoc N.at_
      · rw [List.nodup_append]
        refine ⟨nd, by simp, fun x hx y hy => ?_⟩
        rw [List.mem_singleton] at hy
        have := (big x hx).2
        have := N.new
        omega
      · intro x hx
        rcases List.mem_append.mp hx with z | z
        · have := big x z; have := N.gr.len; omega
        · rw [List.mem_singleton] at z
          subst z
          have := N.new; have := g.len; have := lt_of_is N.at_
          omega)
    (fun acc st' ⟨g, _⟩ => by rw [ht st' g, List.getElem?_eq_none_iff.mpr (Nat.le_refl _)]) it.most 0 [] st (by omega) (by omega) ⟨.refl _, by omega, [], rfl, by rw [List.take_zero]; exact .nil, by simp, by simp⟩
  have hlen := h.len
  rw [hlen, List.take_length] at e2
  have hq := e2.len
  refine ⟨st2.length, qs, st2 ++ [.lst vs], ?_, g.trans (Gr.app _ _), g.len, ⟨by rw [e]; exact get_last, e2.imp fun _ _ _ _ r => get_more r⟩, nd, fun hm => by have := (big _ hm).2; omega, fun q hq => (big q hq).1⟩
  rw [h1]
  exact new_lst (by rw [e, List.length_map]; omega)
end

/-! ### only some cells change -/
def On (p : Nat → Prop) (st st' : Store) : Prop := st.length ≤ st'.length ∧ ∀ i, i < st.length → ¬ p i → st'[i]? = st[i]?
section
variable {p : Nat → Prop} {a b c : Store}
theorem On.refl (p : Nat → Prop) (a : Store) : On p a a := ⟨Nat.le_refl _, fun _ _ _ => rfl⟩
theorem On.trans (h : On p a b) (g : On p b c) : On p a c := ⟨Nat.le_trans h.1 g.1, fun i hi hp => by rw [g.2 i (by have := h.1; omega) hp, h.2 i hi hp]⟩
theorem Gr.on (g : Gr a b) (p : Nat → Prop) : On p a b := by
  refine ⟨g.len, fun i hi _ => ?_⟩
  obtain ⟨ex, rfl⟩ := g
  exact List.getElem?_append_left hi
theorem On.set {i : Nat} (h : On p a b) (hp : a.length ≤ i ∨ p i) (x : Cell) : On p a (b.set i x) := by
  refine ⟨by rw [List.length_set]; exact h.1, fun j hj hn => ?_⟩
  rw [List.getElem?_set_ne (fun e => ?_)]
  · exact h.2 j hj hn
  · subst e
    rcases hp with z | z
    · omega
    · exact hn z
theorem On.get (h : On p a b) {n : Nat} {x : Cell} (e : a[n]? = some x) (hn : ¬ p n) : b[n]? = some x := by
  rw [h.2 n (List.getElem?_eq_some_iff.mp e).1 hn]; exact e
theorem On.imp {q : Nat → Prop} (h : On p a b) (l : ∀ i, i < a.length → p i → q i) : On q a b := ⟨h.1, fun i hi hn => h.2 i hi fun hp => hn (l i hi hp)⟩
theorem TabF.on {α : Type} {f : α → W} {t : Nat} {qs : List Nat} {M : List (List α)} (h : TabF f a t qs M) (g : On p a b) (h1 : ¬ p t) (h2 : ∀ q ∈ qs, ¬ p q) : TabF f b t qs M := ⟨g.get h.at_ h1, h.rows.imp fun q _ hq _ r => g.get r (h2 q hq)⟩
end
/-! ### several tables -/
def Apart (ts : List (Nat × List Nat)) : Prop := ∀ (i j : Nat) (t u : Nat × List Nat), ts[i]? = some t → ts[j]? = some u → i ≠ j → ∀ x ∈ t.1 :: t.2, x ∉ u.1 :: u.2
def Owns (ts : List (Nat × List Nat)) : Prop := ∀ t ∈ ts, t.1 ∉ t.2 ∧ t.2.Nodup
abbrev Tabs (st : Store) (ts : List (Nat × List Nat)) (Ms : List (List (List Rat))) : Prop := All2 (fun t M => TabF fq st t.1 t.2 M) ts Ms
structure NewT (st st' : Store) (ts : List (Nat × List Nat)) (Ms : List (List (List Rat))) : Prop where
  gr : Gr st st'
  tabs : Tabs st' ts Ms
  ap : Apart ts
  own : Owns ts
  big : ∀ t ∈ ts, ∀ x ∈ t.1 :: t.2, st.length ≤ x
theorem Tabs.gr {st st' : Store} {ts : List (Nat × List Nat)} {Ms : List (List (List Rat))} (h : Tabs st ts Ms) (g : Gr st st') : Tabs st' ts Ms := h.imp fun _ _ _ _ r => r.gr g
theorem Tabs.on {p : Nat → Prop} {st st' : Store} {ts : List (Nat × List Nat)} {Ms : List (List (List Rat))} (h : Tabs st ts Ms) (g : On p st st') (hp : ∀ t ∈ ts, ∀ x ∈ t.1 :: t.2, ¬ p x) : Tabs st' ts Ms := h.imp fun t _ ht _ r => r.on g (hp t ht _ (by simp)) fun q hq => hp t ht q (by simp [hq])
theorem TabF.lt' {α : Type} {f : α → W} {st : Store} {p : Nat} {qs : List Nat} {M : List (List α)} (h : TabF f st p qs M) : ∀ x ∈ p :: qs, x < st.length := fun x hx => by
  rcases List.mem_cons.mp hx with e | e
  · rw [e]; exact h.lt.1
  · exact h.lt.2 x e
theorem Tabs.lt {st : Store} {ts : List (Nat × List Nat)} {Ms : List (List (List Rat))} (h : Tabs st ts Ms) : ∀ t ∈ ts, ∀ x ∈ t.1 :: t.2, x < st.length := fun t ht x hx => by
  obtain ⟨_, _, r⟩ := h.mem ht
  exact r.lt' x hx
theorem NewT.nil (st : Store) : NewT st st [] [] := ⟨.refl _, .nil, fun i j t u h => by simp at h, fun t h => by simp at h, fun t h => by simp at h⟩
theorem NewT.snoc {st s1 s2 : Store} {ts : List (Nat × List Nat)} {Ms : List (List (List Rat))} {p : Nat} {qs : List Nat} {M : List (List Rat)} (h : NewT st s1 ts Ms) (g : NewF fq s1 s2 p qs M) : NewT st s2 (ts ++ [(p, qs)]) (Ms ++ [M]) := by
  have lt := h.tabs.lt
  have gb : ∀ x ∈ p :: qs, s1.length ≤ x := fun x hx => by
    rcases List.mem_cons.mp hx with e | e
    · rw [e]; exact g.new
    · exact g.big x e
  refine ⟨h.gr.trans g.gr, (h.tabs.gr g.gr).snoc g.tab, fun i j t u hi hj hne x hx hu => ?_, fun t ht => ?_, fun t ht x hx => ?_⟩
  · have hi' := (List.getElem?_eq_some_iff.mp hi).1
    have hj' := (List.getElem?_eq_some_iff.mp hj).1
    rw [List.length_append, List.length_singleton] at hi' hj'
    by_cases ci : i < ts.length
    · rw [List.getElem?_append_left ci] at hi
      by_cases cj : j < ts.length
      · rw [List.getElem?_append_left cj] at hj
        exact h.ap i j t u hi hj hne x hx hu
      · have ej : j = ts.length := by omega
        rw [ej, List.getElem?_concat_length] at hj
        cases hj
        have := lt t (List.mem_of_getElem? hi) x hx
        have := gb x hu
        omega
    · have ei : i = ts.length := by omega
      rw [ei, List.getElem?_concat_length] at hi
      cases hi
      have cj : j < ts.length := by omega
      rw [List.getElem?_append_left cj] at hj
      have := lt u (List.mem_of_getElem? hj) x hu
      have := gb x hx
      omega
  · rcases List.mem_append.mp ht with z | z
    · exact h.own t z
    · rw [List.mem_singleton] at z; subst z; exact ⟨g.no, g.nd⟩
  · rcases List.mem_append.mp ht with z | z
    · exact h.big t z x hx
    · rw [List.mem_singleton] at z; subst z
      have := gb x hx
      have := h.gr.len
      omega
theorem NewT.more {st s1 s2 : Store} {ts : List (Nat × List Nat)} {Ms : List (List (List Rat))} (h : NewT st s1 ts Ms) (g : Gr s1 s2) : NewT st s2 ts Ms := ⟨h.gr.trans g, h.tabs.gr g, h.ap, h.own, h.big⟩
theorem NewT.low {s0 st s1 : Store} {ts : List (Nat × List Nat)} {Ms : List (List (List Rat))} (h : NewT st s1 ts Ms) (g : Gr s0 st) : NewT s0 s1 ts Ms := ⟨g.trans h.gr, h.tabs, h.ap, h.own, fun t ht x hx => Nat.le_trans g.len (h.big t ht x hx)⟩
/-- a comprehension of new tables -/
theorem lc_tabs {body : W → Loc → Store → R (Option W)} {it : Iter} {ρ : Loc} {ws : List W} {Ms : List (List (List Rat))} {st : Store} (ht : Tells it st ws) (h : All2 (fun w M => ∀ st', Gr st st' → ∃ p qs st'', body w ρ st' = .ok (some (.ref p)) st'' ∧ NewF fq st' st'' p qs M) ws Ms) (hl : ws.length ≤ 1000) (hm : ws.length ≤ it.most) :
    ∃ (p : Nat) (ts : List (Nat × List Nat)) (st2 : Store), ((lcLoop body it ρ it.most 0 [] st).bind fun ws st => newLst ws st) = .ok (.ref p) st2 ∧ NewT st st2 ts Ms ∧ Is st2 p (ts.map fun t => W.ref t.1) ∧ st.length ≤ p ∧ ∀ t ∈ ts, ∀ x ∈ t.1 :: t.2, x < p := by
  obtain ⟨vs, st2, h1, hi, ts, e, N⟩ := lc_inv (it := it) (body := body) (ρ := ρ) (n := ws.length) (Inv := fun i acc st' => i ≤ ws.length ∧ ∃ ts : List (Nat × List Nat), acc = ts.map (fun t => W.ref t.1) ∧ NewT st st' ts (Ms.take i))
    (fun i acc st' h => by
      obtain ⟨hi, ts, e, N⟩ := h
      have := N.tabs.len
      rw [List.length_take] at this
      rw [e, List.length_map]; omega)
    (fun i acc st' hi ⟨hi', ts, e, N⟩ => by
      obtain ⟨w, ew⟩ : ∃ w, ws[i]? = some w := ⟨_, List.getElem?_eq_getElem hi⟩
      obtain ⟨M, eu, hb⟩ := h.get ew
      obtain ⟨p, qs, st'', hb, NF⟩ := hb st' N.gr
      refine ⟨w, st'', by rw [ht st' N.gr i, ew], .inl ⟨.ref p, hb, by omega, ts ++ [(p, qs)], by simp [e], ?_⟩⟩
      rw [List.take_add_one, eu]
      exact N.snoc NF)
    (fun acc st' ⟨_, ts, _, N⟩ => by rw [ht st' N.gr, List.getElem?_eq_none_iff.mpr (Nat.le_refl _)]) it.most 0 [] st (by omega) (by omega) ⟨by omega, [], rfl, by rw [List.take_zero]; exact .nil _⟩
  have hlen := h.len
  rw [hlen, List.take_length] at N
  have hq := N.tabs.len
  refine ⟨st2.length, ts, st2 ++ [.lst vs], ?_, N.more (Gr.app _ _), by rw [e]; exact get_last, N.gr.len, N.tabs.lt⟩
  rw [h1]
  exact new_lst (by rw [e, List.length_map]; omega)
/-- so many rows of that width, of small scaled numbers -/
def Shp (m w : Nat) (M : List (List Rat)) : Prop := M.length = m ∧ (∀ r ∈ M, r.length = w) ∧ TSc 1 18 M
theorem Shp.put {m w i : Nat} {M : List (List Rat)} (h : Shp m w M) {ys : List Rat} (h1 : ys.length = w) (h2 : RSc 1 18 ys) : Shp m w (M.set i ys) := by
  refine ⟨by rw [List.length_set]; exact h.1, fun r hr => ?_, fun r hr => ?_⟩
  · rcases List.mem_or_eq_of_mem_set hr with z | z
    · exact h.2.1 r z
    · rw [z]; exact h1
  · rcases List.mem_or_eq_of_mem_set hr with z | z
    · exact h.2.2 r z
    · rw [z]; exact h2
/-- one row of a table is another one now -/
theorem TabF.put {α : Type} {f : α → W} {st st' : Store} {p : Nat} {qs : List Nat} {M : List (List α)} (h : TabF f st p qs M) (hp : p ∉ qs) (nd : qs.Nodup) {i q : Nat} {ys : List α} (hq : qs[i]? = some q) (g : On (fun x => x = q) st st') (hy : Is st' q (ys.map f)) : TabF f st' p qs (M.set i ys) := by
  have hi : i < qs.length := (List.getElem?_eq_some_iff.mp hq).1
  have hq' := (List.getElem?_eq_some_iff.mp hq).2
  have hne : p ≠ q := fun e => hp (by rw [e]; exact List.mem_of_getElem? hq)
  refine ⟨g.get h.at_ hne, all2_ix (by rw [List.length_set]; exact h.rows.len) fun j a ha b hb => ?_⟩
  by_cases hji : i = j
  · subst hji
    have : b = ys := by
      rw [List.getElem?_set_self (by have := h.rows.len; omega)] at hb
      exact (Option.some.inj hb).symm
    subst this
    have ea : a = q := by rw [hq] at ha; exact (Option.some.inj ha).symm
    rw [ea]
    exact hy
  · rw [List.getElem?_set_ne hji] at hb
    have hja : j < qs.length := (List.getElem?_eq_some_iff.mp ha).1
    have ha' := (List.getElem?_eq_some_iff.mp ha).2
    have hne2 : a ≠ q := fun e => hji ((List.getElem_inj nd).mp (by rw [hq', ha', e]))
    obtain ⟨b', hb', r⟩ := h.rows.get ha
    rw [hb] at hb'
    cases hb'
    exact g.get r hne2
/-- one of several tables is another one now -/
theorem Tabs.put {st st' : Store} {ts : List (Nat × List Nat)} {Ms : List (List (List Rat))} (h : Tabs st ts Ms) (ap : Apart ts) {i : Nat} {t : Nat × List Nat} {M : List (List Rat)} (hq : ts[i]? = some t) (g : On (fun x => x ∈ t.1 :: t.2) st st') (hy : TabF fq st' t.1 t.2 M) : Tabs st' ts (Ms.set i M) := by
  have hi : i < ts.length := (List.getElem?_eq_some_iff.mp hq).1
  refine all2_ix (by rw [List.length_set]; exact h.len) fun j a ha b hb => ?_
  by_cases hji : i = j
  · subst hji
    have : b = M := by
      rw [List.getElem?_set_self (by have := h.len; omega)] at hb
      exact (Option.some.inj hb).symm
    subst this
    have ea : a = t := by rw [hq] at ha; exact (Option.some.inj ha).symm
    rw [ea]
    exact hy
  · rw [List.getElem?_set_ne hji] at hb
    obtain ⟨b', hb', r⟩ := h.get ha
    rw [hb] at hb'
    cases hb'
    have := ap j i a t ha hq (Ne.symm hji)
    exact r.on g (this a.1 (by simp)) fun q hq => this q (by simp [hq])
theorem all2_put {α β : Type} {R : α → β → Prop} {as : List α} {bs : List β} (h : All2 R as bs) {i : Nat} {b : β} (hb : ∀ a, as[i]? = some a → R a b) : All2 R as (bs.set i b) := by
  refine all2_ix (by rw [List.length_set]; exact h.len) fun j a ha c hc => ?_
  by_cases hji : i = j
  · subst hji
    have hl := (List.getElem?_eq_some_iff.mp hc).1
    rw [List.length_set] at hl
    rw [List.getElem?_set_self hl] at hc
    cases hc
    exact hb a ha
  · rw [List.getElem?_set_ne hji] at hc
    obtain ⟨b', hb', r⟩ := h.get ha
    rw [hc] at hb'
    cases hb'
    exact r
theorem On.gr_l {p : Nat → Prop} {a b c : Store} (g : Gr a b) (h : On p b c) (hp : ∀ x, p x → a.length ≤ x) : Gr a c := by
  have hl := Nat.le_trans g.len h.1
  refine ⟨c.drop a.length, ?_⟩
  refine List.ext_getElem? fun i => ?_
  by_cases hi : i < a.length
  · rw [List.getElem?_append_left hi]
    obtain ⟨ex, rfl⟩ := g
    rw [h.2 i (by simp; omega) fun z => by have := hp i z; omega, List.getElem?_append_left hi]
  · rw [List.getElem?_append_right (by omega), List.getElem?_drop]
    congr 1
    omega
/-! ### objects -/
theorem mthR_obj {o : Orc} {m f n c : Nat} {fs : List (Nat × W)} {F : Store → R (List W)} {st : Store} (h : st[n]? = some (.ins c fs)) (hf : o.cm c m = some f) : mthR o m F st (.ref n) = (F st).bind fun ws st => o.call f (.ref n :: ws) st := by
  have e : getm o st (.ref n) m = some f := by
    unfold getm insAt
    simp only [h]
    exact hf
  unfold mthR
  simp only [e]
theorem mthR0 {o : Orc} {m f n c : Nat} {fs : List (Nat × W)} {st : Store} (h : st[n]? = some (.ins c fs)) (hf : o.cm c m = some f) (ρ : Loc) : mthR o m (evA o .nil ρ) st (.ref n) = o.call f [.ref n] st := by
  rw [mthR_obj h hf, a_nil']
  rfl
theorem getFld_obj {n c f : Nat} {fs : List (Nat × W)} {w : W} {st : Store} (h : st[n]? = some (.ins c fs)) (hw : fs.lookup f = some w) : getFldW (.ref n) f st = some w := by
  unfold getFldW
  simp only [h, hw]
theorem setFld_obj {n c f : Nat} {fs : List (Nat × W)} {w : W} {st : Store} {ρ : Loc} (h : st[n]? = some (.ins c fs)) (hl : fs.length < 1000) : setFR (.ref n) f w ρ st = .ok ρ (st.set n (.ins c (putFld f w fs))) := by
  unfold setFR setFldW
  simp only [h, if_pos hl]
/-! ### data that is equal to itself -/
theorem sk_all {ds : List PyData} (h : ∀ d ∈ ds, PyData.eqv d d = true) : PyData.eqvAll ds ds = true := by
  induction ds with
  | nil => rfl
  | cons d ds ih =>
    show (PyData.eqv d d && PyData.eqvAll ds ds) = true
    rw [h d (by simp), ih fun e he => h e (by simp [he])]; rfl
theorem Sk.refl {j : Nat} {d : PyData} (h : Sk j d) : PyData.eqv d d = true := by
  induction h with
  | int i => rw [eqI]; simp
  | tup h ih => exact sk_all ih
  | lst h ih => exact sk_all ih
theorem Sk.lay {j : Nat} {d : PyData} (h : Sk j d) : Lay j d := by
  induction h with
  | int i => exact lay_int i
  | tup h ih => exact lay_tuple ih
  | lst h ih => exact lay_list ih
theorem Sk.ne {j : Nat} {d : PyData} (h : Sk j d) (hj : j ≤ 60) {st : Store} {w u : W} (hw : Dn st w d) (hu : Dn st u d) : cmpR .NotEq w u st = .ok false st := by
  rw [c_neD hw hu (h.lay.mono hj) (h.lay.mono hj), h.refl]; rfl
theorem Sk.eq {j : Nat} {d : PyData} (h : Sk j d) (hj : j ≤ 60) {st : Store} {w u : W} (hw : Dn st w d) (hu : Dn st u d) : cmpR .Eq w u st = .ok true st := by
  rw [c_eqD hw hu (h.lay.mono hj) (h.lay.mono hj), h.refl]
theorem Sk.up {j k : Nat} {d : PyData} (h : Sk j d) : j ≤ k → Sk k d := by
  induction h generalizing k with
  | int i => exact fun _ => .int i
  | tup h ih =>
    intro l
    obtain ⟨k, rfl⟩ : ∃ k', k = k' + 1 := ⟨k - 1, by omega⟩
    exact .tup fun d hd => ih d hd (by omega)
  | lst h ih =>
    intro l
    obtain ⟨k, rfl⟩ : ∃ k', k = k' + 1 := ⟨k - 1, by omega⟩
    exact .lst fun d hd => ih d hd (by omega)
/-- a list of tables -/
def dL (Ms : List (List (List Rat))) : PyData := .list (Ms.map fun M => dT (frT M))
theorem sk_dL (Ms : List (List (List Rat))) : Sk 4 (dL Ms) := .lst (by intro d hd; obtain ⟨x, _, rfl⟩ := List.mem_map.mp hd; exact sk_dT _)
theorem TabF.q {st : Store} {p : Nat} {qs : List Nat} {M : List (List Rat)} (h : TabF fq st p qs M) : TabQ st p qs M := ⟨h.at_, h.rows⟩
theorem Tabs.dns {st : Store} : ∀ {ts : List (Nat × List Nat)} {Ms : List (List (List Rat))}, Tabs st ts Ms → Dns st (ts.map fun t => W.ref t.1) (Ms.map fun M => dT (frT M))
  | _, _, .nil => .nil
  | _, _, .cons h t => .cons h.q.fr.dn (Tabs.dns t)
/-- the same as tuples -/
def tQ (xs : List Rat) : W := .tup (xs.map fq)
def tT (M : List (List Rat)) : W := .tup (M.map tQ)
def tL (Ms : List (List (List Rat))) : W := .tup (Ms.map tT)
def dtQ (xs : List Rat) : PyData := .tuple (xs.map fun x => dF (ofR x))
def dtT (M : List (List Rat)) : PyData := .tuple (M.map dtQ)
def dtL (Ms : List (List (List Rat))) : PyData := .tuple (Ms.map dtT)
theorem sk_dtL (Ms : List (List (List Rat))) : Sk 4 (dtL Ms) := .tup (by
  intro d hd; obtain ⟨x, _, rfl⟩ := List.mem_map.mp hd
  refine .tup ?_
  intro d hd; obtain ⟨x, _, rfl⟩ := List.mem_map.mp hd
  refine .tup ?_
  intro d hd; obtain ⟨x, _, rfl⟩ := List.mem_map.mp hd
  exact sk_dF _)
theorem dns_map {α : Type} {st : Store} {f : α → W} {g : α → PyData} (h : ∀ x, Dn st (f x) (g x)) : ∀ xs : List α, Dns st (xs.map f) (xs.map g)
  | [] => .nil
  | x :: xs => .cons (h x) (dns_map h xs)
theorem tL_dn (st : Store) (Ms : List (List (List Rat))) : Dn st (tL Ms) (dtL Ms) := .tup (dns_map (fun M => .tup (dns_map (fun xs => .tup (dns_map (fun x => fp_dn st _) xs)) M)) Ms)
/-- a comprehension of things of which something is known that stays -/
theorem lc_gen {β : Type} {R : Store → W → β → Prop} (hR : ∀ st st' w b, Gr st st' → R st w b → R st' w b) {body : W → Loc → Store → Mx.R (Option W)} {it : Iter} {ρ : Loc} {ws : List W} {ds : List β} {st : Store} (ht : Tells it st ws) (h : All2 (fun w d => ∀ st', Gr st st' → ∃ u st'', body w ρ st' = .ok (some u) st'' ∧ Gr st' st'' ∧ R st'' u d) ws ds) (hl : ws.length ≤ 1000) (hm : ws.length ≤ it.most) :
    ∃ (q : Nat) (us : List W) (st2 : Store), ((lcLoop body it ρ it.most 0 [] st).bind fun ws st => newLst ws st) = .ok (.ref q) st2 ∧ Gr st st2 ∧ Is st2 q us ∧ All2 (R st2) us ds ∧ st.length ≤ q := by
  obtain ⟨vs, st2, h1, g, hi, e⟩ := lc_inv (it := it) (body := body) (ρ := ρ) (n := ws.length) (Inv := fun i acc st' => Gr st st' ∧ i ≤ ws.length ∧ All2 (R st') acc (ds.take i))
    (fun i acc st' h => by
      have := h.2.2.len
      rw [List.length_take] at this
      have := h.2.1
      omega)
    (fun i acc st' hi ⟨g, hi', e⟩ => by
      obtain ⟨w, ew⟩ : ∃ w, ws[i]? = some w := ⟨_, List.getElem?_eq_getElem hi⟩
      obtain ⟨d, eu, hb⟩ := h.get ew
      obtain ⟨u, st'', hb, g', hd⟩ := hb st' g
      refine ⟨w, st'', by rw [ht st' g i, ew], .inl ⟨u, hb, g.trans g', by omega, ?_⟩⟩
      rw [List.take_add_one, eu]
      exact (e.imp fun _ _ _ _ r => hR _ _ _ _ g' r).snoc hd)
    (fun acc st' ⟨g, _, _⟩ => by rw [ht st' g, List.getElem?_eq_none_iff.mpr (Nat.le_refl _)]) it.most 0 [] st (by omega) (by omega) ⟨.refl _, by omega, by rw [List.take_zero]; exact .nil⟩
  have hlen := h.len
  rw [hlen, List.take_length] at e
  have hv := e.len
  refine ⟨st2.length, vs, st2 ++ [.lst vs], ?_, g.trans (Gr.app _ _), get_last, e.imp fun _ _ _ _ r => hR _ _ _ _ (Gr.app _ _) r, g.len⟩
  rw [h1]
  exact new_lst (by omega)
theorem intsOf_map (is : List Int) : intsOf (is.map W.int) = some is := by
  induction is with
  | nil => rfl
  | cons i is ih => show (intsOf (is.map W.int)).map (i :: ·) = _; rw [ih]; rfl
theorem sum_ints {st : Store} {n : Nat} {is : List Int} (h : Is st n (is.map W.int)) : biW .sum [.ref n] st = .ok (.int is.sum) st := by
  have e : lstAt st n = some (is.map W.int) := by rw [lst_at, h]; rfl
  unfold biW
  simp only [e, Option.bind_some, intsOf_map]
def bwI (Ms : List (List Int)) (ns : List Int) (Ns : List (List Int)) (gs : List Int) : List Int := List.zipWith (fun a b => dI a ns + dI b gs) Ms Ns
def addQ (xs ys : List Rat) : List Rat := List.zipWith (· + ·) xs ys
/-- table times row and other table times other row -/
def bwQ (M : List (List Rat)) (x : List Rat) (N : List (List Rat)) (u : List Rat) : List Rat := addQ (M.map fun r => dq r x) (N.map fun r => dq r u)
theorem Zs_bw {e K : Nat} {ns gs : List Int} {x u : List Rat} (hx : Zs e ns x) (hu : Zs e gs u) : ∀ {M N : List (List Rat)}, TSc 1 K M → TSc 1 K N → Zs (1 + e) (bwI (M.map (List.map zQ)) ns (N.map (List.map zQ)) gs) (bwQ M x N u)
  | [], _, _, _ => by unfold bwI bwQ addQ; simp; exact Zs.nil _
  | _ :: _, [], _, _ => by unfold bwI bwQ addQ; simp; exact Zs.nil _
  | r :: M, r' :: N, h, g => by
    have ih := Zs_bw hx hu (M := M) (N := N) (fun y hy => h y (by simp [hy])) (fun y hy => g y (by simp [hy]))
    unfold bwI bwQ addQ at *
    simp only [List.map_cons, List.zipWith_cons_cons]
    refine Zs.cons.mpr ⟨?_, ih⟩
    rw [Rat.intCast_add, dI_dq (zQs_ok (h r (by simp))).1 hx, dI_dq (zQs_ok (g r' (by simp))).1 hu]
    grind
theorem RI.mono {N K : Nat} {ns : List Int} (h : RI N ns) (l : N ≤ K) : RI K ns := fun n hn => (h n hn).mono l
theorem RI_bw {K L n : Nat} {ns gs : List Int} (hn : RI L ns) (hg : RI L gs) {M N : List (List Rat)} (hM : TSc 1 K M) (hN : TSc 1 K N) (lM : ∀ r ∈ M, r.length ≤ n) (lN : ∀ r ∈ N, r.length ≤ n) : RI (K + L + n + 1) (bwI (M.map (List.map zQ)) ns (N.map (List.map zQ)) gs) := by
  intro z hz
  obtain ⟨j, hj, rfl⟩ := List.mem_iff_getElem.mp hz
  unfold bwI at hj ⊢
  rw [List.length_zipWith, List.length_map, List.length_map] at hj
  rw [List.getElem_zipWith, List.getElem_map, List.getElem_map]
  have h1 := dI_sm (n := n) (zQs_ok (hM (M[j]'(by omega)) (List.getElem_mem _))).2 hn (by rw [List.length_map]; exact lM _ (List.getElem_mem _))
  have h2 := dI_sm (n := n) (zQs_ok (hN (N[j]'(by omega)) (List.getElem_mem _))).2 hg (by rw [List.length_map]; exact lN _ (List.getElem_mem _))
  exact (h1.add h2).mono (by omega)
theorem Zs_mul {e d : Nat} {ns : List Int} {xs : List Rat} (h : Zs e ns xs) : Zs (e + d) (ns.map fun n => n * (27720 : Int) ^ d) xs := by
  unfold Zs at *
  rw [List.map_map]
  have : ((fun n : Int => (n : Rat)) ∘ fun n => n * (27720 : Int) ^ d) = (fun x : Rat => x * (27720 : Rat) ^ d) ∘ fun n : Int => (n : Rat) := by
    funext n
    simp only [Function.comp]
    rw [Rat.intCast_mul, cast_pow]
  rw [this, ← List.map_map, h, List.map_map]
  refine List.map_congr_left fun x _ => ?_
  simp only [Function.comp]
  rw [pow_addQ, Rat.mul_assoc]
theorem RI_mul {N d : Nat} {ns : List Int} (h : RI N ns) : RI (N + (15 * d + 1)) (ns.map fun n => n * (27720 : Int) ^ d) := by
  intro z hz
  obtain ⟨n, hn, rfl⟩ := List.mem_map.mp hz
  exact (h n hn).mul (sm_pow d)
/-- a comprehension of new rows of which only some things are known -/
theorem lc_rowsX {α : Type} {f : α → W} {Q : List α → Prop} {body : W → Loc → Store → R (Option W)} {it : Iter} {ρ : Loc} {ws : List W} {st : Store} (ht : Tells it st ws) (h : ∀ w ∈ ws, ∀ st', Gr st st' → ∃ (q : Nat) (xs : List α) (st'' : Store), body w ρ st' = .ok (some (.ref q)) st'' ∧ New st' st'' q (xs.map f) ∧ Q xs) (hl : ws.length ≤ 1000) (hm : ws.length ≤ it.most) :
    ∃ p qs M st2, ((lcLoop body it ρ it.most 0 [] st).bind fun ws st => newLst ws st) = .ok (.ref p) st2 ∧ NewF f st st2 p qs M ∧ M.length = ws.length ∧ ∀ xs ∈ M, Q xs := by
  obtain ⟨vs, st2, h1, g, hi, qs, M, e, lM, e2, nd, big, hQ⟩ := lc_inv (it := it) (body := body) (ρ := ρ) (n := ws.length) (Inv := fun i acc st' => Gr st st' ∧ i ≤ ws.length ∧ ∃ (qs : List Nat) (M : List (List α)), acc = qs.map W.ref ∧ M.length = i ∧ All2 (fun q xs => Is st' q (xs.map f)) qs M ∧ qs.Nodup ∧ (∀ q ∈ qs, st.length ≤ q ∧ q < st'.length) ∧ ∀ xs ∈ M, Q xs)
    (fun i acc st' h => by
      obtain ⟨_, hi, qs, M, e, lM, a, _⟩ := h
      have := a.len
      rw [e, List.length_map]; omega)
    (fun i acc st' hi ⟨g, hi', qs, M, e, lM, a, nd, big, hQ⟩ => by
      obtain ⟨w, ew⟩ : ∃ w, ws[i]? = some w := ⟨_, List.getElem?_eq_getElem hi⟩
      obtain ⟨q, xs, st'', hb, N, hq⟩ := h w (List.mem_of_getElem? ew) st' g
      refine ⟨w, st'', by rw [ht st' g i, ew], .inl ⟨.ref q, hb, g.trans N.gr, by omega, qs ++ [q], M ++ [xs], by simp [e], by simp [lM], ?_, ?_, ?_, ?_⟩⟩
      · have a' := a.imp (R' := fun q xs => Is st'' q (xs.map f)) fun _ _ _ _ r => N.gr.get r
        exact a'.snoc N.at_
      · rw [List.nodup_append]
        refine ⟨nd, by simp, fun x hx y hy => ?_⟩
        rw [List.mem_singleton] at hy
        have := (big x hx).2
        have := N.new
        omega
      · intro x hx
        rcases List.mem_append.mp hx with z | z
        · have := big x z; have := N.gr.len; omega
        · rw [List.mem_singleton] at z
          subst z
          have := N.new; have := g.len; have := lt_of_is N.at_
          omega
      · intro x hx
        rcases List.mem_append.mp hx with z | z
        · exact hQ x z
        · rw [List.mem_singleton] at z; subst z; exact hq)
    (fun acc st' ⟨g, _⟩ => by rw [ht st' g, List.getElem?_eq_none_iff.mpr (Nat.le_refl _)]) it.most 0 [] st (by omega) (by omega) ⟨.refl _, by omega, [], [], rfl, rfl, .nil, by simp, by simp, by simp⟩
  have hq := e2.len
  refine ⟨st2.length, qs, M, st2 ++ [.lst vs], ?_, ⟨g.trans (Gr.app _ _), g.len, ⟨by rw [e]; exact get_last, e2.imp fun _ _ _ _ r => get_more r⟩, nd, fun hm => by have := (big _ hm).2; omega, fun q hq => (big q hq).1⟩, lM, hQ⟩
  rw [h1]
  exact new_lst (by rw [e, List.length_map]; omega)
/-- a part of the script -/
theorem cut_scr (is : List Int) (a b : Nat) (hab : a ≤ b) : ∃ js : List Int, cutW (is.map W.int) (some (a : Int)) (some (b : Int)) = js.map W.int ∧ js.length ≤ b - a := by
  refine ⟨((is.drop (min a is.length)).take (min b is.length - min a is.length)), ?_, ?_⟩
  · unfold cutW
    rw [HT.sIx_nat, HT.sIx_nat, List.length_map, List.map_take, List.map_drop]
  · rw [List.length_take]; omega
theorem slW_scr {is : List Int} {lo hi : Option Int} {st : Store} : slW st (.scr is) lo hi = newLst (cutW (is.map W.int) lo hi) st := rfl
/-! ### columns and products -/
def colF {α : Type} (d : α) (M : List (List α)) (w : Nat) : List (List α) := (List.range w).map fun j => M.map fun r => r.getD j d
def prodQ (M N : List (List Rat)) (w : Nat) : List (List Rat) := M.map fun r => (colF 0 N w).map fun c => dq r c
def prodI (M N : List (List Int)) (w : Nat) : List (List Int) := M.map fun r => (colF 0 N w).map fun c => dI r c
theorem cols_lc (o : Orc) {α : Type} (f : α → W) (d : α) {st : Store} {p : Nat} {qs : List Nat} {M : List (List α)} {w : Nat} (h : TabF f st p qs M) (hw : ∀ r ∈ M, r.length = w) (h1 : M.length ≤ 100) (h2 : w ≤ 100) :
    ∃ p' qs' st', ((lcLoop (lcBody o (.name 3) .nil (.lc [2] (.name 2) (.val (.var 0)) .nil (.idx (.var 2) (.var 3)))) (.rng 0 w) [some (.ref p), some (.int w), none, none] w 0 [] st).bind fun ws st => newLst ws st) = .ok (.ref p') st' ∧ NewF f st st' p' qs' (colF d M w) := by
  have lq := h.len
  exact lc_rowsF (f := f) (M := colF d M w) (body := lcBody o (.name 3) .nil (.lc [2] (.name 2) (.val (.var 0)) .nil (.idx (.var 2) (.var 3)))) (it := .rng 0 w) (ρ := [some (.ref p), some (.int w), none, none]) (tells_rng st 0 w) (by
    unfold rngW colF
    refine all2_map fun j hj st' g => ?_
    have hj := List.mem_range.mp hj
    have h' := h.gr g
    obtain ⟨q, s2, e2, N2⟩ := lc_list (body := lcBody o (.name 2) .nil (.idx (.var 2) (.var 3))) (it := .lst p M.length) (ρ := [some (.ref p), some (.int w), none, some (.int (0 + (j : Nat)))]) (tells_lst h'.at_)
      (us := (M.map fun r => r.getD j d).map f) (by
        rw [List.map_map]
        refine all2_tabF h'.rows fun q xs hx a st3 g3 => ⟨st3, ?_, .refl _⟩
        have a' : st3[q]? = some (.lst (xs.map f)) := g3.get a
        have hl : j < xs.length := by rw [hw xs hx]; exact hj
        have e : (xs.map f)[j]? = some (f (xs.getD j d)) := by
          rw [List.getElem?_map, List.getD_eq_getElem?_getD, List.getElem?_eq_getElem hl]; rfl
        simp only [lcBody, g_name', bind_ok', ts_nil', e_idx', e_var', List.set_cons_succ, List.set_cons_zero, getL_2, getL_1, getL_0, getL_3, ix_ref, a', Int.zero_add, ixC_lst, atI_nat, e, ofOpt_some]
        rfl) (by simp; omega) (by simp; omega)
    refine ⟨q, s2, ?_, N2⟩
    have a' : st'[p]? = some (.lst (qs.map W.ref)) := h'.at_
    simp at e2
    simp [lcBody, a', lq, e2]) (by simp [rngW]; omega) (by simp [rngW])
theorem colF_len {α : Type} (d : α) (M : List (List α)) (w : Nat) : (colF d M w).length = w := by simp [colF]
theorem colF_row {α : Type} (d : α) (M : List (List α)) (w : Nat) : ∀ c ∈ colF d M w, c.length = M.length := by
  intro c hc
  obtain ⟨j, _, rfl⟩ := List.mem_map.mp hc
  simp
theorem getD_mem {α : Type} {d : α} {r : List α} {j : Nat} (h : j < r.length) : r.getD j d ∈ r := by
  rw [List.getD_eq_getElem?_getD, List.getElem?_eq_getElem h]
  exact List.getElem_mem _
theorem colF_sc {e K w : Nat} {M : List (List Rat)} (h : TSc e K M) (hw : ∀ r ∈ M, r.length = w) : TSc e K (colF 0 M w) := by
  intro c hc x hx
  obtain ⟨j, hj, rfl⟩ := List.mem_map.mp hc
  obtain ⟨r, hr, rfl⟩ := List.mem_map.mp hx
  exact h r hr _ (getD_mem (by rw [hw r hr]; exact List.mem_range.mp hj))
theorem colF_ri {K w : Nat} {M : List (List Int)} (h : ∀ r ∈ M, RI K r) (hw : ∀ r ∈ M, r.length = w) : ∀ c ∈ colF 0 M w, RI K c := by
  intro c hc x hx
  obtain ⟨j, hj, rfl⟩ := List.mem_map.mp hc
  obtain ⟨r, hr, rfl⟩ := List.mem_map.mp hx
  exact h r hr _ (getD_mem (by rw [hw r hr]; exact List.mem_range.mp hj))
/-- whole numbers of a scaled table -/
def ZT (e : Nat) (Ns : List (List Int)) (M : List (List Rat)) : Prop := All2 (Zs e) Ns M
theorem ZT_map {e w : Nat} {Ns : List (List Int)} {M : List (List Rat)} (h : ZT e Ns M) (hw : ∀ r ∈ M, r.length = w) {j : Nat} (hj : j < w) : Zs e (Ns.map fun r => r.getD j 0) (M.map fun r => r.getD j 0) := by
  unfold ZT at h
  induction h with
  | nil => exact Zs.nil _
  | @cons n m ns ms h t ih =>
    refine Zs.cons.mpr ⟨?_, ih fun r hr => hw r (by simp [hr])⟩
    have l1 := h.len
    have l2 := hw m (by simp)
    show ((n.getD j 0 : Int) : Rat) = m.getD j 0 * _
    rw [List.getD_eq_getElem?_getD, List.getD_eq_getElem?_getD, List.getElem?_eq_getElem (by omega), List.getElem?_eq_getElem (by omega)]
    exact h.get (List.getElem?_eq_getElem (by omega)) (List.getElem?_eq_getElem (by omega))
theorem ZT_col {e w : Nat} {Ns : List (List Int)} {M : List (List Rat)} (h : ZT e Ns M) (hw : ∀ r ∈ M, r.length = w) : ZT e (colF 0 Ns w) (colF 0 M w) := by
  unfold colF ZT
  exact all2_map fun j hj => ZT_map h hw (List.mem_range.mp hj)
theorem Zs_map {e f : Nat} {r : List Int} {x : List Rat} (h : Zs e r x) {Ns : List (List Int)} {M : List (List Rat)} (g : ZT f Ns M) : Zs (e + f) (Ns.map fun c => dI r c) (M.map fun c => dq x c) := by
  unfold ZT at g
  induction g with
  | nil => exact Zs.nil _
  | cons g t ih => exact Zs.cons.mpr ⟨dI_dq h g, ih⟩
theorem ZT_prod {e f w : Nat} {Ns Ms : List (List Int)} {N M : List (List Rat)} (h : ZT e Ns N) (g : ZT f Ms M) (hw : ∀ r ∈ M, r.length = w) : ZT (e + f) (prodI Ns Ms w) (prodQ N M w) := by
  have gc := ZT_col g hw
  unfold prodI prodQ
  unfold ZT at h ⊢
  induction h with
  | nil => exact .nil
  | cons h t ih => exact .cons (Zs_map h gc) ih
theorem ZT.lens {e : Nat} {Ns : List (List Int)} {M : List (List Rat)} (h : ZT e Ns M) {w : Nat} (hw : ∀ r ∈ M, r.length = w) : ∀ r ∈ Ns, r.length = w := fun r hr => by
  obtain ⟨m, hm, z⟩ := All2.mem h hr
  rw [z.len, hw m hm]
theorem prodQ_sc {e f K L n w : Nat} {M N : List (List Rat)} (h : TSc e K M) (g : TSc f L N) (hl : ∀ r ∈ M, r.length ≤ n) (hw : ∀ r ∈ N, r.length = w) : TSc (e + f) (K + L + n) (prodQ M N w) := by
  intro r hr x hx
  obtain ⟨r', hr', rfl⟩ := List.mem_map.mp hr
  obtain ⟨c, hc, rfl⟩ := List.mem_map.mp hx
  exact Sc.dq (h r' hr') (colF_sc g hw c hc) (hl r' hr')
theorem prodI_ri {K L n w : Nat} {M N : List (List Int)} (h : ∀ r ∈ M, RI K r) (g : ∀ r ∈ N, RI L r) (hl : ∀ r ∈ M, r.length ≤ n) (hw : ∀ r ∈ N, r.length = w) : ∀ r ∈ prodI M N w, RI (K + L + n) r := by
  intro r hr x hx
  obtain ⟨r', hr', rfl⟩ := List.mem_map.mp hr
  obtain ⟨c, hc, rfl⟩ := List.mem_map.mp hx
  exact dI_sm (h r' hr') (colF_ri g hw c hc) (hl r' hr')
theorem prodQ_len (M N : List (List Rat)) (w : Nat) : (prodQ M N w).length = M.length := by simp [prodQ]
theorem prodQ_row (M N : List (List Rat)) (w : Nat) : ∀ r ∈ prodQ M N w, r.length = w := by
  intro r hr
  obtain ⟨r', _, rfl⟩ := List.mem_map.mp hr
  simp [colF]
/-- the answers of four tables -/
def pwQ (A B : List (List Rat)) (i : Nat) : Nat → List (List Rat)
  | 0 => B
  | j + 1 => prodQ A (pwQ A B i j) i
def ansQ (A B C D : List (List Rat)) (i : Nat) : Nat → List (List Rat)
  | 0 => D
  | j + 1 => prodQ C (pwQ A B i j) i
theorem pwQ_sh {m i : Nat} {A B : List (List Rat)} (hA : Shp m m A) (hB : Shp m i B) (hm : m ≤ 8) : ∀ j, (pwQ A B i j).length = m ∧ (∀ r ∈ pwQ A B i j, r.length = i) ∧ TSc (j + 1) (30 * (j + 1)) (pwQ A B i j)
  | 0 => ⟨hB.1, hB.2.1, fun r hr x hx => (hB.2.2 r hr x hx).mono (by decide)⟩
  | j + 1 => by
    obtain ⟨h1, h2, h3⟩ := pwQ_sh hA hB hm j
    refine ⟨by rw [pwQ, prodQ_len]; exact hA.1, prodQ_row _ _ _, fun r hr x hx => ?_⟩
    have := prodQ_sc (n := 8) hA.2.2 h3 (fun r hr => by rw [hA.2.1 r hr]; exact hm) h2 r hr x hx
    rw [show 1 + (j + 1) = j + 1 + 1 by omega] at this
    exact this.mono (by omega)
theorem ansQ_sh {m i o : Nat} {A B C D : List (List Rat)} (hA : Shp m m A) (hB : Shp m i B) (hC : Shp o m C) (hD : Shp o i D) (hm : m ≤ 8) : ∀ j, (ansQ A B C D i j).length = o ∧ (∀ r ∈ ansQ A B C D i j, r.length = i) ∧ TSc (j + 1) (30 * (j + 1)) (ansQ A B C D i j)
  | 0 => ⟨hD.1, hD.2.1, fun r hr x hx => (hD.2.2 r hr x hx).mono (by decide)⟩
  | j + 1 => by
    obtain ⟨h1, h2, h3⟩ := pwQ_sh hA hB hm j
    refine ⟨by rw [ansQ, prodQ_len]; exact hC.1, prodQ_row _ _ _, fun r hr x hx => ?_⟩
    have := prodQ_sc (n := 8) hC.2.2 h3 (fun r hr => by rw [hC.2.1 r hr]; exact hm) h2 r hr x hx
    rw [show 1 + (j + 1) = j + 1 + 1 by omega] at this
    exact this.mono (by omega)
theorem NewT.on {p : Nat → Prop} {st s1 s2 : Store} {ts : List (Nat × List Nat)} {Ms : List (List (List Rat))} (h : NewT st s1 ts Ms) (g : On p s1 s2) (h1 : ∀ x, p x → st.length ≤ x) (h2 : ∀ t ∈ ts, ∀ x ∈ t.1 :: t.2, ¬ p x) : NewT st s2 ts Ms := ⟨g.gr_l h.gr h1, h.tabs.on g h2, h.ap, h.own, h.big⟩
/-- a while loop of at most n turns -/
theorem whl_inv {test : Loc → Store → R Bool} {body : Loc → Store → Out} {Inv : Nat → Loc → Store → Prop} {n : Nat}
    (h : ∀ i ρ st, i < n → Inv i ρ st → test ρ st = .ok true st ∧ ∃ ρ' st', body ρ st = .nx ρ' st' ∧ Inv (i + 1) ρ' st')
    (he : ∀ ρ st, Inv n ρ st → test ρ st = .ok false st) {ρ : Loc} {st : Store} (hn : n < mostTurns) (h0 : Inv 0 ρ st) : ∃ ρ' st', whlLoop test body mostTurns ρ st = .nx ρ' st' ∧ Inv n ρ' st' := by
  rcases whl_ret (test := test) (body := body) (Inv := Inv) (End := fun ρ st => Inv n ρ st) (Ret := fun _ _ => False) (n := n) (fun i ρ st hi hI => by
    obtain ⟨h1, ρ', st', h2, h3⟩ := h i ρ st hi hI
    exact ⟨st, h1, .inl ⟨ρ', st', .inl h2, h3⟩⟩) (fun ρ st hI => ⟨st, he ρ st hI, hI⟩) (m := mostTurns) (i := 0) (by omega) (by omega) h0 with h | ⟨_, _, _, hf⟩
  · exact h
  · exact hf.elim
/-- a list of tables, and the tables -/
structure LsT (st : Store) (f : Nat) (ts : List (Nat × List Nat)) (Ms : List (List (List Rat))) : Prop where
  at_ : Is st f (ts.map fun t => W.ref t.1)
  tabs : Tabs st ts Ms
theorem LsT.gr {st st' : Store} {f : Nat} {ts : List (Nat × List Nat)} {Ms : List (List (List Rat))} (h : LsT st f ts Ms) (g : Gr st st') : LsT st' f ts Ms := ⟨g.get h.at_, h.tabs.gr g⟩
theorem LsT.dn {st : Store} {f : Nat} {ts : List (Nat × List Nat)} {Ms : List (List (List Rat))} (h : LsT st f ts Ms) : Dn st (.ref f) (dL Ms) := .lst h.at_ h.tabs.dns
/-! ### sums of products are linear -/
section
variable {α β : Type}
theorem dq_nil (xs : List Rat) : dq xs [] = 0 := by cases xs <;> rfl
theorem nil_dq (xs : List Rat) : dq [] xs = 0 := rfl
theorem dq_cons (x y : Rat) (xs ys : List Rat) : dq (x :: xs) (y :: ys) = x * y + dq xs ys := rfl
theorem dq_add (l : List α) (f g : α → Rat) : ∀ xs : List Rat, dq xs (l.map fun j => f j + g j) = dq xs (l.map f) + dq xs (l.map g) := by
  induction l with
  | nil => intro xs; simp [dq_nil]; grind
  | cons a l ih =>
    intro xs
    cases xs with
    | nil => simp [nil_dq]; grind
    | cons x xs => simp only [List.map_cons, dq_cons, ih xs]; grind
theorem dq_0 (l : List α) : ∀ xs : List Rat, dq xs (l.map fun _ => (0 : Rat)) = 0 := by
  induction l with
  | nil => intro xs; exact dq_nil _
  | cons a l ih =>
    intro xs
    cases xs with
    | nil => rfl
    | cons x xs => simp only [List.map_cons, dq_cons, ih xs]; grind
theorem add_dq (l : List α) (f g : α → Rat) : ∀ xs : List Rat, dq (l.map fun j => f j + g j) xs = dq (l.map f) xs + dq (l.map g) xs := by
  induction l with
  | nil => intro xs; simp [nil_dq]; grind
  | cons a l ih =>
    intro xs
    cases xs with
    | nil => simp [dq_nil]; grind
    | cons x xs => simp only [List.map_cons, dq_cons, ih xs]; grind
theorem mul_dq (l : List α) (a : Rat) (f : α → Rat) : ∀ xs : List Rat, dq (l.map fun j => a * f j) xs = a * dq (l.map f) xs := by
  induction l with
  | nil => intro xs; simp [nil_dq]
  | cons b l ih =>
    intro xs
    cases xs with
    | nil => simp [dq_nil]
    | cons x xs => simp only [List.map_cons, dq_cons, ih xs]; grind
theorem zero_dq (l : List α) : ∀ xs : List Rat, dq (l.map fun _ => (0 : Rat)) xs = 0 := by
  induction l with
  | nil => intro xs; rfl
  | cons a l ih =>
    intro xs
    cases xs with
    | nil => exact dq_nil _
    | cons x xs => simp only [List.map_cons, dq_cons, ih xs]; grind
theorem dq_sum (l : List α) (L : List β) (g : β → α → Rat) (xs : List Rat) : dq xs (l.map fun j => sumQ (L.map fun b => g b j)) = sumQ (L.map fun b => dq xs (l.map (g b))) := by
  induction L with
  | nil => exact dq_0 l xs
  | cons b L ih =>
    simp only [List.map_cons, sumQ]
    rw [dq_add, ih]
end
theorem map_getD (n : List Rat) : (List.range n.length).map (fun j => n.getD j 0) = n := by
  refine List.ext_getElem? fun j => ?_
  by_cases h : j < n.length
  · rw [List.getElem?_map, List.getElem?_range h, List.getElem?_eq_getElem h]
    show some (n.getD j 0) = _
    rw [List.getD_eq_getElem?_getD, List.getElem?_eq_getElem h]; rfl
  · rw [List.getElem?_eq_none_iff.mpr (by simp; omega), List.getElem?_eq_none_iff.mpr (by omega)]
theorem map_getT {α : Type} (M : List (List Rat)) (f : List Rat → α) : M.map f = (List.range M.length).map fun r => f (M.getD r []) := by
  refine List.ext_getElem? fun j => ?_
  by_cases h : j < M.length
  · rw [List.getElem?_map, List.getElem?_map, List.getElem?_range h, List.getElem?_eq_getElem h]
    show some (f M[j]) = some (f (M.getD j []))
    rw [List.getD_eq_getElem?_getD, List.getElem?_eq_getElem h]; rfl
  · rw [List.getElem?_eq_none_iff.mpr (by simp; omega), List.getElem?_eq_none_iff.mpr (by simp; omega)]
/-- a row times a table, times a row -/
theorem dq_assoc {i : Nat} (u : List Rat) : ∀ (N : List (List Rat)) (r : List Rat), (∀ n ∈ N, n.length = i) → dq ((colF 0 N i).map fun c => dq r c) u = dq r (N.map fun n => dq n u) := by
  intro N
  induction N with
  | nil =>
    intro r _
    unfold colF
    rw [List.map_map]
    have : ((fun c => dq r c) ∘ fun j => ([] : List (List Rat)).map fun n => n.getD j 0) = fun _ : Nat => (0 : Rat) := by
      funext j; exact dq_nil r
    rw [this, zero_dq]
    exact (dq_nil r).symm
  | cons n N ih =>
    intro r hw
    cases r with
    | nil =>
      unfold colF
      rw [List.map_map]
      have : ((fun c => dq [] c) ∘ fun j => (n :: N).map fun n => n.getD j 0) = fun _ : Nat => (0 : Rat) := by
        funext j; rfl
      rw [this, zero_dq]
      rfl
    | cons a r =>
      have ih := ih r fun n hn => hw n (by simp [hn])
      have hn := hw n (by simp)
      unfold colF at *
      rw [List.map_map] at *
      have : ((fun c => dq (a :: r) c) ∘ fun j => (n :: N).map fun n => n.getD j 0) = fun j => a * n.getD j 0 + dq r (N.map fun n => n.getD j 0) := by
        funext j; rfl
      rw [this, add_dq, mul_dq]
      have e : ((fun c => dq r c) ∘ fun j => N.map fun n => n.getD j 0) = fun j => dq r (N.map fun n => n.getD j 0) := rfl
      rw [e] at ih
      rw [ih, List.map_cons, dq_cons]
      congr 2
      rw [← hn, map_getD]
/-- the run from rest, by the answers -/
def stQ (A B : List (List Rat)) (x : List Rat) (us : List (List Rat)) : List Rat := us.foldl (fun x u => bwQ A x B u) x
theorem stQ_take (A B : List (List Rat)) (x : List Rat) (us : List (List Rat)) {t : Nat} (h : t < us.length) : stQ A B x (us.take (t + 1)) = bwQ A (stQ A B x (us.take t)) B us[t] := by
  unfold stQ
  rw [List.take_add_one, List.getElem?_eq_getElem h, List.foldl_append]
  rfl
def gQ (A B M N : List (List Rat)) (i : Nat) : Nat → List (List Rat)
  | 0 => N
  | b + 1 => prodQ M (pwQ A B i b) i
theorem gQ_pw (A B : List (List Rat)) (i : Nat) : ∀ b, gQ A B A B i b = pwQ A B i b
  | 0 => rfl
  | _ + 1 => rfl
theorem gQ_ans (A B C D : List (List Rat)) (i : Nat) : ∀ b, gQ A B C D i b = ansQ A B C D i b
  | 0 => rfl
  | _ + 1 => rfl
/-- the sum of the first so many answers' rows times the inputs so many turns ahead -/
def conv (G : Nat → List (List Rat)) (U : List (List Rat)) (t r n : Nat) : Rat := sumQ ((List.range n).map fun b => dq ((G b).getD r []) (U.getD (t - b) []))
theorem conv_succ (G : Nat → List (List Rat)) (U : List (List Rat)) (t r n : Nat) : conv G U t r (n + 1) = conv G U t r n + dq ((G n).getD r []) (U.getD (t - n) []) := by
  unfold conv
  rw [List.range_succ, List.map_append]
  exact sumQ_snoc _ _
theorem prodQ_getD (M N : List (List Rat)) (i r : Nat) (h : r < M.length) : (prodQ M N i).getD r [] = (colF 0 N i).map fun c => dq (M.getD r []) c := by
  unfold prodQ
  rw [List.getD_eq_getElem?_getD, List.getElem?_map, List.getElem?_eq_getElem h, List.getD_eq_getElem?_getD, List.getElem?_eq_getElem h]
  rfl
theorem conv_of {A B M N U : List (List Rat)} {i m t r : Nat} {x : List Rat} (hp : ∀ b, (pwQ A B i b).length = m ∧ ∀ r ∈ pwQ A B i b, r.length = i) (hr : r < M.length) (hx : x = (List.range m).map fun r => conv (pwQ A B i) U (t - 1) r t) (ht : t < U.length) :
    dq (M.getD r []) x + dq (N.getD r []) U[t] = conv (gQ A B M N i) U t r (t + 1) := by
  unfold conv
  rw [List.range_succ_eq_map, List.map_cons, List.map_map]
  have e0 : dq ((gQ A B M N i 0).getD r []) (U.getD (t - 0) []) = dq (N.getD r []) U[t] := by
    rw [Nat.sub_zero, List.getD_eq_getElem?_getD (l := U), List.getElem?_eq_getElem ht]; rfl
  have e1 : ((fun b => dq ((gQ A B M N i b).getD r []) (U.getD (t - b) [])) ∘ Nat.succ) = fun b => dq (M.getD r []) ((List.range m).map fun r' => dq ((pwQ A B i b).getD r' []) (U.getD (t - 1 - b) [])) := by
    funext b
    show dq ((prodQ M (pwQ A B i b) i).getD r []) (U.getD (t - (b + 1)) []) = _
    rw [prodQ_getD _ _ _ _ hr, dq_assoc _ _ _ (hp b).2, map_getT, (hp b).1, show t - (b + 1) = t - 1 - b by omega]
  show _ = dq ((gQ A B M N i 0).getD r []) (U.getD (t - 0) []) + sumQ _
  rw [e0, e1, hx]
  unfold conv
  rw [dq_sum]
  grind
theorem st_conv {A B U : List (List Rat)} {i m : Nat} (hA : A.length = m) (hB : B.length = m) (hp : ∀ b, (pwQ A B i b).length = m ∧ ∀ r ∈ pwQ A B i b, r.length = i) : ∀ {t : Nat}, t ≤ U.length → stQ A B (List.replicate m 0) (U.take t) = (List.range m).map fun r => conv (pwQ A B i) U (t - 1) r t
  | 0, _ => by
    show List.replicate m (0 : Rat) = (List.range m).map fun _ => (0 : Rat)
    rw [List.map_const', List.length_range]
  | t + 1, ht => by
    have ih := st_conv (U := U) hA hB hp (t := t) (by omega)
    rw [stQ_take A B _ U (by omega)]
    refine List.ext_getElem? fun r => ?_
    unfold bwQ addQ
    by_cases hr : r < m
    · rw [List.getElem?_zipWith, List.getElem?_map, List.getElem?_map, List.getElem?_map, List.getElem?_range hr, List.getElem?_eq_getElem (show r < A.length by omega), List.getElem?_eq_getElem (show r < B.length by omega)]
      show some (dq A[r] _ + dq B[r] _) = some (conv (pwQ A B i) U (t + 1 - 1) r (t + 1))
      have := conv_of (M := A) (N := B) (r := r) hp (by omega) ih (by omega)
      rw [List.getD_eq_getElem?_getD, List.getD_eq_getElem?_getD, List.getElem?_eq_getElem (show r < A.length by omega), List.getElem?_eq_getElem (show r < B.length by omega)] at this
      have e : (gQ A B A B i) = pwQ A B i := by funext b; exact gQ_pw A B i b
      rw [e] at this
      exact congrArg some this
    · rw [List.getElem?_eq_none_iff.mpr (by simp; omega), List.getElem?_eq_none_iff.mpr (by simp; omega)]
/-- what comes out at a turn, from rest -/
theorem out_conv {A B C D U : List (List Rat)} {i m o : Nat} (hA : A.length = m) (hB : B.length = m) (hC : C.length = o) (hD : D.length = o) (hp : ∀ b, (pwQ A B i b).length = m ∧ ∀ r ∈ pwQ A B i b, r.length = i) {t : Nat} (ht : t < U.length) : bwQ C (stQ A B (List.replicate m 0) (U.take t)) D U[t] = (List.range o).map fun r => conv (ansQ A B C D i) U t r (t + 1) := by
  have hx := st_conv (U := U) hA hB hp (t := t) (by omega)
  refine List.ext_getElem? fun r => ?_
  unfold bwQ addQ
  by_cases hr : r < o
  · rw [List.getElem?_zipWith, List.getElem?_map, List.getElem?_map, List.getElem?_map, List.getElem?_range hr, List.getElem?_eq_getElem (show r < C.length by omega), List.getElem?_eq_getElem (show r < D.length by omega)]
    show some (dq C[r] _ + dq D[r] _) = some (conv (ansQ A B C D i) U t r (t + 1))
    have := conv_of (M := C) (N := D) (r := r) hp (by omega) hx ht
    rw [List.getD_eq_getElem?_getD, List.getD_eq_getElem?_getD, List.getElem?_eq_getElem (show r < C.length by omega), List.getElem?_eq_getElem (show r < D.length by omega)] at this
    have e : (gQ A B C D i) = ansQ A B C D i := by funext b; exact gQ_ans A B C D i b
    rw [e] at this
    exact congrArg some this
  · rw [List.getElem?_eq_none_iff.mpr (by simp; omega), List.getElem?_eq_none_iff.mpr (by simp; omega)]
end Mx

namespace Mx.K41
open PySem PySem.Spec PyProof.Rows L2 Mx
def top (i : Nat) : Stmt := PySem.Challenge.pw_echohouse_k41_in_a_row_and_beside.main.body.getD i (.Pass ⟨0, 0, 0, 0⟩)
def T : Tb where
  fn := tabZ [("_wall" : Str), ("is_whole" : Str), ("divisor" : Str), ("is_fraction" : Str), ("frac" : Str), ("plus" : Str), ("times" : Str), ("is_row" : Str), ("is_table" : Str), ("weighed" : Str), ("noughts" : Str), ("turned" : Str), ("product" : Str), ("widened" : Str), ("rows_anew" : Str), ("are_of_one" : Str), ("need_room" : Str), ("in_row" : Str), ("beside" : Str), ("_law_cell" : Str), ("_law_mixed" : Str), ("_law_divisor" : Str), ("_law_frac" : Str), ("_law_numbers" : Str), ("_law_rows" : Str), ("_law_four" : Str), ("_law_plus" : Str), ("_law_weighed" : Str), ("_law_led" : Str), ("_law_added" : Str), ("_law_turn" : Str), ("_law_units" : Str), ("_law_cases" : Str), ("_law_shape" : Str), ("_law_made" : Str), ("_law_word" : Str), ("_law_both" : Str), ("_law_good" : Str), ("_law_pair" : Str), ("law" : Str)]
  gl := tabZ [("NOUGHT" : Str), ("MOST_CELLS" : Str)]
  cl := tabZ [("System" : Str)]
  me := tabZ [("cells" : Str), ("ins" : Str), ("tables" : Str), ("outs" : Str)]
  fl := tabS [("four" : Str)]
  nc := 1
  nf := 1
  isf := fun f => decide (f < 40)
  ism := fun c => ([true] : List Bool).getD c false
  xl := tabZ [("TooMany" : Str), ("NoFit" : Str), ("EchoError" : Str), ("NoTable" : Str)]
  nx := 4
/-- _wall(k); k -/
def c0 : CB := (.cons (.whl (.bl true) (.cons .skip .nil)) .nil)
def d0 : Fn := ⟨1, 1, c0⟩
def n0 : List Str := [("k" : Str)]
/-- is_whole(thing); thing -/
def c1 : CB := (.cons (.ret (.and (.isi (.var 0) [2]) (.and1 (.not (.isi (.var 0) [1]))))) .nil)
def d1 : Fn := ⟨1, 1, c1⟩
def n1 : List Str := [("thing" : Str)]
/-- divisor(one, other); one, other -/
def c2 : CB := (.cons (.set (.name 0) (.bi .abs (.cons (.var 0) .nil))) (.cons (.set (.name 1) (.bi .abs (.cons (.var 1) .nil))) (.cons (.whl (.cmp .NotEq (.var 1) (.int 0)) (.cons (.par 0 1 (.var 1) (.bop .Mod (.var 0) (.var 1))) .nil)) (.cons (.ret (.var 0)) .nil))))
def d2 : Fn := ⟨2, 2, c2⟩
def n2 : List Str := [("one" : Str), ("other" : Str)]
/-- is_fraction(thing); thing -/
def c3 : CB := (.cons (.ife (.or (.not (.isi (.var 0) [4])) (.or1 (.cmp .NotEq (.bi .len (.cons (.var 0) .nil)) (.int 2)))) (.cons (.ret (.bl false)) .nil) .nil) (.cons (.ife (.or (.not (.call 1 (.cons (.idx (.var 0) (.int 0)) .nil))) (.or (.not (.call 1 (.cons (.idx (.var 0) (.int 1)) .nil))) (.or1 (.cmp .Lt (.idx (.var 0) (.int 1)) (.int 1))))) (.cons (.ret (.bl false)) .nil) .nil) (.cons (.ret (.cmp .Eq (.call 2 (.cons (.idx (.var 0) (.int 0)) (.cons (.idx (.var 0) (.int 1)) .nil))) (.int 1))) .nil)))
def d3 : Fn := ⟨1, 1, c3⟩
def n3 : List Str := [("thing" : Str)]
/-- frac(top, bottom); top, bottom, by -/
def c4 : CB := (.cons (.set (.name 2) (.call 2 (.cons (.var 0) (.cons (.var 1) .nil)))) (.cons (.ife (.cmp .Lt (.var 1) (.int 0)) (.cons (.set (.name 2) (.bop .Sub (.int 0) (.var 2))) .nil) .nil) (.cons (.ret (.tup (.cons (.bop .FloorDiv (.var 0) (.var 2)) (.cons (.bop .FloorDiv (.var 1) (.var 2)) .nil)))) .nil)))
def d4 : Fn := ⟨2, 3, c4⟩
def n4 : List Str := [("top" : Str), ("bottom" : Str), ("by" : Str)]
/-- plus(one, other); one, other -/
def c5 : CB := (.cons (.ret (.call 4 (.cons (.bop .Add (.bop .Mult (.idx (.var 0) (.int 0)) (.idx (.var 1) (.int 1))) (.bop .Mult (.idx (.var 1) (.int 0)) (.idx (.var 0) (.int 1)))) (.cons (.bop .Mult (.idx (.var 0) (.int 1)) (.idx (.var 1) (.int 1))) .nil)))) .nil)
def d5 : Fn := ⟨2, 2, c5⟩
def n5 : List Str := [("one" : Str), ("other" : Str)]
/-- times(one, other); one, other -/
def c6 : CB := (.cons (.ret (.call 4 (.cons (.bop .Mult (.idx (.var 0) (.int 0)) (.idx (.var 1) (.int 0))) (.cons (.bop .Mult (.idx (.var 0) (.int 1)) (.idx (.var 1) (.int 1))) .nil)))) .nil)
def d6 : Fn := ⟨2, 2, c6⟩
def n6 : List Str := [("one" : Str), ("other" : Str)]
/-- is_row(thing, many); thing, many, number -/
def c7 : CB := (.cons (.ife (.or (.not (.isi (.var 0) [5])) (.or1 (.cmp .NotEq (.bi .len (.cons (.var 0) .nil)) (.var 1)))) (.cons (.ret (.bl false)) .nil) .nil) (.cons (.for (.name 2) (.val (.var 0)) (.cons (.ife (.not (.call 3 (.cons (.var 2) .nil))) (.cons (.ret (.bl false)) .nil) .nil) .nil)) (.cons (.ret (.bl true)) .nil)))
def d7 : Fn := ⟨2, 3, c7⟩
def n7 : List Str := [("thing" : Str), ("many" : Str), ("number" : Str)]
/-- is_table(thing, many, wide); thing, many, wide, row -/
def c8 : CB := (.cons (.ife (.or (.not (.isi (.var 0) [5])) (.or1 (.cmp .NotEq (.bi .len (.cons (.var 0) .nil)) (.var 1)))) (.cons (.ret (.bl false)) .nil) .nil) (.cons (.for (.name 3) (.val (.var 0)) (.cons (.ife (.not (.call 7 (.cons (.var 3) (.cons (.var 2) .nil)))) (.cons (.ret (.bl false)) .nil) .nil) .nil)) (.cons (.ret (.bl true)) .nil)))
def d8 : Fn := ⟨3, 4, c8⟩
def n8 : List Str := [("thing" : Str), ("many" : Str), ("wide" : Str), ("row" : Str)]
/-- weighed(one, other); one, other, total, here, there -/
def c9 : CB := (.cons (.set (.name 2) (.glb 0)) (.cons (.for (.tup (.cons (.name 3) (.cons (.name 4) .nil))) (.zip (.var 0) (.var 1)) (.cons (.set (.name 2) (.call 5 (.cons (.var 2) (.cons (.call 6 (.cons (.var 3) (.cons (.var 4) .nil))) .nil)))) .nil)) (.cons (.ret (.var 2)) .nil)))
def d9 : Fn := ⟨2, 5, c9⟩
def n9 : List Str := [("one" : Str), ("other" : Str), ("total" : Str), ("here" : Str), ("there" : Str)]
/-- noughts(many, wide); many, wide, row -/
def c10 : CB := (.cons (.ret (.lc [2] (.name 2) (.rng1 (.var 0)) .nil (.bop .Mult (.lst (.cons (.glb 0) .nil)) (.var 1)))) .nil)
def d10 : Fn := ⟨2, 3, c10⟩
def n10 : List Str := [("many" : Str), ("wide" : Str), ("row" : Str)]
/-- turned(table, wide); table, wide, row, place -/
def c11 : CB := (.cons (.ret (.lc [3] (.name 3) (.rng1 (.var 1)) .nil (.lc [2] (.name 2) (.val (.var 0)) .nil (.idx (.var 2) (.var 3))))) .nil)
def d11 : Fn := ⟨2, 4, c11⟩
def n11 : List Str := [("table" : Str), ("wide" : Str), ("row" : Str), ("place" : Str)]
/-- product(one, other, wide); one, other, wide, columns, column, row -/
def c12 : CB := (.cons (.set (.name 3) (.call 11 (.cons (.var 1) (.cons (.var 2) .nil)))) (.cons (.ret (.lc [5] (.name 5) (.val (.var 0)) .nil (.lc [4] (.name 4) (.val (.var 3)) .nil (.call 9 (.cons (.var 5) (.cons (.var 4) .nil)))))) .nil))
def d12 : Fn := ⟨3, 6, c12⟩
def n12 : List Str := [("one" : Str), ("other" : Str), ("wide" : Str), ("columns" : Str), ("column" : Str), ("row" : Str)]
/-- widened(one, other); one, other, here, there -/
def c13 : CB := (.cons (.ret (.lc [2, 3] (.tup (.cons (.name 2) (.cons (.name 3) .nil))) (.zip (.var 0) (.var 1)) .nil (.bop .Add (.var 2) (.var 3)))) .nil)
def d13 : Fn := ⟨2, 4, c13⟩
def n13 : List Str := [("one" : Str), ("other" : Str), ("here" : Str), ("there" : Str)]
/-- rows_anew(table); table, row -/
def c14 : CB := (.cons (.ret (.lc [1] (.name 1) (.val (.var 0)) .nil (.bi .list (.cons (.var 1) .nil)))) .nil)
def d14 : Fn := ⟨1, 2, c14⟩
def n14 : List Str := [("table" : Str), ("row" : Str)]
/-- are_of_one(move, push, look, through); move, push, look, through, outs, ins, many -/
def c15 : CB := (.cons (.ife (.or (.not (.isi (.var 3) [5])) (.or (.not (.isi (.var 0) [5])) (.or1 (.not (.chn .LtE .LtE (.int 1) (.bi .len (.cons (.var 3) .nil)) (.int 2)))))) (.cons (.ret (.bl false)) .nil) .nil) (.cons (.ife (.or (.not (.isi (.idx (.var 3) (.int 0)) [5])) (.or1 (.not (.chn .LtE .LtE (.int 1) (.bi .len (.cons (.idx (.var 3) (.int 0)) .nil)) (.int 2))))) (.cons (.ret (.bl false)) .nil) .nil) (.cons (.set (.name 4) (.bi .len (.cons (.var 3) .nil))) (.cons (.set (.name 5) (.bi .len (.cons (.idx (.var 3) (.int 0)) .nil))) (.cons (.set (.name 6) (.bi .len (.cons (.var 0) .nil))) (.cons (.ife (.or (.not (.call 8 (.cons (.var 3) (.cons (.var 4) (.cons (.var 5) .nil))))) (.or1 (.not (.call 8 (.cons (.var 0) (.cons (.var 6) (.cons (.var 6) .nil))))))) (.cons (.ret (.bl false)) .nil) .nil) (.cons (.ret (.and (.call 8 (.cons (.var 1) (.cons (.var 6) (.cons (.var 5) .nil)))) (.and1 (.call 8 (.cons (.var 2) (.cons (.var 4) (.cons (.var 6) .nil))))))) .nil)))))))
def d15 : Fn := ⟨4, 7, c15⟩
def n15 : List Str := [("move" : Str), ("push" : Str), ("look" : Str), ("through" : Str), ("outs" : Str), ("ins" : Str), ("many" : Str)]
/-- need_room(one, other); one, other -/
def c16 : CB := (.cons (.ife (.cmp .Gt (.bop .Add (.mth (.var 0) 0 .nil) (.mth (.var 1) 0 .nil)) (.glb 1)) (.cons (.rse 0) .nil) .nil) .nil)
def d16 : Fn := ⟨2, 2, c16⟩
def n16 : List Str := [("one" : Str), ("other" : Str)]
/-- in_row(one, other); one, other, move, push, look, through, move_behind, push_behind, look_behind, through_behind, many, ins, ahead, behind, pushed, looked -/
def c17 : CB := (.cons (.ife (.cmp .NotEq (.mth (.var 0) 3 .nil) (.mth (.var 1) 1 .nil)) (.cons (.rse 1) .nil) .nil) (.cons (.expr (.call 16 (.cons (.var 0) (.cons (.var 1) .nil)))) (.cons (.set (.tup (.cons (.name 2) (.cons (.name 3) (.cons (.name 4) (.cons (.name 5) .nil))))) (.mth (.var 0) 2 .nil)) (.cons (.set (.tup (.cons (.name 6) (.cons (.name 7) (.cons (.name 8) (.cons (.name 9) .nil))))) (.mth (.var 1) 2 .nil)) (.cons (.set (.name 10) (.mth (.var 0) 0 .nil)) (.cons (.set (.name 11) (.mth (.var 0) 1 .nil)) (.cons (.set (.name 12) (.call 13 (.cons (.var 2) (.cons (.call 10 (.cons (.var 10) (.cons (.mth (.var 1) 0 .nil) .nil))) .nil)))) (.cons (.set (.name 13) (.call 13 (.cons (.call 12 (.cons (.var 7) (.cons (.var 4) (.cons (.var 10) .nil)))) (.cons (.var 6) .nil)))) (.cons (.set (.name 14) (.bop .Add (.var 3) (.call 12 (.cons (.var 7) (.cons (.var 5) (.cons (.var 11) .nil)))))) (.cons (.set (.name 15) (.call 13 (.cons (.call 12 (.cons (.var 9) (.cons (.var 4) (.cons (.var 10) .nil)))) (.cons (.var 8) .nil)))) (.cons (.ret (.mk 0 (.cons (.bop .Add (.var 12) (.var 13)) (.cons (.var 14) (.cons (.var 15) (.cons (.call 12 (.cons (.var 9) (.cons (.var 5) (.cons (.var 11) .nil)))) .nil)))))) .nil)))))))))))
def d17 : Fn := ⟨2, 16, c17⟩
def n17 : List Str := [("one" : Str), ("other" : Str), ("move" : Str), ("push" : Str), ("look" : Str), ("through" : Str), ("move_behind" : Str), ("push_behind" : Str), ("look_behind" : Str), ("through_behind" : Str), ("many" : Str), ("ins" : Str), ("ahead" : Str), ("behind" : Str), ("pushed" : Str), ("looked" : Str)]
/-- beside(one, other); one, other, move, push, look, through, tables, many, more, moved, pushed, looked, passed -/
def c18 : CB := (.cons (.ife (.cmp .NotEq (.lst (.cons (.mth (.var 0) 1 .nil) (.cons (.mth (.var 0) 3 .nil) (.cons (.mth (.var 1) 1 .nil) (.cons (.mth (.var 1) 3 .nil) .nil))))) (.lst (.cons (.int 1) (.cons (.int 1) (.cons (.int 1) (.cons (.int 1) .nil)))))) (.cons (.rse 1) .nil) .nil) (.cons (.expr (.call 16 (.cons (.var 0) (.cons (.var 1) .nil)))) (.cons (.set (.tup (.cons (.name 2) (.cons (.name 3) (.cons (.name 4) (.cons (.name 5) .nil))))) (.mth (.var 0) 2 .nil)) (.cons (.set (.name 6) (.mth (.var 1) 2 .nil)) (.cons (.set (.name 7) (.mth (.var 0) 0 .nil)) (.cons (.set (.name 8) (.mth (.var 1) 0 .nil)) (.cons (.set (.name 9) (.bop .Add (.call 13 (.cons (.var 2) (.cons (.call 10 (.cons (.var 7) (.cons (.var 8) .nil))) .nil))) (.call 13 (.cons (.call 10 (.cons (.var 8) (.cons (.var 7) .nil))) (.cons (.idx (.var 6) (.int 0)) .nil))))) (.cons (.set (.name 10) (.bop .Add (.call 13 (.cons (.var 3) (.cons (.call 10 (.cons (.var 7) (.cons (.int 1) .nil))) .nil))) (.call 13 (.cons (.call 10 (.cons (.var 8) (.cons (.int 1) .nil))) (.cons (.idx (.var 6) (.int 1)) .nil))))) (.cons (.set (.name 11) (.bop .Add (.call 13 (.cons (.var 4) (.cons (.call 10 (.cons (.int 1) (.cons (.var 8) .nil))) .nil))) (.call 13 (.cons (.call 10 (.cons (.int 1) (.cons (.var 7) .nil))) (.cons (.idx (.var 6) (.int 2)) .nil))))) (.cons (.set (.name 12) (.bop .Add (.call 13 (.cons (.var 5) (.cons (.call 10 (.cons (.int 1) (.cons (.int 1) .nil))) .nil))) (.call 13 (.cons (.call 10 (.cons (.int 1) (.cons (.int 1) .nil))) (.cons (.idx (.var 6) (.int 3)) .nil))))) (.cons (.ret (.mk 0 (.cons (.var 9) (.cons (.var 10) (.cons (.var 11) (.cons (.var 12) .nil)))))) .nil)))))))))))
def d18 : Fn := ⟨2, 13, c18⟩
def n18 : List Str := [("one" : Str), ("other" : Str), ("move" : Str), ("push" : Str), ("look" : Str), ("through" : Str), ("tables" : Str), ("many" : Str), ("more" : Str), ("moved" : Str), ("pushed" : Str), ("looked" : Str), ("passed" : Str)]
/-- _law_cell(_law_script, _law_k); _law_script, _law_k -/
def c19 : CB := (.cons (.ife (.cmp .Lt (.var 1) (.bi .len (.cons (.var 0) .nil))) (.cons (.ret (.idx (.var 0) (.var 1))) .nil) .nil) (.cons (.ret (.int 0)) .nil))
def d19 : Fn := ⟨2, 2, c19⟩
def n19 : List Str := [("_law_script" : Str), ("_law_k" : Str)]
/-- _law_mixed(_law_cell_here, _law_k); _law_cell_here, _law_k, _law_number -/
def c20 : CB := (.cons (.set (.name 2) (.bop .Mod (.bop .Add (.bop .Add (.var 0) (.bop .Mult (.int 7919) (.var 1))) (.int 12345)) (.int 2147483629))) (.cons (.set (.name 2) (.bop .Mod (.bop .Add (.bop .Mult (.var 2) (.var 2)) (.bop .Mult (.int 48271) (.var 1))) (.int 2147483629))) (.cons (.ret (.bop .Mod (.bop .Mult (.var 2) (.var 2)) (.int 2147483587))) .nil)))
def d20 : Fn := ⟨2, 3, c20⟩
def n20 : List Str := [("_law_cell_here" : Str), ("_law_k" : Str), ("_law_number" : Str)]
/-- _law_divisor(_law_one, _law_other); _law_one, _law_other -/
def c21 : CB := (.cons (.set (.name 0) (.bi .abs (.cons (.var 0) .nil))) (.cons (.set (.name 1) (.bi .abs (.cons (.var 1) .nil))) (.cons (.whl (.cmp .Gt (.var 1) (.int 0)) (.cons (.par 0 1 (.var 1) (.bop .Mod (.var 0) (.var 1))) .nil)) (.cons (.ret (.var 0)) .nil))))
def d21 : Fn := ⟨2, 2, c21⟩
def n21 : List Str := [("_law_one" : Str), ("_law_other" : Str)]
/-- _law_frac(_law_top, _law_bottom); _law_top, _law_bottom, _law_by -/
def c22 : CB := (.cons (.set (.name 2) (.call 21 (.cons (.var 0) (.cons (.var 1) .nil)))) (.cons (.ret (.tup (.cons (.bop .FloorDiv (.var 0) (.var 2)) (.cons (.bop .FloorDiv (.var 1) (.var 2)) .nil)))) .nil))
def d22 : Fn := ⟨2, 3, c22⟩
def n22 : List Str := [("_law_top" : Str), ("_law_bottom" : Str), ("_law_by" : Str)]
/-- _law_numbers(_law_cell_here, _law_many); _law_cell_here, _law_many, _law_found, _law_rest, _law_k, _law_number, _law_kind -/
def c23 : CB := (.cons (.set (.name 2) (.lst .nil)) (.cons (.set (.name 3) (.bop .FloorDiv (.var 0) (.int 2))) (.cons (.for (.name 4) (.rng1 (.var 1)) (.cons (.ife (.cmp .Eq (.bop .Mod (.var 0) (.int 2)) (.int 1)) (.cons (.expr (.bm .append (.var 2) (.cons (.call 22 (.cons (.bop .Sub (.bop .Mod (.var 3) (.int 19)) (.int 9)) (.cons (.bop .Add (.int 1) (.bop .Mod (.bop .FloorDiv (.var 3) (.int 19)) (.int 12))) .nil))) .nil))) (.cons (.set (.name 3) (.bop .FloorDiv (.var 3) (.int 228))) .nil)) (.cons (.set (.name 5) (.call 20 (.cons (.var 0) (.cons (.var 4) .nil)))) (.cons (.set (.name 6) (.bop .Mod (.var 5) (.int 4))) (.cons (.expr (.bm .append (.var 2) (.cons (.idx (.lst (.cons (.tup (.cons (.int 0) (.cons (.int 1) .nil))) (.cons (.tup (.cons (.bop .Sub (.bop .Mod (.bop .FloorDiv (.var 5) (.int 4)) (.int 3)) (.int 1)) (.cons (.int 1) .nil))) (.cons (.tup (.cons (.int 1) (.cons (.int 2) .nil))) (.cons (.tup (.cons (.int 0) (.cons (.int 1) .nil))) .nil))))) (.var 6)) .nil))) (.cons (.ife (.cmp .Eq (.var 6) (.int 2)) (.cons (.set (.idx (.var 2) (.neg (.int 1))) (.call 22 (.cons (.bop .Sub (.bop .Mod (.bop .FloorDiv (.var 5) (.int 4)) (.int 19)) (.int 9)) (.cons (.bop .Add (.int 1) (.bop .Mod (.bop .FloorDiv (.var 5) (.int 76)) (.int 12))) .nil)))) .nil) .nil) .nil))))) .nil)) (.cons (.ret (.var 2)) .nil))))
def d23 : Fn := ⟨2, 7, c23⟩
def n23 : List Str := [("_law_cell_here" : Str), ("_law_many" : Str), ("_law_found" : Str), ("_law_rest" : Str), ("_law_k" : Str), ("_law_number" : Str), ("_law_kind" : Str)]
/-- _law_rows(_law_numbers_here, _law_many, _law_wide); _law_numbers_here, _law_many, _law_wide, _law_k -/
def c24 : CB := (.cons (.ret (.lc [3] (.name 3) (.rng1 (.var 1)) .nil (.slc (.var 0) (.yes (.bop .Mult (.var 2) (.var 3))) (.yes (.bop .Add (.bop .Mult (.var 2) (.var 3)) (.var 2)))))) .nil)
def d24 : Fn := ⟨3, 4, c24⟩
def n24 : List Str := [("_law_numbers_here" : Str), ("_law_many" : Str), ("_law_wide" : Str), ("_law_k" : Str)]
/-- _law_four(_law_cell_here, _law_many, _law_ins, _law_outs); _law_cell_here, _law_many, _law_ins, _law_outs, _law_numbers_here, _law_move, _law_push, _law_look -/
def c25 : CB := (.cons (.set (.name 4) (.call 23 (.cons (.var 0) (.cons (.bop .Add (.bop .Add (.bop .Add (.bop .Mult (.var 1) (.var 1)) (.bop .Mult (.var 1) (.var 2))) (.bop .Mult (.var 3) (.var 1))) (.bop .Mult (.var 3) (.var 2))) .nil)))) (.cons (.set (.name 5) (.call 24 (.cons (.var 4) (.cons (.var 1) (.cons (.var 1) .nil))))) (.cons (.set (.name 4) (.slc (.var 4) (.yes (.bop .Mult (.var 1) (.var 1))) .no)) (.cons (.set (.name 6) (.call 24 (.cons (.var 4) (.cons (.var 1) (.cons (.var 2) .nil))))) (.cons (.set (.name 4) (.slc (.var 4) (.yes (.bop .Mult (.var 1) (.var 2))) .no)) (.cons (.set (.name 7) (.call 24 (.cons (.var 4) (.cons (.var 3) (.cons (.var 1) .nil))))) (.cons (.ret (.lst (.cons (.var 5) (.cons (.var 6) (.cons (.var 7) (.cons (.call 24 (.cons (.slc (.var 4) (.yes (.bop .Mult (.var 3) (.var 1))) .no) (.cons (.var 3) (.cons (.var 2) .nil)))) .nil)))))) .nil)))))))
def d25 : Fn := ⟨4, 8, c25⟩
def n25 : List Str := [("_law_cell_here" : Str), ("_law_many" : Str), ("_law_ins" : Str), ("_law_outs" : Str), ("_law_numbers_here" : Str), ("_law_move" : Str), ("_law_push" : Str), ("_law_look" : Str)]
/-- _law_plus(_law_one, _law_other); _law_one, _law_other -/
def c26 : CB := (.cons (.ret (.call 22 (.cons (.bop .Add (.bop .Mult (.idx (.var 0) (.int 0)) (.idx (.var 1) (.int 1))) (.bop .Mult (.idx (.var 1) (.int 0)) (.idx (.var 0) (.int 1)))) (.cons (.bop .Mult (.idx (.var 0) (.int 1)) (.idx (.var 1) (.int 1))) .nil)))) .nil)
def d26 : Fn := ⟨2, 2, c26⟩
def n26 : List Str := [("_law_one" : Str), ("_law_other" : Str)]
/-- _law_weighed(_law_row, _law_other); _law_row, _law_other, _law_total, _law_here, _law_there -/
def c27 : CB := (.cons (.set (.name 2) (.tup (.cons (.int 0) (.cons (.int 1) .nil)))) (.cons (.for (.tup (.cons (.name 3) (.cons (.name 4) .nil))) (.zip (.var 0) (.var 1)) (.cons (.set (.name 2) (.call 26 (.cons (.var 2) (.cons (.call 22 (.cons (.bop .Mult (.idx (.var 3) (.int 0)) (.idx (.var 4) (.int 0))) (.cons (.bop .Mult (.idx (.var 3) (.int 1)) (.idx (.var 4) (.int 1))) .nil))) .nil)))) .nil)) (.cons (.ret (.var 2)) .nil)))
def d27 : Fn := ⟨2, 5, c27⟩
def n27 : List Str := [("_law_row" : Str), ("_law_other" : Str), ("_law_total" : Str), ("_law_here" : Str), ("_law_there" : Str)]
/-- _law_led(_law_table, _law_row); _law_table, _law_row, _law_line -/
def c28 : CB := (.cons (.ret (.lc [2] (.name 2) (.val (.var 0)) .nil (.call 27 (.cons (.var 2) (.cons (.var 1) .nil))))) .nil)
def d28 : Fn := ⟨2, 3, c28⟩
def n28 : List Str := [("_law_table" : Str), ("_law_row" : Str), ("_law_line" : Str)]
/-- _law_added(_law_one, _law_other); _law_one, _law_other, _law_here, _law_there -/
def c29 : CB := (.cons (.ret (.lc [2, 3] (.tup (.cons (.name 2) (.cons (.name 3) .nil))) (.zip (.var 0) (.var 1)) .nil (.call 26 (.cons (.var 2) (.cons (.var 3) .nil))))) .nil)
def d29 : Fn := ⟨2, 4, c29⟩
def n29 : List Str := [("_law_one" : Str), ("_law_other" : Str), ("_law_here" : Str), ("_law_there" : Str)]
/-- _law_turn(_law_four_here, _law_state, _law_given); _law_four_here, _law_state, _law_given, _law_move, _law_push, _law_look, _law_through, _law_output -/
def c30 : CB := (.cons (.set (.tup (.cons (.name 3) (.cons (.name 4) (.cons (.name 5) (.cons (.name 6) .nil))))) (.var 0)) (.cons (.set (.name 7) (.call 29 (.cons (.call 28 (.cons (.var 5) (.cons (.var 1) .nil))) (.cons (.call 28 (.cons (.var 6) (.cons (.var 2) .nil))) .nil)))) (.cons (.ret (.lst (.cons (.var 7) (.cons (.call 29 (.cons (.call 28 (.cons (.var 3) (.cons (.var 1) .nil))) (.cons (.call 28 (.cons (.var 4) (.cons (.var 2) .nil))) .nil))) .nil)))) .nil)))
def d30 : Fn := ⟨3, 8, c30⟩
def n30 : List Str := [("_law_four_here" : Str), ("_law_state" : Str), ("_law_given" : Str), ("_law_move" : Str), ("_law_push" : Str), ("_law_look" : Str), ("_law_through" : Str), ("_law_output" : Str)]
/-- _law_units(_law_many); _law_many, _law_found, _law_k, _law_place -/
def c31 : CB := (.cons (.set (.name 1) (.lst (.cons (.bop .Mult (.lst (.cons (.tup (.cons (.int 0) (.cons (.int 1) .nil))) .nil)) (.var 0)) .nil))) (.cons (.for (.name 2) (.rng1 (.var 0)) (.cons (.expr (.bm .append (.var 1) (.cons (.lc [3] (.name 3) (.rng1 (.var 0)) .nil (.tup (.cons (.bi .int (.cons (.cmp .Eq (.var 3) (.var 2)) .nil)) (.cons (.int 1) .nil)))) .nil))) .nil)) (.cons (.ret (.var 1)) .nil)))
def d31 : Fn := ⟨1, 4, c31⟩
def n31 : List Str := [("_law_many" : Str), ("_law_found" : Str), ("_law_k" : Str), ("_law_place" : Str)]
/-- _law_cases(_law_many, _law_ins); _law_many, _law_ins, _law_units_here, _law_state, _law_given -/
def c32 : CB := (.cons (.set (.name 2) (.lc [3] (.name 3) (.val (.call 31 (.cons (.var 0) .nil))) .nil (.tup (.cons (.var 3) (.cons (.idx (.call 31 (.cons (.var 1) .nil)) (.int 0)) .nil))))) (.cons (.ret (.bop .Add (.var 2) (.lc [4] (.name 4) (.val (.call 31 (.cons (.var 1) .nil))) .nil (.tup (.cons (.idx (.call 31 (.cons (.var 0) .nil)) (.int 0)) (.cons (.var 4) .nil)))))) .nil))
def d32 : Fn := ⟨2, 5, c32⟩
def n32 : List Str := [("_law_many" : Str), ("_law_ins" : Str), ("_law_units_here" : Str), ("_law_state" : Str), ("_law_given" : Str)]
/-- _law_shape(_law_cell_here, _law_large); _law_cell_here, _law_large, _law_many -/
def c33 : CB := (.cons (.set (.name 2) (.bop .Mod (.var 0) (.int 4))) (.cons (.ife (.var 1) (.cons (.set (.name 2) (.bop .Add (.int 4) (.bop .Mod (.bop .FloorDiv (.var 0) (.int 16)) (.int 2)))) .nil) .nil) (.cons (.ret (.lst (.cons (.var 2) (.cons (.bop .Add (.int 1) (.bop .Mod (.bop .FloorDiv (.var 0) (.int 4)) (.int 2))) (.cons (.bop .Add (.int 1) (.bop .Mod (.bop .FloorDiv (.var 0) (.int 8)) (.int 2))) .nil))))) .nil)))
def d33 : Fn := ⟨2, 3, c33⟩
def n33 : List Str := [("_law_cell_here" : Str), ("_law_large" : Str), ("_law_many" : Str)]
/-- _law_made(_law_four_here); _law_four_here -/
def c34 : CB := (.cons (.ret (.mk 0 (.cons (.idx (.var 0) (.int 0)) (.cons (.idx (.var 0) (.int 1)) (.cons (.idx (.var 0) (.int 2)) (.cons (.idx (.var 0) (.int 3)) .nil)))))) .nil)
def d34 : Fn := ⟨1, 1, c34⟩
def n34 : List Str := [("_law_four_here" : Str)]
/-- _law_word(_law_way, _law_one, _law_other); _law_way, _law_one, _law_other, _law_found, e -/
def c35 : CB := (.cons (.set (.name 3) (.lst (.cons .non (.cons (.str ("" : Str)) .nil)))) (.cons (.trx (.cons (.ife (.cmp .Eq (.var 0) (.int 0)) (.cons (.set (.idx (.var 3) (.int 0)) (.call 17 (.cons (.var 1) (.cons (.var 2) .nil)))) .nil) (.cons (.set (.idx (.var 3) (.int 0)) (.call 18 (.cons (.var 1) (.cons (.var 2) .nil)))) .nil)) .nil) (some 4) 2 (.put 3 1 (.cat (.pick ("" : Str) ("fit" : Str) 1) (.pick ("" : Str) ("many" : Str) 0)))) (.cons (.ret (.var 3)) .nil)))
def d35 : Fn := ⟨3, 5, c35⟩
def n35 : List Str := [("_law_way" : Str), ("_law_one" : Str), ("_law_other" : Str), ("_law_found" : Str), ("e" : Str)]
/-- _law_both(_law_way, _law_one, _law_other, _law_state, _law_given); _law_way, _law_one, _law_other, _law_state, _law_given, _law_many, _law_output, _law_end, _law_last, _law_behind -/
def c36 : CB := (.cons (.set (.name 5) (.bi .len (.cons (.idx (.var 1) (.int 0)) .nil))) (.cons (.ife (.cmp .Eq (.var 0) (.int 0)) (.cons (.set (.tup (.cons (.name 6) (.cons (.name 7) .nil))) (.call 30 (.cons (.var 1) (.cons (.slc (.var 3) .no (.yes (.var 5))) (.cons (.var 4) .nil))))) (.cons (.set (.tup (.cons (.name 8) (.cons (.name 9) .nil))) (.call 30 (.cons (.var 2) (.cons (.slc (.var 3) (.yes (.var 5)) .no) (.cons (.var 6) .nil))))) (.cons (.ret (.lst (.cons (.var 8) (.cons (.bop .Add (.var 7) (.var 9)) .nil)))) .nil))) .nil) (.cons (.set (.tup (.cons (.name 6) (.cons (.name 7) .nil))) (.call 30 (.cons (.var 1) (.cons (.slc (.var 3) .no (.yes (.var 5))) (.cons (.slc (.var 4) .no (.yes (.int 1))) .nil))))) (.cons (.set (.tup (.cons (.name 8) (.cons (.name 9) .nil))) (.call 30 (.cons (.var 2) (.cons (.slc (.var 3) (.yes (.var 5)) .no) (.cons (.slc (.var 4) (.yes (.int 1)) .no) .nil))))) (.cons (.ret (.lst (.cons (.bop .Add (.var 6) (.var 8)) (.cons (.bop .Add (.var 7) (.var 9)) .nil)))) .nil)))))
def d36 : Fn := ⟨5, 10, c36⟩
def n36 : List Str := [("_law_way" : Str), ("_law_one" : Str), ("_law_other" : Str), ("_law_state" : Str), ("_law_given" : Str), ("_law_many" : Str), ("_law_output" : Str), ("_law_end" : Str), ("_law_last" : Str), ("_law_behind" : Str)]
/-- _law_good(_law_way, _law_found, _law_one, _law_other); _law_way, _law_found, _law_one, _law_other, _law_shape_here, _law_state, _law_given -/
def c37 : CB := (.cons (.set (.name 4) (.lst (.cons (.bop .Add (.bi .len (.cons (.idx (.var 2) (.int 0)) .nil)) (.bi .len (.cons (.idx (.var 3) (.int 0)) .nil))) (.cons (.bi .len (.cons (.idx (.idx (.var 2) (.int 3)) (.int 0)) .nil)) (.cons (.bi .len (.cons (.idx (.var 3) (.int 3)) .nil)) .nil))))) (.cons (.ife (.cmp .Eq (.var 0) (.int 1)) (.cons (.set (.name 4) (.lst (.cons (.idx (.var 4) (.int 0)) (.cons (.int 2) (.cons (.int 2) .nil))))) .nil) .nil) (.cons (.ife (.cmp .NotEq (.lst (.cons (.mth (.var 1) 0 .nil) (.cons (.mth (.var 1) 1 .nil) (.cons (.mth (.var 1) 3 .nil) .nil)))) (.var 4)) (.cons (.ret (.bl false)) .nil) .nil) (.cons (.for (.tup (.cons (.name 5) (.cons (.name 6) .nil))) (.val (.call 32 (.cons (.idx (.var 4) (.int 0)) (.cons (.idx (.var 4) (.int 1)) .nil)))) (.cons (.ife (.cmp .NotEq (.call 30 (.cons (.mth (.var 1) 2 .nil) (.cons (.var 5) (.cons (.var 6) .nil)))) (.call 36 (.cons (.var 0) (.cons (.var 2) (.cons (.var 3) (.cons (.var 5) (.cons (.var 6) .nil))))))) (.cons (.ret (.bl false)) .nil) .nil) .nil)) (.cons (.ret (.bl true)) .nil)))))
def d37 : Fn := ⟨4, 7, c37⟩
def n37 : List Str := [("_law_way" : Str), ("_law_found" : Str), ("_law_one" : Str), ("_law_other" : Str), ("_law_shape_here" : Str), ("_law_state" : Str), ("_law_given" : Str)]
/-- _law_pair(_law_systems, _law_shapes, _law_fours); _law_systems, _law_shapes, _law_fours, _law_shape_here, _law_more, _law_way, _law_due, _law_found, _law_word_here -/
def c38 : CB := (.cons (.set (.tup (.cons (.name 3) (.cons (.name 4) .nil))) (.var 1)) (.cons (.for (.name 5) (.rng1 (.int 2)) (.cons (.set (.name 6) (.str ("" : Str))) (.cons (.ife (.cmp .Gt (.bop .Add (.idx (.var 3) (.int 0)) (.idx (.var 4) (.int 0))) (.int 8)) (.cons (.set (.name 6) (.str ("many" : Str))) .nil) .nil) (.cons (.ife (.or (.and (.cmp .Eq (.var 5) (.int 0)) (.and1 (.cmp .NotEq (.idx (.var 3) (.int 2)) (.idx (.var 4) (.int 1))))) (.or1 (.and (.cmp .Eq (.var 5) (.int 1)) (.and1 (.cmp .NotEq (.bop .Add (.slc (.var 3) (.yes (.int 1)) .no) (.slc (.var 4) (.yes (.int 1)) .no)) (.lst (.cons (.int 1) (.cons (.int 1) (.cons (.int 1) (.cons (.int 1) .nil)))))))))) (.cons (.set (.name 6) (.str ("fit" : Str))) .nil) .nil) (.cons (.set (.tup (.cons (.name 7) (.cons (.name 8) .nil))) (.call 35 (.cons (.var 5) (.cons (.idx (.var 0) (.int 0)) (.cons (.idx (.var 0) (.int 1)) .nil))))) (.cons (.ife (.or (.cmp .NotEq (.var 8) (.var 6)) (.or1 (.and (.cmp .Eq (.var 6) (.str ("" : Str))) (.and1 (.not (.call 37 (.cons (.var 5) (.cons (.var 7) (.cons (.idx (.var 2) (.int 0)) (.cons (.idx (.var 2) (.int 1)) .nil)))))))))) (.cons (.ret (.bl false)) .nil) .nil) .nil)))))) (.cons (.ret (.bl true)) .nil)))
def d38 : Fn := ⟨3, 9, c38⟩
def n38 : List Str := [("_law_systems" : Str), ("_law_shapes" : Str), ("_law_fours" : Str), ("_law_shape_here" : Str), ("_law_more" : Str), ("_law_way" : Str), ("_law_due" : Str), ("_law_found" : Str), ("_law_word_here" : Str)]
/-- law(_law_script); _law_script, _law_large, _law_shape_here, _law_more, _law_one, _law_other, _law_systems -/
def c39 : CB := (.cons (.set (.name 1) (.cmp .Eq (.bop .Mod (.bop .FloorDiv (.call 19 (.cons (.var 0) (.cons (.int 0) .nil))) (.int 32)) (.int 8)) (.int 1))) (.cons (.set (.name 2) (.call 33 (.cons (.call 19 (.cons (.var 0) (.cons (.int 0) .nil))) (.cons (.var 1) .nil)))) (.cons (.set (.name 3) (.call 33 (.cons (.call 19 (.cons (.var 0) (.cons (.int 1) .nil))) (.cons (.var 1) .nil)))) (.cons (.set (.name 4) (.call 25 (.cons (.call 19 (.cons (.var 0) (.cons (.int 2) .nil))) (.cons (.idx (.var 2) (.int 0)) (.cons (.idx (.var 2) (.int 1)) (.cons (.idx (.var 2) (.int 2)) .nil)))))) (.cons (.set (.name 5) (.call 25 (.cons (.call 19 (.cons (.var 0) (.cons (.int 3) .nil))) (.cons (.idx (.var 3) (.int 0)) (.cons (.idx (.var 3) (.int 1)) (.cons (.idx (.var 3) (.int 2)) .nil)))))) (.cons (.set (.name 6) (.lst (.cons (.call 34 (.cons (.var 4) .nil)) (.cons (.call 34 (.cons (.var 5) .nil)) .nil)))) (.cons (.ife (.not (.call 38 (.cons (.var 6) (.cons (.lst (.cons (.var 2) (.cons (.var 3) .nil))) (.cons (.lst (.cons (.var 4) (.cons (.var 5) .nil))) .nil))))) (.cons (.ret (.bl false)) .nil) .nil) (.cons (.ife (.not (.call 38 (.cons (.lst (.cons (.idx (.var 6) (.int 0)) (.cons (.idx (.var 6) (.int 0)) .nil))) (.cons (.lst (.cons (.var 2) (.cons (.var 2) .nil))) (.cons (.lst (.cons (.var 4) (.cons (.var 4) .nil))) .nil))))) (.cons (.ret (.bl false)) .nil) .nil) (.cons (.ret (.and (.cmp .Eq (.bi .list (.cons (.mth (.idx (.var 6) (.int 0)) 2 .nil) .nil)) (.var 4)) (.and1 (.cmp .Eq (.bi .list (.cons (.mth (.idx (.var 6) (.int 1)) 2 .nil) .nil)) (.var 5))))) .nil)))))))))
def d39 : Fn := ⟨1, 7, c39⟩
def n39 : List Str := [("_law_script" : Str), ("_law_large" : Str), ("_law_shape_here" : Str), ("_law_more" : Str), ("_law_one" : Str), ("_law_other" : Str), ("_law_systems" : Str)]
/-- System.__init__(self, move, push, look, through); self, move, push, look, through -/
def c40 : CB := (.cons (.ife (.not (.call 15 (.cons (.var 1) (.cons (.var 2) (.cons (.var 3) (.cons (.var 4) .nil)))))) (.cons (.rse 3) .nil) .nil) (.cons (.ife (.cmp .Gt (.bi .len (.cons (.var 1) .nil)) (.glb 1)) (.cons (.rse 0) .nil) .nil) (.cons (.set (.fld (.var 0) 0) (.tup (.cons (.call 14 (.cons (.var 1) .nil)) (.cons (.call 14 (.cons (.var 2) .nil)) (.cons (.call 14 (.cons (.var 3) .nil)) (.cons (.call 14 (.cons (.var 4) .nil)) .nil)))))) .nil)))
def d40 : Fn := ⟨5, 5, c40⟩
def n40 : List Str := [("self" : Str), ("move" : Str), ("push" : Str), ("look" : Str), ("through" : Str)]
/-- System.cells(self); self -/
def c41 : CB := (.cons (.ret (.bi .len (.cons (.idx (.fld (.var 0) 0) (.int 0)) .nil))) .nil)
def d41 : Fn := ⟨1, 1, c41⟩
def n41 : List Str := [("self" : Str)]
/-- System.ins(self); self -/
def c42 : CB := (.cons (.ret (.bi .len (.cons (.idx (.idx (.fld (.var 0) 0) (.int 3)) (.int 0)) .nil))) .nil)
def d42 : Fn := ⟨1, 1, c42⟩
def n42 : List Str := [("self" : Str)]
/-- System.outs(self); self -/
def c43 : CB := (.cons (.ret (.bi .len (.cons (.idx (.fld (.var 0) 0) (.int 3)) .nil))) .nil)
def d43 : Fn := ⟨1, 1, c43⟩
def n43 : List Str := [("self" : Str)]
/-- System.tables(self); self, move, push, look, through -/
def c44 : CB := (.cons (.set (.tup (.cons (.name 1) (.cons (.name 2) (.cons (.name 3) (.cons (.name 4) .nil))))) (.fld (.var 0) 0)) (.cons (.ret (.tup (.cons (.call 14 (.cons (.var 1) .nil)) (.cons (.call 14 (.cons (.var 2) .nil)) (.cons (.call 14 (.cons (.var 3) .nil)) (.cons (.call 14 (.cons (.var 4) .nil)) .nil)))))) .nil))
def d44 : Fn := ⟨1, 5, c44⟩
def n44 : List Str := [("self" : Str), ("move" : Str), ("push" : Str), ("look" : Str), ("through" : Str)]
/-- System.told(self); self -/
def c45 : CB := (.cons (.expr (.call 0 (.cons (.int 4) .nil))) .nil)
def d45 : Fn := ⟨1, 1, c45⟩
def n45 : List Str := [("self" : Str)]
def fns : List Fn := [d0, d1, d2, d3, d4, d5, d6, d7, d8, d9, d10, d11, d12, d13, d14, d15, d16, d17, d18, d19, d20, d21, d22, d23, d24, d25, d26, d27, d28, d29, d30, d31, d32, d33, d34, d35, d36, d37, d38, d39, d40, d41, d42, d43, d44, d45]
/-- System: cells some 41, ins some 42, tables some 44, outs some 43 -/
def kl0 : Klass := ⟨some 40, fun m => (([some 41, some 42, some 44, some 43] : List (Option Nat))[m]?).join, [0]⟩
def P : Prog where
  fn := fun f => fns[f]?
  glb := fun g => ([.tup [.int 0, .int 1], .int (8)] : List W)[g]?
  cls := fun c => ([kl0] : List Klass)[c]?
  sub := fun c d => (([[true, false, true, false], [false, true, true, false], [false, false, true, false], [false, false, true, true]] : List (List Bool)).getD c []).getD d false
def O (k : Nat) : Orc := orcOf P (runL P k) (mkOf P k)
@[simp] theorem O_call (k : Nat) : (O k).call = runL P k := id rfl
@[simp] theorem O_isi (k : Nat) (st : Store) (w : W) (cs : List Nat) : (O k).isi st w cs = if cs.length ≤ 100 then (tyOf st w).bind (fun t => isAny P t cs) else none := id rfl
theorem run1 (k : Nat) (x0 : W) (st : Store) : runL P (k + 1) 1 [x0] st = (evB (O k) c1 [some x0] st).val := rfl
theorem run2 (k : Nat) (x0 x1 : W) (st : Store) : runL P (k + 1) 2 [x0, x1] st = (evB (O k) c2 [some x0, some x1] st).val := rfl
theorem run3 (k : Nat) (x0 : W) (st : Store) : runL P (k + 1) 3 [x0] st = (evB (O k) c3 [some x0] st).val := rfl
theorem run4 (k : Nat) (x0 x1 : W) (st : Store) : runL P (k + 1) 4 [x0, x1] st = (evB (O k) c4 [some x0, some x1, none] st).val := rfl
theorem run5 (k : Nat) (x0 x1 : W) (st : Store) : runL P (k + 1) 5 [x0, x1] st = (evB (O k) c5 [some x0, some x1] st).val := rfl
theorem run6 (k : Nat) (x0 x1 : W) (st : Store) : runL P (k + 1) 6 [x0, x1] st = (evB (O k) c6 [some x0, some x1] st).val := rfl
theorem run7 (k : Nat) (x0 x1 : W) (st : Store) : runL P (k + 1) 7 [x0, x1] st = (evB (O k) c7 [some x0, some x1, none] st).val := rfl
theorem run8 (k : Nat) (x0 x1 x2 : W) (st : Store) : runL P (k + 1) 8 [x0, x1, x2] st = (evB (O k) c8 [some x0, some x1, some x2, none] st).val := rfl
theorem run9 (k : Nat) (x0 x1 : W) (st : Store) : runL P (k + 1) 9 [x0, x1] st = (evB (O k) c9 [some x0, some x1, none, none, none] st).val := rfl
theorem run10 (k : Nat) (x0 x1 : W) (st : Store) : runL P (k + 1) 10 [x0, x1] st = (evB (O k) c10 [some x0, some x1, none] st).val := rfl
theorem run11 (k : Nat) (x0 x1 : W) (st : Store) : runL P (k + 1) 11 [x0, x1] st = (evB (O k) c11 [some x0, some x1, none, none] st).val := rfl
theorem run12 (k : Nat) (x0 x1 x2 : W) (st : Store) : runL P (k + 1) 12 [x0, x1, x2] st = (evB (O k) c12 [some x0, some x1, some x2, none, none, none] st).val := rfl
theorem run13 (k : Nat) (x0 x1 : W) (st : Store) : runL P (k + 1) 13 [x0, x1] st = (evB (O k) c13 [some x0, some x1, none, none] st).val := rfl
theorem run14 (k : Nat) (x0 : W) (st : Store) : runL P (k + 1) 14 [x0] st = (evB (O k) c14 [some x0, none] st).val := rfl
theorem run15 (k : Nat) (x0 x1 x2 x3 : W) (st : Store) : runL P (k + 1) 15 [x0, x1, x2, x3] st = (evB (O k) c15 [some x0, some x1, some x2, some x3, none, none, none] st).val := rfl
theorem run16 (k : Nat) (x0 x1 : W) (st : Store) : runL P (k + 1) 16 [x0, x1] st = (evB (O k) c16 [some x0, some x1] st).val := rfl
theorem run17 (k : Nat) (x0 x1 : W) (st : Store) : runL P (k + 1) 17 [x0, x1] st = (evB (O k) c17 [some x0, some x1, none, none, none, none, none, none, none, none, none, none, none, none, none, none] st).val := rfl
theorem run18 (k : Nat) (x0 x1 : W) (st : Store) : runL P (k + 1) 18 [x0, x1] st = (evB (O k) c18 [some x0, some x1, none, none, none, none, none, none, none, none, none, none, none] st).val := rfl
theorem run19 (k : Nat) (x0 x1 : W) (st : Store) : runL P (k + 1) 19 [x0, x1] st = (evB (O k) c19 [some x0, some x1] st).val := rfl
theorem run20 (k : Nat) (x0 x1 : W) (st : Store) : runL P (k + 1) 20 [x0, x1] st = (evB (O k) c20 [some x0, some x1, none] st).val := rfl
theorem run21 (k : Nat) (x0 x1 : W) (st : Store) : runL P (k + 1) 21 [x0, x1] st = (evB (O k) c21 [some x0, some x1] st).val := rfl
theorem run22 (k : Nat) (x0 x1 : W) (st : Store) : runL P (k + 1) 22 [x0, x1] st = (evB (O k) c22 [some x0, some x1, none] st).val := rfl
theorem run23 (k : Nat) (x0 x1 : W) (st : Store) : runL P (k + 1) 23 [x0, x1] st = (evB (O k) c23 [some x0, some x1, none, none, none, none, none] st).val := rfl
theorem run24 (k : Nat) (x0 x1 x2 : W) (st : Store) : runL P (k + 1) 24 [x0, x1, x2] st = (evB (O k) c24 [some x0, some x1, some x2, none] st).val := rfl
theorem run25 (k : Nat) (x0 x1 x2 x3 : W) (st : Store) : runL P (k + 1) 25 [x0, x1, x2, x3] st = (evB (O k) c25 [some x0, some x1, some x2, some x3, none, none, none, none] st).val := rfl
theorem run26 (k : Nat) (x0 x1 : W) (st : Store) : runL P (k + 1) 26 [x0, x1] st = (evB (O k) c26 [some x0, some x1] st).val := rfl
theorem run27 (k : Nat) (x0 x1 : W) (st : Store) : runL P (k + 1) 27 [x0, x1] st = (evB (O k) c27 [some x0, some x1, none, none, none] st).val := rfl
theorem run28 (k : Nat) (x0 x1 : W) (st : Store) : runL P (k + 1) 28 [x0, x1] st = (evB (O k) c28 [some x0, some x1, none] st).val := rfl
theorem run29 (k : Nat) (x0 x1 : W) (st : Store) : runL P (k + 1) 29 [x0, x1] st = (evB (O k) c29 [some x0, some x1, none, none] st).val := rfl
theorem run30 (k : Nat) (x0 x1 x2 : W) (st : Store) : runL P (k + 1) 30 [x0, x1, x2] st = (evB (O k) c30 [some x0, some x1, some x2, none, none, none, none, none] st).val := rfl
theorem run31 (k : Nat) (x0 : W) (st : Store) : runL P (k + 1) 31 [x0] st = (evB (O k) c31 [some x0, none, none, none] st).val := rfl
theorem run32 (k : Nat) (x0 x1 : W) (st : Store) : runL P (k + 1) 32 [x0, x1] st = (evB (O k) c32 [some x0, some x1, none, none, none] st).val := rfl
theorem run33 (k : Nat) (x0 x1 : W) (st : Store) : runL P (k + 1) 33 [x0, x1] st = (evB (O k) c33 [some x0, some x1, none] st).val := rfl
theorem run34 (k : Nat) (x0 : W) (st : Store) : runL P (k + 1) 34 [x0] st = (evB (O k) c34 [some x0] st).val := rfl
theorem run35 (k : Nat) (x0 x1 x2 : W) (st : Store) : runL P (k + 1) 35 [x0, x1, x2] st = (evB (O k) c35 [some x0, some x1, some x2, none, none] st).val := rfl
theorem run36 (k : Nat) (x0 x1 x2 x3 x4 : W) (st : Store) : runL P (k + 1) 36 [x0, x1, x2, x3, x4] st = (evB (O k) c36 [some x0, some x1, some x2, some x3, some x4, none, none, none, none, none] st).val := rfl
theorem run37 (k : Nat) (x0 x1 x2 x3 : W) (st : Store) : runL P (k + 1) 37 [x0, x1, x2, x3] st = (evB (O k) c37 [some x0, some x1, some x2, some x3, none, none, none] st).val := rfl
theorem run38 (k : Nat) (x0 x1 x2 : W) (st : Store) : runL P (k + 1) 38 [x0, x1, x2] st = (evB (O k) c38 [some x0, some x1, some x2, none, none, none, none, none, none] st).val := rfl
theorem run39 (k : Nat) (x0 : W) (st : Store) : runL P (k + 1) 39 [x0] st = (evB (O k) c39 [some x0, none, none, none, none, none, none] st).val := rfl
theorem run40 (k : Nat) (x0 x1 x2 x3 x4 : W) (st : Store) : runL P (k + 1) 40 [x0, x1, x2, x3, x4] st = (evB (O k) c40 [some x0, some x1, some x2, some x3, some x4] st).val := rfl
theorem run41 (k : Nat) (x0 : W) (st : Store) : runL P (k + 1) 41 [x0] st = (evB (O k) c41 [some x0] st).val := rfl
theorem run42 (k : Nat) (x0 : W) (st : Store) : runL P (k + 1) 42 [x0] st = (evB (O k) c42 [some x0] st).val := rfl
theorem run43 (k : Nat) (x0 : W) (st : Store) : runL P (k + 1) 43 [x0] st = (evB (O k) c43 [some x0] st).val := rfl
theorem run44 (k : Nat) (x0 : W) (st : Store) : runL P (k + 1) 44 [x0] st = (evB (O k) c44 [some x0, none, none, none, none] st).val := rfl
theorem run45 (k : Nat) (x0 : W) (st : Store) : runL P (k + 1) 45 [x0] st = (evB (O k) c45 [some x0] st).val := rfl
theorem ok0 : okB ⟨T, n0, defScope (top 0), none⟩ c0 (defBody (top 0)) = true := by decide +kernel
theorem sc0 : FnScope n0 [("k" : Str)] (defScope (top 0)) := sc_by (by decide +kernel)
theorem ok1 : okB ⟨T, n1, defScope (top 8), none⟩ c1 (defBody (top 8)) = true := by decide +kernel
theorem sc1 : FnScope n1 [("thing" : Str)] (defScope (top 8)) := sc_by (by decide +kernel)
theorem ok2 : okB ⟨T, n2, defScope (top 9), none⟩ c2 (defBody (top 9)) = true := by decide +kernel
theorem sc2 : FnScope n2 [("one" : Str), ("other" : Str)] (defScope (top 9)) := sc_by (by decide +kernel)
theorem ok3 : okB ⟨T, n3, defScope (top 10), none⟩ c3 (defBody (top 10)) = true := by decide +kernel
theorem sc3 : FnScope n3 [("thing" : Str)] (defScope (top 10)) := sc_by (by decide +kernel)
theorem ok4 : okB ⟨T, n4, defScope (top 11), none⟩ c4 (defBody (top 11)) = true := by decide +kernel
theorem sc4 : FnScope n4 [("top" : Str), ("bottom" : Str)] (defScope (top 11)) := sc_by (by decide +kernel)
theorem ok5 : okB ⟨T, n5, defScope (top 12), none⟩ c5 (defBody (top 12)) = true := by decide +kernel
theorem sc5 : FnScope n5 [("one" : Str), ("other" : Str)] (defScope (top 12)) := sc_by (by decide +kernel)
theorem ok6 : okB ⟨T, n6, defScope (top 13), none⟩ c6 (defBody (top 13)) = true := by decide +kernel
theorem sc6 : FnScope n6 [("one" : Str), ("other" : Str)] (defScope (top 13)) := sc_by (by decide +kernel)
theorem ok7 : okB ⟨T, n7, defScope (top 15), none⟩ c7 (defBody (top 15)) = true := by decide +kernel
theorem sc7 : FnScope n7 [("thing" : Str), ("many" : Str)] (defScope (top 15)) := sc_by (by decide +kernel)
theorem ok8 : okB ⟨T, n8, defScope (top 16), none⟩ c8 (defBody (top 16)) = true := by decide +kernel
theorem sc8 : FnScope n8 [("thing" : Str), ("many" : Str), ("wide" : Str)] (defScope (top 16)) := sc_by (by decide +kernel)
theorem ok9 : okB ⟨T, n9, defScope (top 17), none⟩ c9 (defBody (top 17)) = true := by decide +kernel
theorem sc9 : FnScope n9 [("one" : Str), ("other" : Str)] (defScope (top 17)) := sc_by (by decide +kernel)
theorem ok10 : okB ⟨T, n10, defScope (top 18), none⟩ c10 (defBody (top 18)) = true := by decide +kernel
theorem sc10 : FnScope n10 [("many" : Str), ("wide" : Str)] (defScope (top 18)) := sc_by (by decide +kernel)
theorem ok11 : okB ⟨T, n11, defScope (top 19), none⟩ c11 (defBody (top 19)) = true := by decide +kernel
theorem sc11 : FnScope n11 [("table" : Str), ("wide" : Str)] (defScope (top 19)) := sc_by (by decide +kernel)
theorem ok12 : okB ⟨T, n12, defScope (top 20), none⟩ c12 (defBody (top 20)) = true := by decide +kernel
theorem sc12 : FnScope n12 [("one" : Str), ("other" : Str), ("wide" : Str)] (defScope (top 20)) := sc_by (by decide +kernel)
theorem ok13 : okB ⟨T, n13, defScope (top 21), none⟩ c13 (defBody (top 21)) = true := by decide +kernel
theorem sc13 : FnScope n13 [("one" : Str), ("other" : Str)] (defScope (top 21)) := sc_by (by decide +kernel)
theorem ok14 : okB ⟨T, n14, defScope (top 24), none⟩ c14 (defBody (top 24)) = true := by decide +kernel
theorem sc14 : FnScope n14 [("table" : Str)] (defScope (top 24)) := sc_by (by decide +kernel)
theorem ok15 : okB ⟨T, n15, defScope (top 25), none⟩ c15 (defBody (top 25)) = true := by decide +kernel
theorem sc15 : FnScope n15 [("move" : Str), ("push" : Str), ("look" : Str), ("through" : Str)] (defScope (top 25)) := sc_by (by decide +kernel)
theorem ok16 : okB ⟨T, n16, defScope (top 28), none⟩ c16 (defBody (top 28)) = true := by decide +kernel
theorem sc16 : FnScope n16 [("one" : Str), ("other" : Str)] (defScope (top 28)) := sc_by (by decide +kernel)
theorem ok17 : okB ⟨T, n17, defScope (top 29), none⟩ c17 (defBody (top 29)) = true := by decide +kernel
theorem sc17 : FnScope n17 [("one" : Str), ("other" : Str)] (defScope (top 29)) := sc_by (by decide +kernel)
theorem ok18 : okB ⟨T, n18, defScope (top 30), none⟩ c18 (defBody (top 30)) = true := by decide +kernel
theorem sc18 : FnScope n18 [("one" : Str), ("other" : Str)] (defScope (top 30)) := sc_by (by decide +kernel)
theorem ok19 : okB ⟨T, n19, defScope (top 32), none⟩ c19 (defBody (top 32)) = true := by decide +kernel
theorem sc19 : FnScope n19 [("_law_script" : Str), ("_law_k" : Str)] (defScope (top 32)) := sc_by (by decide +kernel)
theorem ok20 : okB ⟨T, n20, defScope (top 33), none⟩ c20 (defBody (top 33)) = true := by decide +kernel
theorem sc20 : FnScope n20 [("_law_cell_here" : Str), ("_law_k" : Str)] (defScope (top 33)) := sc_by (by decide +kernel)
theorem ok21 : okB ⟨T, n21, defScope (top 34), none⟩ c21 (defBody (top 34)) = true := by decide +kernel
theorem sc21 : FnScope n21 [("_law_one" : Str), ("_law_other" : Str)] (defScope (top 34)) := sc_by (by decide +kernel)
theorem ok22 : okB ⟨T, n22, defScope (top 35), none⟩ c22 (defBody (top 35)) = true := by decide +kernel
theorem sc22 : FnScope n22 [("_law_top" : Str), ("_law_bottom" : Str)] (defScope (top 35)) := sc_by (by decide +kernel)
theorem ok23 : okB ⟨T, n23, defScope (top 36), none⟩ c23 (defBody (top 36)) = true := by decide +kernel
theorem sc23 : FnScope n23 [("_law_cell_here" : Str), ("_law_many" : Str)] (defScope (top 36)) := sc_by (by decide +kernel)
theorem ok24 : okB ⟨T, n24, defScope (top 37), none⟩ c24 (defBody (top 37)) = true := by decide +kernel
theorem sc24 : FnScope n24 [("_law_numbers_here" : Str), ("_law_many" : Str), ("_law_wide" : Str)] (defScope (top 37)) := sc_by (by decide +kernel)
theorem ok25 : okB ⟨T, n25, defScope (top 38), none⟩ c25 (defBody (top 38)) = true := by decide +kernel
theorem sc25 : FnScope n25 [("_law_cell_here" : Str), ("_law_many" : Str), ("_law_ins" : Str), ("_law_outs" : Str)] (defScope (top 38)) := sc_by (by decide +kernel)
theorem ok26 : okB ⟨T, n26, defScope (top 39), none⟩ c26 (defBody (top 39)) = true := by decide +kernel
theorem sc26 : FnScope n26 [("_law_one" : Str), ("_law_other" : Str)] (defScope (top 39)) := sc_by (by decide +kernel)
theorem ok27 : okB ⟨T, n27, defScope (top 40), none⟩ c27 (defBody (top 40)) = true := by decide +kernel
theorem sc27 : FnScope n27 [("_law_row" : Str), ("_law_other" : Str)] (defScope (top 40)) := sc_by (by decide +kernel)
theorem ok28 : okB ⟨T, n28, defScope (top 41), none⟩ c28 (defBody (top 41)) = true := by decide +kernel
theorem sc28 : FnScope n28 [("_law_table" : Str), ("_law_row" : Str)] (defScope (top 41)) := sc_by (by decide +kernel)
theorem ok29 : okB ⟨T, n29, defScope (top 42), none⟩ c29 (defBody (top 42)) = true := by decide +kernel
theorem sc29 : FnScope n29 [("_law_one" : Str), ("_law_other" : Str)] (defScope (top 42)) := sc_by (by decide +kernel)
theorem ok30 : okB ⟨T, n30, defScope (top 43), none⟩ c30 (defBody (top 43)) = true := by decide +kernel
theorem sc30 : FnScope n30 [("_law_four_here" : Str), ("_law_state" : Str), ("_law_given" : Str)] (defScope (top 43)) := sc_by (by decide +kernel)
theorem ok31 : okB ⟨T, n31, defScope (top 44), none⟩ c31 (defBody (top 44)) = true := by decide +kernel
theorem sc31 : FnScope n31 [("_law_many" : Str)] (defScope (top 44)) := sc_by (by decide +kernel)
theorem ok32 : okB ⟨T, n32, defScope (top 45), none⟩ c32 (defBody (top 45)) = true := by decide +kernel
theorem sc32 : FnScope n32 [("_law_many" : Str), ("_law_ins" : Str)] (defScope (top 45)) := sc_by (by decide +kernel)
theorem ok33 : okB ⟨T, n33, defScope (top 46), none⟩ c33 (defBody (top 46)) = true := by decide +kernel
theorem sc33 : FnScope n33 [("_law_cell_here" : Str), ("_law_large" : Str)] (defScope (top 46)) := sc_by (by decide +kernel)
theorem ok34 : okB ⟨T, n34, defScope (top 47), none⟩ c34 (defBody (top 47)) = true := by decide +kernel
theorem sc34 : FnScope n34 [("_law_four_here" : Str)] (defScope (top 47)) := sc_by (by decide +kernel)
theorem ok35 : okB ⟨T, n35, defScope (top 48), none⟩ c35 (defBody (top 48)) = true := by decide +kernel
theorem sc35 : FnScope n35 [("_law_way" : Str), ("_law_one" : Str), ("_law_other" : Str)] (defScope (top 48)) := sc_by (by decide +kernel)
theorem ok36 : okB ⟨T, n36, defScope (top 49), none⟩ c36 (defBody (top 49)) = true := by decide +kernel
theorem sc36 : FnScope n36 [("_law_way" : Str), ("_law_one" : Str), ("_law_other" : Str), ("_law_state" : Str), ("_law_given" : Str)] (defScope (top 49)) := sc_by (by decide +kernel)
theorem ok37 : okB ⟨T, n37, defScope (top 50), none⟩ c37 (defBody (top 50)) = true := by decide +kernel
theorem sc37 : FnScope n37 [("_law_way" : Str), ("_law_found" : Str), ("_law_one" : Str), ("_law_other" : Str)] (defScope (top 50)) := sc_by (by decide +kernel)
theorem ok38 : okB ⟨T, n38, defScope (top 51), none⟩ c38 (defBody (top 51)) = true := by decide +kernel
theorem sc38 : FnScope n38 [("_law_systems" : Str), ("_law_shapes" : Str), ("_law_fours" : Str)] (defScope (top 51)) := sc_by (by decide +kernel)
theorem ok39 : okB ⟨T, n39, defScope (top 52), none⟩ c39 (defBody (top 52)) = true := by decide +kernel
theorem sc39 : FnScope n39 [("_law_script" : Str)] (defScope (top 52)) := sc_by (by decide +kernel)
theorem ok40 : okB ⟨T, n40, defScope (inClass (top 26) 0), none⟩ c40 (defBody (inClass (top 26) 0)) = true := by decide +kernel
theorem sc40 : FnScope n40 [("self" : Str), ("move" : Str), ("push" : Str), ("look" : Str), ("through" : Str)] (defScope (inClass (top 26) 0)) := sc_by (by decide +kernel)
theorem ok41 : okB ⟨T, n41, defScope (inClass (top 26) 1), none⟩ c41 (defBody (inClass (top 26) 1)) = true := by decide +kernel
theorem sc41 : FnScope n41 [("self" : Str)] (defScope (inClass (top 26) 1)) := sc_by (by decide +kernel)
theorem ok42 : okB ⟨T, n42, defScope (inClass (top 26) 2), none⟩ c42 (defBody (inClass (top 26) 2)) = true := by decide +kernel
theorem sc42 : FnScope n42 [("self" : Str)] (defScope (inClass (top 26) 2)) := sc_by (by decide +kernel)
theorem ok43 : okB ⟨T, n43, defScope (inClass (top 26) 3), none⟩ c43 (defBody (inClass (top 26) 3)) = true := by decide +kernel
theorem sc43 : FnScope n43 [("self" : Str)] (defScope (inClass (top 26) 3)) := sc_by (by decide +kernel)
theorem ok44 : okB ⟨T, n44, defScope (inClass (top 26) 4), none⟩ c44 (defBody (inClass (top 26) 4)) = true := by decide +kernel
theorem sc44 : FnScope n44 [("self" : Str)] (defScope (inClass (top 26) 4)) := sc_by (by decide +kernel)
theorem ok45 : okB ⟨T, n45, defScope (inClass (top 26) 5), none⟩ c45 (defBody (inClass (top 26) 5)) = true := by decide +kernel
theorem sc45 : FnScope n45 [("self" : Str)] (defScope (inClass (top 26) 5)) := sc_by (by decide +kernel)
end Mx.K41

namespace Mx.K41
open Mx PySem L2
theorem divisor_ (k : Nat) (a b : Int) (st : Store) {n : Nat} (hb : Sm n b) (hn : n ≤ 1000000) : runL P (k + 1) 2 [.int a, .int b] st = .ok (.int (Int.gcd a b)) st := by
  rw [run2]
  simp only [c2]
  have e := euclid (st := st) (test := evT (O k) (.cmp .NotEq (.var 1) (.int 0))) (body := evB (O k) (.cons (.par 0 1 (.var 1) (.bop .Mod (.var 0) (.var 1))) .nil)) (fun x y => [some (.int x), some (.int y)]) (fun x y => by simp) (fun x y hy => by
    simp [op_mod' (st := st) (i := (x : Int)) (j := (y : Int)) (by omega), fmod_nat]) n a.natAbs b.natAbs mostTurns hb (by unfold mostTurns; omega)
  simp [s_whl', e, Int.gcd]
theorem frac_ (k : Nat) {t b : Int} (st : Store) (hb : b ≠ 0) {n : Nat} (h : Sm n b) (hn : n ≤ 8990) : runL P (k + 2) 4 [.int t, .int b] st = .ok (fr t b) st := by
  have d (x : Int) := op_fdiv' (st := st) (i := x) (fg_ne (t := t) hb) (fg_log hb h hn)
  rw [run4]
  unfold fr
  by_cases hneg : b < 0
  · have e : fg t b = -(Int.gcd t b : Int) := if_pos hneg
    rw [e] at d ⊢
    simp [c4, divisor_ k t b st h (by omega), hneg, fw, d]
  · have e : fg t b = (Int.gcd t b : Int) := if_neg hneg
    rw [e] at d ⊢
    simp [c4, divisor_ k t b st h (by omega), hneg, fw, d]
theorem plusF (k : Nat) (st : Store) {x y : Fr} {m n : Nat} (hx : Bd m x) (hy : Bd n y) (hn : m + n ≤ 8900) : runL P (k + 3) 5 [fp x, fp y] st = .ok (fp (addF x y)) st := by
  obtain ⟨a, b⟩ := x
  obtain ⟨c, d⟩ := y
  obtain ⟨b0, ha, hb⟩ := hx
  obtain ⟨d0, hc, hd⟩ := hy
  have m1 := mulS (st := st) ha hd (by omega)
  have m2 := mulS (st := st) hc hb (by omega)
  have m3 := mulS (st := st) hb hd (by omega)
  have f := frac_ k st (t := a * d + c * b) (b := b * d) (Int.mul_ne_zero (Int.ne_of_gt b0) (Int.ne_of_gt d0)) (hb.mul hd) (by omega)
  rw [fr_low] at f
  rw [run5]
  unfold fp fw at *
  simp [c5, m1, m2, m3, f]
  exact ⟨rfl, rfl⟩
theorem timesF (k : Nat) (st : Store) {x y : Fr} {m n : Nat} (hx : Bd m x) (hy : Bd n y) (hn : m + n ≤ 8900) : runL P (k + 3) 6 [fp x, fp y] st = .ok (fp (mulF x y)) st := by
  obtain ⟨a, b⟩ := x
  obtain ⟨c, d⟩ := y
  obtain ⟨b0, ha, hb⟩ := hx
  obtain ⟨d0, hc, hd⟩ := hy
  have m1 := mulS (st := st) ha hc (by omega)
  have m2 := mulS (st := st) hb hd (by omega)
  have f := frac_ k st (t := a * c) (b := b * d) (Int.mul_ne_zero (Int.ne_of_gt b0) (Int.ne_of_gt d0)) (hb.mul hd) (by omega)
  rw [fr_low] at f
  rw [run6]
  unfold fp fw at *
  simp [c6, m1, m2, f]
  exact ⟨rfl, rfl⟩
end Mx.K41

namespace Mx.K41
open Mx PySem L2
@[simp] theorem glb0 (k : Nat) : (O k).glb 0 = some (fq 0) := id rfl
theorem plusQ (k : Nat) (st : Store) {p q : Rat} {m n : Nat} (hp : BQ m p) (hq : BQ n q) (hn : m + n ≤ 8900) : runL P (k + 3) 5 [fq p, fq q] st = .ok (fq (p + q)) st := by
  have := plusF k st hp hq hn
  rw [add_R] at this; exact this
theorem timesQ (k : Nat) (st : Store) {p q : Rat} {m n : Nat} (hp : BQ m p) (hq : BQ n q) (hn : m + n ≤ 8900) : runL P (k + 3) 6 [fq p, fq q] st = .ok (fq (p * q)) st := by
  have := timesF k st hp hq hn
  rw [mul_R] at this; exact this
/-! ### the program -/
theorem whole_ (k : Nat) (i : Int) (st : Store) : runL P (k + 1) 1 [.int i] st = .ok (.bl true) st := by
  rw [run1]
  simp [c1, isAny_1, isAny_2]
theorem fraction_ (k : Nat) (st : Store) {q : Rat} {n : Nat} (hq : BQ n q) (hn : n ≤ 9000) : runL P (k + 2) 3 [fq q] st = .ok (.bl true) st := by
  have d := divisor_ k q.num q.den st hq.2.2 (by omega)
  have hg : Int.gcd q.num q.den = 1 := q.reduced
  have hp : ¬ ((q.den : Int) < 1) := by have := q.den_pos; omega
  have w1 := whole_ k q.num st
  have w2 := whole_ k q.den st
  rw [hg] at d
  rw [run3, fq_def]
  simp [c3, isAny_1, isAny_2, d, w1, w2, hp]
theorem row_ (k : Nat) {st : Store} {r : Nat} {xs : List Rat} {n : Nat} (h : RowQ st r xs) (hb : RQ n xs) (hn : n ≤ 9000) : runL P (k + 3) 7 [.ref r, .int xs.length] st = .ok (.bl true) st := by
  obtain ⟨ρ', st', hl, rfl, _⟩ := for_inv (i := 0) (m := xs.length) (n := xs.length) (it := .lst r xs.length) (st := st) (ρ := [some (.ref r), some (.int xs.length), none])
    (body := fun w ρ st => (evG (O (k + 2)) (.name 2) w ρ st).out ρ fun ρ st => evB (O (k + 2)) (.cons (.ife (.not (.call 3 (.cons (.var 2) .nil))) (.cons (.ret (.bl false)) .nil) .nil) .nil) ρ st)
    (Inv := fun i ρ st' => st' = st ∧ ∃ z, ρ = [some (.ref r), some (.int xs.length), z]) (fun i ρ st' hi ⟨e, z, e2⟩ => by
      subst e; subst e2
      have f := fraction_ k st' (hb xs[i] (List.getElem_mem _)) hn
      have g := (tells_lst (l := xs.length) h) st' (.refl _) i
      refine ⟨fq xs[i], _, st', by rw [g]; simp [hi], .inl ?_, rfl, some (fq xs[i]), rfl⟩
      simp [f]) (fun ρ st' ⟨e, _⟩ => by
      subst e
      rw [(tells_lst (l := xs.length) h) st' (.refl _)]; simp) (by omega) (by omega) ⟨rfl, none, rfl⟩
  have h' : st'[r]? = some (.lst (xs.map fq)) := h
  rw [run7]
  simp at hl
  simp [c7, isAny_2, isAny_1, h', hl]
theorem table_ (k : Nat) {st : Store} {p : Nat} {qs : List Nat} {M : List (List Rat)} {w n : Nat} (h : TabF fq st p qs M) (hw : ∀ xs ∈ M, xs.length = w) (hb : TQ n M) (hn : n ≤ 9000) : runL P (k + 4) 8 [.ref p, .int M.length, .int w] st = .ok (.bl true) st := by
  have lq := h.len
  obtain ⟨ρ', st', hl, rfl, _⟩ := for_inv (i := 0) (m := M.length) (n := M.length) (it := .lst p M.length) (st := st) (ρ := [some (.ref p), some (.int M.length), some (.int w), none])
    (body := fun w ρ st => (evG (O (k + 3)) (.name 3) w ρ st).out ρ fun ρ st => evB (O (k + 3)) (.cons (.ife (.not (.call 7 (.cons (.var 3) (.cons (.var 2) .nil)))) (.cons (.ret (.bl false)) .nil) .nil) .nil) ρ st)
    (Inv := fun i ρ st' => st' = st ∧ ∃ z, ρ = [some (.ref p), some (.int M.length), some (.int w), z]) (fun i ρ st' hi ⟨e, z, e2⟩ => by
      subst e; subst e2
      have hi2 : i < qs.length := by omega
      obtain ⟨xs, hx, hr⟩ := h.rows.get (i := i) (a := qs[i]) (List.getElem?_eq_getElem hi2)
      have hm := List.mem_of_getElem? hx
      have f := row_ k hr (hb xs hm) hn
      rw [hw xs hm] at f
      have g := (tells_lst (l := M.length) h.at_) st' (.refl _) i
      refine ⟨.ref qs[i], _, st', by rw [g]; simp [hi2], .inl ?_, rfl, some (.ref qs[i]), rfl⟩
      simp [f]) (fun ρ st' ⟨e, _⟩ => by
      subst e
      rw [(tells_lst (l := M.length) h.at_) st' (.refl _)]; simp [lq]) (by omega) (by omega) ⟨rfl, none, rfl⟩
  have h' : st'[p]? = some (.lst (qs.map W.ref)) := h.at_
  rw [run8]
  simp at hl
  simp [c8, isAny_2, isAny_1, h', lq, hl]
theorem RSc.rq {e N : Nat} {xs : List Rat} (h : RSc e N xs) : RQ (max N (15 * e + 1)) xs := fun x hx => (h x hx).bq
theorem TSc.tq {e N : Nat} {M : List (List Rat)} (h : TSc e N M) : TQ (max N (15 * e + 1)) M := fun x hx => RSc.rq (h x hx)
theorem weighed_ (k : Nat) {st : Store} {e f N M : Nat} {q r : Nat} {xs ys : List Rat} (hx : RowQ st q xs) (hy : RowQ st r ys) (bx : RSc e N xs) (bY : RSc f M ys) (hl : xs.length ≤ 8) (h1 : N + M ≤ 2000) (h2 : e + f ≤ 100) : runL P (k + 4) 9 [.ref q, .ref r] st = .ok (fq (dq xs ys)) st := by
  have bz := RSc.zip bx bY
  have lz : (List.zipWith (· * ·) xs ys).length = min xs.length ys.length := List.length_zipWith
  obtain ⟨ρ', st', h, rfl, z3, z4, rfl⟩ := for_inv (i := 0) (m := min xs.length ys.length) (n := min xs.length ys.length) (it := .zip q r (min xs.length ys.length)) (st := st) (ρ := [some (.ref q), some (.ref r), some (fq 0), none, none])
    (body := fun w ρ st => (evG (O (k + 3)) (.tup (.cons (.name 3) (.cons (.name 4) .nil))) w ρ st).out ρ fun ρ st => evB (O (k + 3)) (.cons (.set (.name 2) (.call 5 (.cons (.var 2) (.cons (.call 6 (.cons (.var 3) (.cons (.var 4) .nil))) .nil)))) .nil) ρ st)
    (Inv := fun i ρ st' => st' = st ∧ ∃ z3 z4, ρ = [some (.ref q), some (.ref r), some (fq (sumQ ((List.zipWith (· * ·) xs ys).take i))), z3, z4]) (fun i ρ st' hi ⟨e1, z3, z4, e2⟩ => by
      subst e1; subst e2
      have hg := (tells_zip (l := min xs.length ys.length) hx hy) st' (.refl _) i
      have i1 : i < xs.length := by omega
      have i2 : i < ys.length := by omega
      have ei : (List.zipWith (fun w u => W.tup [w, u]) (xs.map fq) (ys.map fq))[i]? = some (.tup [fq xs[i], fq ys[i]]) := by
        simp [List.getElem?_zipWith, i1, i2]
      rw [ei] at hg
      have b1 := bx xs[i] (List.getElem_mem _)
      have b2 := bY ys[i] (List.getElem_mem _)
      have bt : Sc (e + f) (N + M + 8) (sumQ ((List.zipWith (· * ·) xs ys).take i)) := (Sc.sum (e := e + f) (N := N + M) (xs := (List.zipWith (· * ·) xs ys).take i) fun x hx => bz x (List.mem_of_mem_take hx)).mono (by rw [List.length_take]; omega)
      have f1 := timesQ k st' b1.bq b2.bq (by omega)
      have f2 := plusQ k st' bt.bq (b1.mul b2).bq (by omega)
      have ws : sumQ ((List.zipWith (· * ·) xs ys).take (i + 1)) = sumQ ((List.zipWith (· * ·) xs ys).take i) + xs[i] * ys[i] := by
        rw [List.take_add_one, List.getElem?_eq_getElem (by omega), List.getElem_zipWith]
        exact sumQ_snoc _ _
      generalize sumQ ((List.zipWith (· * ·) xs ys).take (i + 1)) = t' at *
      generalize sumQ ((List.zipWith (· * ·) xs ys).take i) = t at *
      subst ws
      refine ⟨_, _, st', hg, .inl ?_, rfl, some (fq xs[i]), some (fq ys[i]), rfl⟩
      simp [f1, f2]) (fun ρ st' ⟨e1, _⟩ => by
      subst e1
      have hg := (tells_zip (l := min xs.length ys.length) hx hy) st' (.refl _) (min xs.length ys.length)
      rw [hg, List.getElem?_eq_none_iff.mpr (by simp)]) (by omega) (by omega) ⟨rfl, none, none, rfl⟩
  rw [show min xs.length ys.length = (List.zipWith (· * ·) xs ys).length from lz.symm, List.take_length, lz] at h
  have hx' : st'[q]? = some (.lst (xs.map fq)) := hx
  have hy' : st'[r]? = some (.lst (ys.map fq)) := hy
  rw [run9]
  simp at h
  simp [c9, hx', hy', h]
  rfl
theorem rows_anew_ (k : Nat) {st : Store} {p : Nat} {qs : List Nat} {M : List (List Rat)} (h : TabF fq st p qs M) (hl : M.length ≤ 100) (hw : ∀ xs ∈ M, xs.length ≤ 100) : ∃ p' qs' st', runL P (k + 1) 14 [.ref p] st = .ok (.ref p') st' ∧ NewF fq st st' p' qs' M := by
  have lq := h.len
  obtain ⟨p', qs', st', h1, N⟩ := lc_rowsF (f := fq) (M := M) (body := lcBody (O k) (.name 1) .nil (.bi .list (.cons (.var 1) .nil))) (it := .lst p (qs.map W.ref).length) (ρ := [some (.ref p), none]) (tells_lst h.at_) (by
    have := all2_tabF (R := fun w (xs : List Rat) => ∀ st', Gr st st' → ∃ q st'', lcBody (O k) (.name 1) .nil (.bi .list (.cons (.var 1) .nil)) w [some (.ref p), none] st' = .ok (some (.ref q)) st'' ∧ New st' st'' q (xs.map fq)) (g := id) h.rows fun q xs hx a st' g => by
      have a' : st'[q]? = some (.lst (xs.map fq)) := g.get a
      have hn : (xs.map fq).length ≤ 1000 := by rw [List.length_map]; have := hw xs hx; omega
      refine ⟨st'.length, st' ++ [.lst (xs.map fq)], ?_, Gr.app _ _, Nat.le_refl _, get_last⟩
      have nl := new_few (st := st') hn
      simp [lcBody, a', nl]
    rw [List.map_id] at this
    exact this) (by simp; omega) (by simp)
  refine ⟨p', qs', st', ?_, N⟩
  have h' : st[p]? = some (.lst (qs.map W.ref)) := h.at_
  rw [run14]
  simp at h1
  simp [c14, h', h1]end Mx.K41

namespace Mx.K41
open Mx PySem L2
/-! ### drawn numbers -/
theorem ldivisor_ (k : Nat) (a b : Int) (st : Store) {n : Nat} (hb : Sm n b) (hn : n ≤ 1000000) : runL P (k + 1) 21 [.int a, .int b] st = .ok (.int (Int.gcd a b)) st := by
  rw [run21]
  simp only [c21]
  have e := euclid (st := st) (test := evT (O k) (.cmp .Gt (.var 1) (.int 0))) (body := evB (O k) (.cons (.par 0 1 (.var 1) (.bop .Mod (.var 0) (.var 1))) .nil)) (fun x y => [some (.int x), some (.int y)]) (fun x y => by
      have e0 : decide (0 < y) = !decide (y = 0) := by cases y <;> simp
      simp [e0]) (fun x y hy => by
    simp [op_mod' (st := st) (i := (x : Int)) (j := (y : Int)) (by omega), fmod_nat]) n a.natAbs b.natAbs mostTurns hb (by unfold mostTurns; omega)
  simp [s_whl', e, Int.gcd]
theorem lfrac_ (k : Nat) {t b : Int} (st : Store) (hb : 0 < b) {n : Nat} (h : Sm n b) (hn : n ≤ 8990) : runL P (k + 2) 22 [.int t, .int b] st = .ok (fp (lowF t b)) st := by
  have hb0 : b ≠ 0 := by omega
  have d (x : Int) := op_fdiv' (st := st) (i := x) (fg_ne (t := t) hb0) (fg_log hb0 h hn)
  rw [run22, ← fr_low]
  unfold fr
  have e : fg t b = (Int.gcd t b : Int) := if_neg (by omega)
  rw [e] at d ⊢
  simp [c22, ldivisor_ k t b st h (by omega), fw, d]
theorem mixed_ (k : Nat) (c : Int) {i : Int} (h0 : 0 ≤ i) (h1 : i < 1000) (st : Store) : ∃ r : Int, runL P (k + 1) 20 [.int c, .int i] st = .ok (.int r) st ∧ 0 ≤ r := by
  have hi : Sm 40 i := Sm.nn h0 (by omega)
  have m1 := mulS (st := st) (i := 7919) (j := i) (m := 20) (Sm.lit rfl) hi (by decide)
  have m2 := mulS (st := st) (i := 48271) (j := i) (m := 20) (Sm.lit rfl) hi (by decide)
  obtain ⟨n1, e1, s1⟩ : ∃ n, (c + 7919 * i + 12345).fmod 2147483629 = n ∧ Sm 31 n := ⟨_, rfl, fm_sm _ (by decide) (by decide)⟩
  have m3 := mulS (st := st) s1 s1 (by decide)
  obtain ⟨n2, e2, s2⟩ : ∃ n, (n1 * n1 + 48271 * i).fmod 2147483629 = n ∧ Sm 31 n := ⟨_, rfl, fm_sm _ (by decide) (by decide)⟩
  have m4 := mulS (st := st) s2 s2 (by decide)
  refine ⟨(n2 * n2).fmod 2147483587, ?_, fm_nn _ (by decide)⟩
  rw [run20]
  simp [c20, m1, m2, op_mod', e1, m3, e2, m4]
theorem cell_ (k : Nat) (is : List Int) (i : Nat) (st : Store) : ∃ r : Int, runL P (k + 1) 19 [.scr is, .int i] st = .ok (.int r) st := by
  rw [run19]
  have hb : biW .len [.scr is] st = .ok (.int is.length) st := rfl
  by_cases h : i < is.length
  · refine ⟨is[i], ?_⟩
    simp [c19, hb, h, atI_nat]
  · refine ⟨0, ?_⟩
    simp [c19, hb, h]
theorem sc_div {t b : Int} (h1 : -9 ≤ t) (h2 : t ≤ 9) (h3 : 1 ≤ b) (h4 : b ≤ 12) : Sc 1 18 (Rat.divInt t b) := by
  have key : ∀ c : Int, b * c = 27720 → Sc 1 18 (Rat.divInt t b) := fun c hc => by
    refine ⟨t * c, ?_, ?_⟩
    · rw [Rat.divInt_eq_div, Rat.intCast_mul, Rat.pow_one]
      have e : (b : Rat) * (c : Rat) = 27720 := by rw [← Rat.intCast_mul, hc]; rfl
      have hb : (b : Rat) ≠ 0 := by
        intro z
        have : b = 0 := by exact_mod_cast z
        omega
      generalize (b : Rat) = b' at *
      generalize (c : Rat) = c' at *
      grind
    · have hc0 : 0 < c := by
        rcases Int.lt_trichotomy c 0 with z | z | z
        · have := Int.mul_neg_of_pos_of_neg (show 0 < b by omega) z; omega
        · rw [z, Int.mul_zero] at hc; omega
        · exact z
      have hc1 : c ≤ 27720 := by
        have := Int.mul_le_mul_of_nonneg_right h3 (Int.le_of_lt hc0)
        omega
      have a1 := Int.mul_le_mul_of_nonneg_right h2 (Int.le_of_lt hc0)
      have a2 := Int.mul_le_mul_of_nonneg_right h1 (Int.le_of_lt hc0)
      exact Sm.of (by omega) (by omega)
  have : b = 1 ∨ b = 2 ∨ b = 3 ∨ b = 4 ∨ b = 5 ∨ b = 6 ∨ b = 7 ∨ b = 8 ∨ b = 9 ∨ b = 10 ∨ b = 11 ∨ b = 12 := by omega
  rcases this with z | z | z | z | z | z | z | z | z | z | z | z
  · exact key 27720 (by rw [z]; rfl)
  · exact key 13860 (by rw [z]; rfl)
  · exact key 9240 (by rw [z]; rfl)
  · exact key 6930 (by rw [z]; rfl)
  · exact key 5544 (by rw [z]; rfl)
  · exact key 4620 (by rw [z]; rfl)
  · exact key 3960 (by rw [z]; rfl)
  · exact key 3465 (by rw [z]; rfl)
  · exact key 3080 (by rw [z]; rfl)
  · exact key 2772 (by rw [z]; rfl)
  · exact key 2520 (by rw [z]; rfl)
  · exact key 2310 (by rw [z]; rfl)
theorem fq_int (t : Int) : fq (t : Rat) = .tup [.int t, .int 1] := rfl
theorem sc_int {t : Int} (h1 : -9 ≤ t) (h2 : t ≤ 9) : Sc 1 18 (t : Rat) := by
  have := sc_div h1 h2 (b := 1) (by decide) (by decide)
  rw [Rat.divInt_eq_div] at this
  have e : (t : Rat) / ((1 : Int) : Rat) = (t : Rat) := by
    have : ((1 : Int) : Rat) = 1 := rfl
    rw [this]; grind
  rw [e] at this
  exact this
theorem lfracQ (k : Nat) {t b : Int} (st : Store) (h3 : 1 ≤ b) (h4 : b ≤ 12) : runL P (k + 2) 22 [.int t, .int b] st = .ok (fq (Rat.divInt t b)) st := by
  have h := lfrac_ k (t := t) st (show 0 < b by omega) (n := 10) (Sm.nn (by omega) (by omega)) (by decide)
  rw [low_div _ _ (by omega)] at h
  exact h
theorem numbers_ (k : Nat) (c : Int) (n : Nat) (hn : n ≤ 100) (st : Store) : ∃ (p : Nat) (st' : Store) (xs : List Rat), runL P (k + 3) 23 [.int c, .int n] st = .ok (.ref p) st' ∧ New st st' p (xs.map fq) ∧ xs.length = n ∧ RSc 1 18 xs := by
  have hr := rng_0 (n := n) (by omega)
  by_cases h : c.fmod 2 = 1
  · obtain ⟨ρ', st', hlp, y4, y5, y6, d, xs, ex, rfl, rfl, hl, hw⟩ := for_inv (i := 0) (m := n) (n := n) (it := .rng 0 n) (st := st ++ [.lst []]) (ρ := [some (.int c), some (.int n), some (.ref st.length), some (.int (c.fdiv 2)), none, none, none])
      (body := fun w ρ st => (evG (O (k + 2)) (.name 4) w ρ st).out ρ fun ρ st => evB (O (k + 2)) (.cons (.ife (.cmp .Eq (.bop .Mod (.var 0) (.int 2)) (.int 1)) (.cons (.expr (.bm .append (.var 2) (.cons (.call 22 (.cons (.bop .Sub (.bop .Mod (.var 3) (.int 19)) (.int 9)) (.cons (.bop .Add (.int 1) (.bop .Mod (.bop .FloorDiv (.var 3) (.int 19)) (.int 12))) .nil))) .nil))) (.cons (.set (.name 3) (.bop .FloorDiv (.var 3) (.int 228))) .nil)) (.cons (.set (.name 5) (.call 20 (.cons (.var 0) (.cons (.var 4) .nil)))) (.cons (.set (.name 6) (.bop .Mod (.var 5) (.int 4))) (.cons (.expr (.bm .append (.var 2) (.cons (.idx (.lst (.cons (.tup (.cons (.int 0) (.cons (.int 1) .nil))) (.cons (.tup (.cons (.bop .Sub (.bop .Mod (.bop .FloorDiv (.var 5) (.int 4)) (.int 3)) (.int 1)) (.cons (.int 1) .nil))) (.cons (.tup (.cons (.int 1) (.cons (.int 2) .nil))) (.cons (.tup (.cons (.int 0) (.cons (.int 1) .nil))) .nil))))) (.var 6)) .nil))) (.cons (.ife (.cmp .Eq (.var 6) (.int 2)) (.cons (.set (.idx (.var 2) (.neg (.int 1))) (.call 22 (.cons (.bop .Sub (.bop .Mod (.bop .FloorDiv (.var 5) (.int 4)) (.int 19)) (.int 9)) (.cons (.bop .Add (.int 1) (.bop .Mod (.bop .FloorDiv (.var 5) (.int 76)) (.int 12))) .nil)))) .nil) .nil) .nil))))) .nil) ρ st)
      (Inv := fun i ρ st' => ∃ (y4 y5 y6 : Option W) (d : Int) (xs : List Rat) (ex : Store), ρ = [some (.int c), some (.int n), some (.ref st.length), some (.int d), y4, y5, y6] ∧ st' = st ++ (.lst (xs.map fq) :: ex) ∧ xs.length = i ∧ RSc 1 18 xs) (fun i ρ st' hi ⟨y4, y5, y6, d, xs, ex, e1, e2, hl, hw⟩ => by
        subst e1; subst e2
        have b0 := fm_nn (d.fdiv 19) (b := 12) (by decide)
        have b1 := fm_lt (d.fdiv 19) (b := 12) (by decide)
        have s0 := fm_nn d (b := 19) (by decide)
        have s1 := fm_lt d (b := 19) (by decide)
        have l := lfracQ k (t := d.fmod 19 - 9) (b := 1 + (d.fdiv 19).fmod 12) (st ++ (.lst (xs.map fq) :: ex)) (by omega) (by omega)
        have sc := sc_div (t := d.fmod 19 - 9) (b := 1 + (d.fdiv 19).fmod 12) (by omega) (by omega) (by omega) (by omega)
        refine ⟨_, [some (.int c), some (.int n), some (.ref st.length), some (.int (d.fdiv 228)), some (.int ((0 : Int) + (i : Nat))), y5, y6], _, get_rng hi, .inl ?_, _, _, _, _, xs ++ [Rat.divInt (d.fmod 19 - 9) (1 + (d.fdiv 19).fmod 12)], ex, rfl, rfl, by simp [hl], ?_⟩
        · have h1 : xs.length < 1000000 := by omega
          simp [op_mod', fdivL, h, l, h1]
        · intro w' hw'
          rcases List.mem_append.mp hw' with h | h
          · exact hw w' h
          · rw [List.mem_singleton] at h; subst h; exact sc) (fun _ _ _ => end_rng) (by omega) (by omega) ⟨none, none, none, c.fdiv 2, [], [], rfl, rfl, rfl, fun x hx => by simp at hx⟩
    refine ⟨st.length, st ++ (.lst (xs.map fq) :: ex), xs, ?_, ⟨Gr.app _ _, Nat.le_refl _, by show _ = _; simp⟩, hl, hw⟩
    rw [run23]
    simp at hlp
    simp [c23, fdivL, hr, hlp]
  · obtain ⟨ρ', st', hlp, y4, y5, y6, xs, ex, rfl, rfl, hl, hw⟩ := for_inv (i := 0) (m := n) (n := n) (it := .rng 0 n) (st := st ++ [.lst []]) (ρ := [some (.int c), some (.int n), some (.ref st.length), some (.int (c.fdiv 2)), none, none, none])
      (body := fun w ρ st => (evG (O (k + 2)) (.name 4) w ρ st).out ρ fun ρ st => evB (O (k + 2)) (.cons (.ife (.cmp .Eq (.bop .Mod (.var 0) (.int 2)) (.int 1)) (.cons (.expr (.bm .append (.var 2) (.cons (.call 22 (.cons (.bop .Sub (.bop .Mod (.var 3) (.int 19)) (.int 9)) (.cons (.bop .Add (.int 1) (.bop .Mod (.bop .FloorDiv (.var 3) (.int 19)) (.int 12))) .nil))) .nil))) (.cons (.set (.name 3) (.bop .FloorDiv (.var 3) (.int 228))) .nil)) (.cons (.set (.name 5) (.call 20 (.cons (.var 0) (.cons (.var 4) .nil)))) (.cons (.set (.name 6) (.bop .Mod (.var 5) (.int 4))) (.cons (.expr (.bm .append (.var 2) (.cons (.idx (.lst (.cons (.tup (.cons (.int 0) (.cons (.int 1) .nil))) (.cons (.tup (.cons (.bop .Sub (.bop .Mod (.bop .FloorDiv (.var 5) (.int 4)) (.int 3)) (.int 1)) (.cons (.int 1) .nil))) (.cons (.tup (.cons (.int 1) (.cons (.int 2) .nil))) (.cons (.tup (.cons (.int 0) (.cons (.int 1) .nil))) .nil))))) (.var 6)) .nil))) (.cons (.ife (.cmp .Eq (.var 6) (.int 2)) (.cons (.set (.idx (.var 2) (.neg (.int 1))) (.call 22 (.cons (.bop .Sub (.bop .Mod (.bop .FloorDiv (.var 5) (.int 4)) (.int 19)) (.int 9)) (.cons (.bop .Add (.int 1) (.bop .Mod (.bop .FloorDiv (.var 5) (.int 76)) (.int 12))) .nil)))) .nil) .nil) .nil))))) .nil) ρ st)
      (Inv := fun i ρ st' => ∃ (y4 y5 y6 : Option W) (xs : List Rat) (ex : Store), ρ = [some (.int c), some (.int n), some (.ref st.length), some (.int (c.fdiv 2)), y4, y5, y6] ∧ st' = st ++ (.lst (xs.map fq) :: ex) ∧ xs.length = i ∧ RSc 1 18 xs) (fun i ρ st' hi ⟨y4, y5, y6, xs, ex, e1, e2, hl, hw⟩ => by
        subst e1; subst e2
        obtain ⟨m, hm, m0⟩ := mixed_ (k + 1) c (i := (0 : Int) + (i : Nat)) (by omega) (by omega) (st ++ (.lst (xs.map fq) :: ex))
        have b0 := fm_nn (m.fdiv 76) (b := 12) (by decide)
        have b1 := fm_lt (m.fdiv 76) (b := 12) (by decide)
        have s0 := fm_nn (m.fdiv 4) (b := 19) (by decide)
        have s1 := fm_lt (m.fdiv 4) (b := 19) (by decide)
        have r0 := fm_nn (m.fdiv 4) (b := 3) (by decide)
        have r1 := fm_lt (m.fdiv 4) (b := 3) (by decide)
        have q0 := fm_nn m (b := 4) (by decide)
        have q1 := fm_lt m (b := 4) (by decide)
        have sc := sc_div (t := (m.fdiv 4).fmod 19 - 9) (b := 1 + (m.fdiv 76).fmod 12) (by omega) (by omega) (by omega) (by omega)
        have h1 : xs.length < 1000000 := by omega
        have snoc : ∀ x : Rat, Sc 1 18 x → RSc 1 18 (xs ++ [x]) := fun x hx w' hw' => by
          rcases List.mem_append.mp hw' with h | h
          · exact hw w' h
          · rw [List.mem_singleton] at h; subst h; exact hx
        simp at hm
        by_cases h2 : m.fmod 4 = 2
        · have l := lfracQ k (t := (m.fdiv 4).fmod 19 - 9) (b := 1 + (m.fdiv 76).fmod 12) (st ++ (.lst (xs.map fq ++ [.tup [.int 1, .int 2]]) :: (ex ++ [.lst [.tup [.int 0, .int 1], .tup [.int ((m.fdiv 4).fmod 3 - 1), .int 1], .tup [.int 1, .int 2], .tup [.int 0, .int 1]]]))) (by omega) (by omega)
          have gs : (st ++ (Cell.lst (xs.map fq ++ [.tup [.int 1, .int 2]]) :: (ex ++ [.lst [.tup [.int 0, .int 1], .tup [.int ((m.fdiv 4).fmod 3 - 1), .int 1], .tup [.int 1, .int 2], .tup [.int 0, .int 1]]])))[st.length]? = some (.lst (xs.map fq ++ [.tup [.int 1, .int 2]])) := by simp
          have ixl : ixN (xs.map fq ++ [W.tup [.int 1, .int 2]]).length (-1) = some xs.length := by
            unfold ixN
            rw [if_neg (by decide), List.length_append, List.length_singleton, List.length_map, if_pos (by omega)]
            exact congrArg some (by omega)
          have hs := set_lst (w := fq (Rat.divInt ((m.fdiv 4).fmod 19 - 9) (1 + (m.fdiv 76).fmod 12))) (ρ := [some (.int c), some (.int n), some (.ref st.length), some (.int (c.fdiv 2)), some (.int (i : Nat)), some (.int m), some (.int 2)]) gs ixl
          refine ⟨_, [some (.int c), some (.int n), some (.ref st.length), some (.int (c.fdiv 2)), some (.int ((0 : Int) + (i : Nat))), some (.int m), some (.int 2)], _, get_rng hi, .inl ?_, _, _, _, xs ++ [Rat.divInt ((m.fdiv 4).fmod 19 - 9) (1 + (m.fdiv 76).fmod 12)], ex ++ [.lst [.tup [.int 0, .int 1], .tup [.int ((m.fdiv 4).fmod 3 - 1), .int 1], .tup [.int 1, .int 2], .tup [.int 0, .int 1]]], rfl, rfl, by simp [hl], snoc _ sc⟩
          have es : (xs.map fq ++ [W.tup [.int 1, .int 2]]).set xs.length (fq (Rat.divInt ((m.fdiv 4).fmod 19 - 9) (1 + (m.fdiv 76).fmod 12))) = xs.map fq ++ [fq (Rat.divInt ((m.fdiv 4).fmod 19 - 9) (1 + (m.fdiv 76).fmod 12))] := by
            rw [List.set_append_right _ _ (by simp)]; simp
          rw [es] at hs
          simp [op_mod', fdivL, h, hm, h2, h1, l]
          simp at hs
          simp [hs]
        · obtain ⟨x, bx, e⟩ : ∃ x : Rat, Sc 1 18 x ∧ atI [fq 0, .tup [.int ((m.fdiv 4).fmod 3 - 1), .int 1], .tup [.int 1, .int 2], fq 0] (m.fmod 4) = some (fq x) := by
            have : m.fmod 4 = 0 ∨ m.fmod 4 = 1 ∨ m.fmod 4 = 3 := by omega
            rcases this with z | z | z <;> rw [z]
            · exact ⟨0, Sc.zero _ _, by simp⟩
            · exact ⟨(((m.fdiv 4).fmod 3 - 1 : Int) : Rat), sc_int (by omega) (by omega), by rw [fq_int]; simp⟩
            · exact ⟨0, Sc.zero _ _, by simp⟩
          rw [fq_0] at e
          refine ⟨_, [some (.int c), some (.int n), some (.ref st.length), some (.int (c.fdiv 2)), some (.int ((0 : Int) + (i : Nat))), some (.int m), some (.int (m.fmod 4))], _, get_rng hi, .inl ?_, _, _, _, xs ++ [x], ex ++ [.lst [.tup [.int 0, .int 1], .tup [.int ((m.fdiv 4).fmod 3 - 1), .int 1], .tup [.int 1, .int 2], .tup [.int 0, .int 1]]], rfl, rfl, by simp [hl], snoc _ bx⟩
          simp [op_mod', fdivL, h, hm, h2, h1, e]) (fun _ _ _ => end_rng) (by omega) (by omega) ⟨none, none, none, [], [], rfl, rfl, rfl, fun x hx => by simp at hx⟩
    refine ⟨st.length, st ++ (.lst (xs.map fq) :: ex), xs, ?_, ⟨Gr.app _ _, Nat.le_refl _, by show _ = _; simp⟩, hl, hw⟩
    rw [run23]
    simp at hlp
    simp [c23, fdivL, hr, hlp]
end Mx.K41

namespace Mx.K41
open Mx PySem L2
/-! ### drawn tables -/
theorem lrows_ (k : Nat) {st : Store} {q m w : Nat} {xs : List Rat} (h : RowQ st q xs) (hm : m ≤ 10) (hw : w ≤ 10) (hl : m * w ≤ xs.length) (hs : RSc 1 18 xs) : ∃ p qs M st', runL P (k + 1) 24 [.ref q, .int m, .int w] st = .ok (.ref p) st' ∧ NewF fq st st' p qs M ∧ Shp m w M := by
  have hin : ∀ j, j < m → w * j + w ≤ xs.length := fun j hj => by
    have := Nat.mul_le_mul_right w (show j + 1 ≤ m from hj)
    rw [Nat.add_mul, Nat.one_mul, Nat.mul_comm j w] at this
    omega
  obtain ⟨p, qs, s2, h2, N⟩ := lc_rowsF (f := fq) (body := lcBody (O k) (.name 3) .nil (.slc (.var 0) (.yes (.bop .Mult (.var 2) (.var 3))) (.yes (.bop .Add (.bop .Mult (.var 2) (.var 3)) (.var 2))))) (it := .rng 0 m) (ρ := [some (.ref q), some (.int m), some (.int w), none]) (tells_rng st 0 m)
    (M := (List.range m).map fun j => (xs.drop (w * j)).take w) (by
      unfold rngW
      refine all2_map fun j hj st' g => ?_
      have hj := List.mem_range.mp hj
      have m1 := mulS (st := st') (i := (w : Int)) (j := (j : Int)) (m := 10) (n := 10) (Sm.nn (by omega) (by omega)) (Sm.nn (by omega) (by omega)) (by decide)
      have e := g.get h
      have sl := sl_ref (lo := some ((w * j : Nat) : Int)) (hi := some ((w * j + w : Nat) : Int)) e
      rw [cut_nat _ (by omega) (by rw [List.length_map]; exact hin j hj), show w * j + w - w * j = w by omega, new_lst (by simp; omega)] at sl
      refine ⟨st'.length, st' ++ [.lst (((xs.map fq).drop (w * j)).take w)], ?_, Gr.app _ _, Nat.le_refl _, ?_⟩
      · rw [Int.natCast_add, Int.natCast_mul] at sl
        simp [lcBody, m1, sl]
      · rw [List.map_take, List.map_drop]
        exact get_last) (by simp [rngW]; omega) (by simp [rngW])
  refine ⟨p, qs, _, s2, ?_, N, by simp, fun r hr => ?_, fun r hr x hx => ?_⟩
  · have hr := rng_0 (n := m) (by omega)
    rw [run24]
    simp at h2
    simp [c24, hr, h2]
  · obtain ⟨j, hj, rfl⟩ := List.mem_map.mp hr
    have := hin j (List.mem_range.mp hj)
    rw [List.length_take, List.length_drop]
    omega
  · obtain ⟨j, hj, rfl⟩ := List.mem_map.mp hr
    exact hs x (List.mem_of_mem_drop (List.mem_of_mem_take hx))
/-- the rest of a row from a place on -/
theorem drop_ {st : Store} {q j : Nat} {xs : List Rat} (h : RowQ st q xs) (hj : j ≤ xs.length) (hl : xs.length ≤ 200) : slW st (.ref q) (some (j : Int)) none = .ok (.ref st.length) (st ++ [.lst ((xs.drop j).map fq)]) := by
  have e := sl_ref (lo := some (j : Int)) (hi := none) h
  have e2 : cutW (xs.map fq) (some (j : Int)) none = (xs.drop j).map fq := by
    unfold cutW
    rw [HT.sIx_none, HT.sIx_nat, List.length_map, Nat.min_eq_left hj, List.map_drop, List.take_of_length_le (by simp)]
  rw [e2, new_lst (by simp; omega)] at e
  exact e
theorem four_ (k : Nat) (c : Int) (st : Store) {m i o : Nat} (hm : m ≤ 8) (hi : i ≤ 2) (ho : o ≤ 2) : ∃ (f : Nat) (ts : List (Nat × List Nat)) (A B C D : List (List Rat)) (st' : Store), runL P (k + 4) 25 [.int c, .int m, .int i, .int o] st = .ok (.ref f) st' ∧ NewT st st' ts [A, B, C, D] ∧ Is st' f (ts.map fun t => W.ref t.1) ∧ st.length ≤ f ∧ (∀ t ∈ ts, ∀ x ∈ t.1 :: t.2, x ≠ f) ∧ Shp m m A ∧ Shp m i B ∧ Shp o m C ∧ Shp o i D := by
  have mul (a b : Nat) (ha : a ≤ 8) (hb : b ≤ 8) (st : Store) := mulS (st := st) (i := (a : Int)) (j := (b : Int)) (m := 10) (n := 10) (Sm.nn (by omega) (by omega)) (Sm.nn (by omega) (by omega)) (by decide)
  have l1 : m * m ≤ 64 := Nat.mul_le_mul hm hm
  have l2 : m * i ≤ 16 := Nat.mul_le_mul hm hi
  have l3 : o * m ≤ 16 := Nat.mul_le_mul ho hm
  have l4 : o * i ≤ 4 := Nat.mul_le_mul ho hi
  obtain ⟨p0, s0, xs, e0, N0, lx, bx⟩ := numbers_ k c (m * m + m * i + o * m + o * i) (by omega) st
  obtain ⟨pA, qA, A, sA, eA, NA, hA⟩ := lrows_ (k + 2) (m := m) (w := m) N0.at_ (by omega) (by omega) (by omega) bx
  have r1 := NA.gr.get N0.at_
  have d1 := drop_ r1 (j := m * m) (by omega) (by omega)
  have r1' : RowQ (sA ++ [.lst ((xs.drop (m * m)).map fq)]) sA.length (xs.drop (m * m)) := get_last
  have g1 := Gr.app sA [.lst ((xs.drop (m * m)).map fq)]
  generalize hs1 : sA ++ [Cell.lst ((xs.drop (m * m)).map fq)] = s1 at d1 r1' g1
  obtain ⟨pB, qB, B, sB, eB, NB, hB⟩ := lrows_ (k + 2) (m := m) (w := i) r1' (by omega) (by omega) (by rw [List.length_drop]; omega) (fun x hx => bx x (List.mem_of_mem_drop hx))
  have r2 := NB.gr.get r1'
  have d2 := drop_ r2 (j := m * i) (by rw [List.length_drop]; omega) (by rw [List.length_drop]; omega)
  have r2' : RowQ (sB ++ [.lst (((xs.drop (m * m)).drop (m * i)).map fq)]) sB.length ((xs.drop (m * m)).drop (m * i)) := get_last
  have g2 := Gr.app sB [.lst (((xs.drop (m * m)).drop (m * i)).map fq)]
  generalize hs2 : sB ++ [Cell.lst (((xs.drop (m * m)).drop (m * i)).map fq)] = s2 at d2 r2' g2
  obtain ⟨pC, qC, C, sC, eC, NC, hC⟩ := lrows_ (k + 2) (m := o) (w := m) r2' (by omega) (by omega) (by rw [List.length_drop, List.length_drop]; omega) (fun x hx => bx x (List.mem_of_mem_drop (List.mem_of_mem_drop hx)))
  have r3 := NC.gr.get r2'
  have d3 := drop_ r3 (j := o * m) (by rw [List.length_drop, List.length_drop]; omega) (by rw [List.length_drop, List.length_drop]; omega)
  have r3' : RowQ (sC ++ [.lst ((((xs.drop (m * m)).drop (m * i)).drop (o * m)).map fq)]) sC.length (((xs.drop (m * m)).drop (m * i)).drop (o * m)) := get_last
  have g3 := Gr.app sC [.lst ((((xs.drop (m * m)).drop (m * i)).drop (o * m)).map fq)]
  generalize hs3 : sC ++ [Cell.lst ((((xs.drop (m * m)).drop (m * i)).drop (o * m)).map fq)] = s3 at d3 r3' g3
  obtain ⟨pD, qD, D, sD, eD, ND, hD⟩ := lrows_ (k + 2) (m := o) (w := i) r3' (by omega) (by omega) (by rw [List.length_drop, List.length_drop, List.length_drop]; omega) (fun x hx => bx x (List.mem_of_mem_drop (List.mem_of_mem_drop (List.mem_of_mem_drop hx))))
  have NT : NewT st sD [(pA, qA), (pB, qB), (pC, qC), (pD, qD)] [A, B, C, D] := (((((((NewT.nil s0).snoc NA).more g1).snoc NB).more g2).snoc NC).more g3 |>.snoc ND).low N0.gr
  have lt := NT.tabs.lt
  have fin := new_lst (st := sD) (ws := [W.ref pA, W.ref pB, W.ref pC, W.ref pD]) (by simp)
  refine ⟨sD.length, _, A, B, C, D, _, ?_, NT.more (Gr.app sD [.lst [W.ref pA, W.ref pB, W.ref pC, W.ref pD]]), get_last, NT.gr.len, fun t ht x hx => by have := lt t ht x hx; omega, hA, hB, hC, hD⟩
  rw [Int.natCast_add, Int.natCast_add, Int.natCast_add, Int.natCast_mul, Int.natCast_mul, Int.natCast_mul, Int.natCast_mul] at e0
  rw [Int.natCast_mul] at d1 d2 d3
  rw [run25]
  simp [c25, mul m m hm hm, mul m i hm (by omega), mul o m (by omega) hm, mul o i (by omega) (by omega), e0, eA, d1, eB, d2, eC, d3, eD, fin]
end Mx.K41

namespace Mx.K41
open Mx PySem L2
/-! ### the system -/
@[simp] theorem glb1 (k : Nat) : (O k).glb 1 = some (.int 8) := id rfl
structure Shps (m i o : Nat) (A B C D : List (List Rat)) : Prop where
  a : Shp m m A
  b : Shp m i B
  c : Shp o m C
  d : Shp o i D
  hm : m ≤ 8
  i1 : 1 ≤ i
  i2 : i ≤ 2
  o1 : 1 ≤ o
  o2 : o ≤ 2
theorem tq18 {m w : Nat} {M : List (List Rat)} (h : Shp m w M) : TQ 18 M := TSc.tq h.2.2
theorem are_ (k : Nat) {st : Store} {pA pB pC pD : Nat} {qA qB qC qD : List Nat} {A B C D : List (List Rat)} {m i o : Nat} (hA : TabF fq st pA qA A) (hB : TabF fq st pB qB B) (hC : TabF fq st pC qC C) (hD : TabF fq st pD qD D) (S : Shps m i o A B C D) : runL P (k + 5) 15 [.ref pA, .ref pB, .ref pC, .ref pD] st = .ok (.bl true) st := by
  have a := hA.at_
  have d := hD.at_
  have la := hA.len
  have ld := hD.len
  have s1 := S.a.1
  have s2 := S.d.1
  have t1 := table_ k hD S.d.2.1 (tq18 S.d) (by decide)
  have t2 := table_ k hA S.a.2.1 (tq18 S.a) (by decide)
  have t3 := table_ k hB S.b.2.1 (tq18 S.b) (by decide)
  have t4 := table_ k hC S.c.2.1 (tq18 S.c) (by decide)
  rw [S.d.1] at t1
  rw [S.a.1] at t2
  rw [S.b.1] at t3
  rw [S.c.1] at t4
  have o1 := S.o1
  have o2 := S.o2
  have i1 := S.i1
  have i2 := S.i2
  obtain ⟨r, hr, hrow⟩ := hD.rows.get (i := 0) (a := qD[0]'(by omega)) (List.getElem?_eq_getElem _)
  have lr := S.d.2.1 r (List.mem_of_getElem? hr)
  have a' : st[pA]? = some (.lst (qA.map W.ref)) := a
  have d' : st[pD]? = some (.lst (qD.map W.ref)) := d
  have r' : st[qD[0]'(by omega)]? = some (.lst (r.map fq)) := hrow
  have z : (qD.map W.ref)[0]? = some (.ref (qD[0]'(by omega))) := by rw [List.getElem?_map, List.getElem?_eq_getElem (by omega)]; rfl
  have lo : qD.length = o := by omega
  have lm : qA.length = m := by omega
  have c1 : decide ((1 : Int) ≤ (o : Nat)) = true := decide_eq_true (by omega)
  have c2 : decide ((o : Nat) ≤ (2 : Int)) = true := decide_eq_true (by omega)
  have c3 : decide ((1 : Int) ≤ (i : Nat)) = true := decide_eq_true (by omega)
  have c4 : decide ((i : Nat) ≤ (2 : Int)) = true := decide_eq_true (by omega)
  rw [run15]
  simp [c15, isAny_2, isAny_1, a', d', lo, lm, z, r', lr, c1, c2, c3, c4, t1, t2, t3, t4]
structure Obj (st : Store) (c : Nat) (ts : List (Nat × List Nat)) (Ms : List (List (List Rat))) : Prop where
  at_ : st[c]? = some (.ins 0 [(0, .tup (ts.map fun t => W.ref t.1))])
  tabs : Tabs st ts Ms
theorem Obj.gr {st st' : Store} {c : Nat} {ts : List (Nat × List Nat)} {Ms : List (List (List Rat))} (h : Obj st c ts Ms) (g : Gr st st') : Obj st' c ts Ms := ⟨g.get h.at_, h.tabs.gr g⟩
theorem Obj.on {p : Nat → Prop} {st st' : Store} {c : Nat} {ts : List (Nat × List Nat)} {Ms : List (List (List Rat))} (h : Obj st c ts Ms) (g : On p st st') (h1 : ¬ p c) (h2 : ∀ t ∈ ts, ∀ x ∈ t.1 :: t.2, ¬ p x) : Obj st' c ts Ms := ⟨g.get h.at_ h1, h.tabs.on g h2⟩
theorem anew4_ (k : Nat) {st : Store} {pA pB pC pD : Nat} {qA qB qC qD : List Nat} {A B C D : List (List Rat)} {m i o : Nat} (hA : TabF fq st pA qA A) (hB : TabF fq st pB qB B) (hC : TabF fq st pC qC C) (hD : TabF fq st pD qD D) (S : Shps m i o A B C D) :
    ∃ (a b c d : Nat) (as bs cs ds : List Nat) (s1 s2 s3 s4 : Store), runL P (k + 1) 14 [.ref pA] st = .ok (.ref a) s1 ∧ runL P (k + 1) 14 [.ref pB] s1 = .ok (.ref b) s2 ∧ runL P (k + 1) 14 [.ref pC] s2 = .ok (.ref c) s3 ∧ runL P (k + 1) 14 [.ref pD] s3 = .ok (.ref d) s4 ∧ NewT st s4 [(a, as), (b, bs), (c, cs), (d, ds)] [A, B, C, D] := by
  have hm := S.hm
  have i2 := S.i2
  have o2 := S.o2
  obtain ⟨a, as, s1, e1, N1⟩ := rows_anew_ k hA (by rw [S.a.1]; omega) (fun r hr => by rw [S.a.2.1 r hr]; omega)
  obtain ⟨b, bs, s2, e2, N2⟩ := rows_anew_ k (hB.gr N1.gr) (by rw [S.b.1]; omega) (fun r hr => by rw [S.b.2.1 r hr]; omega)
  obtain ⟨c, cs, s3, e3, N3⟩ := rows_anew_ k (hC.gr (N1.gr.trans N2.gr)) (by rw [S.c.1]; omega) (fun r hr => by rw [S.c.2.1 r hr]; omega)
  obtain ⟨d, ds, s4, e4, N4⟩ := rows_anew_ k (hD.gr (N1.gr.trans (N2.gr.trans N3.gr))) (by rw [S.d.1]; omega) (fun r hr => by rw [S.d.2.1 r hr]; omega)
  exact ⟨a, b, c, d, as, bs, cs, ds, s1, s2, s3, s4, e1, e2, e3, e4, ((((NewT.nil st).snoc N1).snoc N2).snoc N3).snoc N4⟩
theorem make_ (k : Nat) {st : Store} {pA pB pC pD : Nat} {qA qB qC qD : List Nat} {A B C D : List (List Rat)} {m i o : Nat} (hA : TabF fq st pA qA A) (hB : TabF fq st pB qB B) (hC : TabF fq st pC qC C) (hD : TabF fq st pD qD D) (S : Shps m i o A B C D) :
    ∃ (ts : List (Nat × List Nat)) (st' : Store), (O (k + 7)).make 0 [.ref pA, .ref pB, .ref pC, .ref pD] st = .ok (.ref st.length) st' ∧ Gr st st' ∧ Obj st' st.length ts [A, B, C, D] ∧ (∀ t ∈ ts, ∀ x ∈ t.1 :: t.2, st.length < x) := by
  have g0 := Gr.app st [.ins 0 []]
  have hc0 : (st ++ [Cell.ins 0 []])[st.length]? = some (.ins 0 []) := get_last
  have hlen : st.length < (st ++ [Cell.ins 0 []]).length := by simp
  have hmk : (O (k + 7)).make 0 [.ref pA, .ref pB, .ref pC, .ref pD] st = (runL P (k + 6) 40 [.ref st.length, .ref pA, .ref pB, .ref pC, .ref pD] (st ++ [.ins 0 []])).bind fun w st' => match w with
        | .non => .ok (.ref st.length) st'
        | _ => .bad := rfl
  rw [hmk]
  have hA0 := hA.gr g0
  have hB0 := hB.gr g0
  have hC0 := hC.gr g0
  have hD0 := hD.gr g0
  generalize hs0 : st ++ [Cell.ins 0 []] = s0 at *
  have ok := are_ k hA0 hB0 hC0 hD0 S
  obtain ⟨a, b, c, d, as, bs, cs, ds, s1, s2, s3, s4, e1, e2, e3, e4, N⟩ := anew4_ (k + 4) hA0 hB0 hC0 hD0 S
  have hc4 : s4[st.length]? = some (.ins 0 []) := N.gr.get hc0
  have hset (ρ : Loc) := setFld_obj (w := .tup [.ref a, .ref b, .ref c, .ref d]) (f := 0) (ρ := ρ) hc4 (by decide)
  have a' : s0[pA]? = some (.lst (qA.map W.ref)) := hA0.at_
  have lm : qA.length = m := by rw [hA.len, S.a.1]
  have hm := S.hm
  have c1 : decide ((8 : Int) < (m : Nat)) = false := decide_eq_false (by omega)
  have big : ∀ t ∈ [(a, as), (b, bs), (c, cs), (d, ds)], ∀ x ∈ t.1 :: t.2, st.length < x := fun t ht x hx => by have := N.big t ht x hx; omega
  refine ⟨[(a, as), (b, bs), (c, cs), (d, ds)], s4.set st.length (.ins 0 [(0, .tup [.ref a, .ref b, .ref c, .ref d])]), ?_, (g0.trans N.gr).set (Nat.le_refl _) _, ⟨?_, ?_⟩, big⟩
  · rw [run40]
    simp [putFld] at hset
    simp [c40, ok, a', lm, c1, e1, e2, e3, e4, hset]
  · rw [List.getElem?_set_self (List.getElem?_eq_some_iff.mp hc4).1]
    rfl
  · have : On (fun x => x = st.length) s4 (s4.set st.length (.ins 0 [(0, .tup [.ref a, .ref b, .ref c, .ref d])])) := On.set (p := fun x => x = st.length) (On.refl _ _) (.inr rfl) _
    exact N.tabs.on this fun t ht x hx e => by have := big t ht x hx; omega
theorem fld_ {st : Store} {c : Nat} {ts : List (Nat × List Nat)} {Ms : List (List (List Rat))} (h : Obj st c ts Ms) : getFldW (.ref c) 0 st = some (.tup (ts.map fun t => W.ref t.1)) := getFld_obj h.at_ rfl
theorem cells_ (k : Nat) {st : Store} {c : Nat} {ts : List (Nat × List Nat)} {A B C D : List (List Rat)} {m i o : Nat} (h : Obj st c ts [A, B, C, D]) (S : Shps m i o A B C D) : runL P (k + 1) 41 [.ref c] st = .ok (.int m) st := by
  have hf := fld_ h
  cases h.tabs with
  | @cons t _ ts _ hA hT =>
  have a' : st[t.1]? = some (.lst (t.2.map W.ref)) := hA.at_
  have la : t.2.length = m := by rw [hA.len, S.a.1]
  rw [run41]
  simp at hf
  simp [c41, hf, a', la]
theorem outs_ (k : Nat) {st : Store} {c : Nat} {ts : List (Nat × List Nat)} {A B C D : List (List Rat)} {m i o : Nat} (h : Obj st c ts [A, B, C, D]) (S : Shps m i o A B C D) : runL P (k + 1) 43 [.ref c] st = .ok (.int o) st := by
  have hf := fld_ h
  cases h.tabs with
  | @cons t _ ts _ hA hT =>
  cases hT with
  | @cons t2 _ ts _ hB hT =>
  cases hT with
  | @cons t3 _ ts _ hC hT =>
  cases hT with
  | @cons t4 _ ts _ hD hT =>
  have a' : st[t4.1]? = some (.lst (t4.2.map W.ref)) := hD.at_
  have la : t4.2.length = o := by rw [hD.len, S.d.1]
  rw [run43]
  simp at hf
  simp [c43, hf, a', la]
theorem ins_ (k : Nat) {st : Store} {c : Nat} {ts : List (Nat × List Nat)} {A B C D : List (List Rat)} {m i o : Nat} (h : Obj st c ts [A, B, C, D]) (S : Shps m i o A B C D) : runL P (k + 1) 42 [.ref c] st = .ok (.int i) st := by
  have hf := fld_ h
  cases h.tabs with
  | @cons t _ ts _ hA hT =>
  cases hT with
  | @cons t2 _ ts _ hB hT =>
  cases hT with
  | @cons t3 _ ts _ hC hT =>
  cases hT with
  | @cons t4 _ ts _ hD hT =>
  have a' : st[t4.1]? = some (.lst (t4.2.map W.ref)) := hD.at_
  have la : t4.2.length = o := by rw [hD.len, S.d.1]
  have o1 := S.o1
  obtain ⟨r, hr, hrow⟩ := hD.rows.get (i := 0) (a := t4.2[0]'(by omega)) (List.getElem?_eq_getElem _)
  have lr := S.d.2.1 r (List.mem_of_getElem? hr)
  have r' : st[t4.2[0]'(by omega)]? = some (.lst (r.map fq)) := hrow
  have z : (t4.2.map W.ref)[0]? = some (.ref (t4.2[0]'(by omega))) := by rw [List.getElem?_map, List.getElem?_eq_getElem (by omega)]; rfl
  rw [run42]
  simp at hf
  simp [c42, hf, a', z, r', lr]
theorem mtables_ (k : Nat) {st : Store} {c : Nat} {ts : List (Nat × List Nat)} {A B C D : List (List Rat)} {m i o : Nat} (h : Obj st c ts [A, B, C, D]) (S : Shps m i o A B C D) : ∃ (us : List (Nat × List Nat)) (st' : Store), runL P (k + 2) 44 [.ref c] st = .ok (.tup (us.map fun t => W.ref t.1)) st' ∧ NewT st st' us [A, B, C, D] := by
  have hf := fld_ h
  cases h.tabs with
  | @cons t _ ts _ hA hT =>
  cases hT with
  | @cons t2 _ ts _ hB hT =>
  cases hT with
  | @cons t3 _ ts _ hC hT =>
  cases hT with
  | @cons t4 _ ts _ hD hT =>
  cases hT
  obtain ⟨a, b, c', d, as, bs, cs, ds, s1, s2, s3, s4, e1, e2, e3, e4, N⟩ := anew4_ k hA hB hC hD S
  refine ⟨_, s4, ?_, N⟩
  rw [run44]
  simp at hf
  simp [c44, hf, e1, e2, e3, e4]
end Mx.K41

namespace Mx.K41
open Mx PySem L2
/-! ### products and answers -/
theorem turned_ (k : Nat) {st : Store} {p : Nat} {qs : List Nat} {M : List (List Rat)} {w : Nat} (h : TabF fq st p qs M) (hw : ∀ r ∈ M, r.length = w) (h1 : M.length ≤ 100) (h2 : w ≤ 100) : ∃ p' qs' st', runL P (k + 1) 11 [.ref p, .int w] st = .ok (.ref p') st' ∧ NewF fq st st' p' qs' (colF 0 M w) := by
  obtain ⟨p', qs', st', e, N⟩ := cols_lc (O k) fq 0 h hw h1 h2
  refine ⟨p', qs', st', ?_, N⟩
  have hr := rng_0 (n := w) (by omega)
  rw [run11]
  simp [c11, hr, e]
theorem product_ (k : Nat) {st : Store} {p r e f K L w : Nat} {qs rs : List Nat} {M N : List (List Rat)} (h : TabF fq st p qs M) (g : TabF fq st r rs N) (sM : TSc e K M) (sN : TSc f L N) (hM : M.length ≤ 100) (hN : N.length ≤ 100) (hw : w ≤ 100) (lM : ∀ x ∈ M, x.length ≤ 8) (lN : ∀ x ∈ N, x.length = w) (h1 : K + L ≤ 2000) (h2 : e + f ≤ 100) :
    ∃ p' qs' st', runL P (k + 5) 12 [.ref p, .ref r, .int w] st = .ok (.ref p') st' ∧ NewF fq st st' p' qs' (prodQ M N w) := by
  obtain ⟨p1, q1, s1, e1, N1⟩ := turned_ (k + 3) g lN hN hw
  have h' := h.gr N1.gr
  have lq := h'.len
  have l1 := N1.tab.len
  rw [colF_len] at l1
  obtain ⟨p2, q2, s2, e2, N2⟩ := lc_rowsF (f := fq) (M := prodQ M N w) (body := lcBody (O (k + 4)) (.name 5) .nil (.lc [4] (.name 4) (.val (.var 3)) .nil (.call 9 (.cons (.var 5) (.cons (.var 4) .nil))))) (it := .lst p M.length) (ρ := [some (.ref p), some (.ref r), some (.int w), some (.ref p1), none, none]) (tells_lst h'.at_) (by
    unfold prodQ
    refine all2_tabF h'.rows fun q xs hx a st' g' => ?_
    have T := N1.tab.gr g'
    obtain ⟨q3, s3, e3, N3⟩ := lc_list (body := lcBody (O (k + 4)) (.name 4) .nil (.call 9 (.cons (.var 5) (.cons (.var 4) .nil)))) (it := .lst p1 w) (ρ := [some (.ref p), some (.ref r), some (.int w), some (.ref p1), none, some (.ref q)]) (tells_lst T.at_)
      (us := ((colF 0 N w).map fun c => dq xs c).map fq) (by
        rw [List.map_map]
        refine all2_tabF T.rows fun q4 ys hy b st5 g5 => ⟨st5, ?_, .refl _⟩
        have f1 := weighed_ k (g5.get (g'.get a)) (g5.get b) (sM xs hx) (colF_sc sN lN ys hy) (lM xs hx) h1 h2
        simp [lcBody, f1]) (by simp; omega) (by simp; omega)
    refine ⟨q3, s3, ?_, N3⟩
    have a' : st'[p1]? = some (.lst (q1.map W.ref)) := T.at_
    simp at e3
    simp [lcBody, a', l1, e3]) (by simp; omega) (by simp; omega)
  refine ⟨p2, q2, s2, ?_, ⟨N1.gr.trans N2.gr, by have := N2.new; have := N1.gr.len; omega, N2.tab, N2.nd, N2.no, fun q hq => by have := N2.big q hq; have := N1.gr.len; omega⟩⟩
  have a' : s1[p]? = some (.lst (qs.map W.ref)) := h'.at_
  rw [run12]
  simp at e2
  simp [c12, e1, a', lq, e2]end Mx.K41

namespace Mx.K41
open Mx PySem L2
/-! ### the law's sums of fractions -/
theorem lfracs_ (k : Nat) (st : Store) {t b : Int} {q : Rat} {n : Nat} (hb : 0 < b) (h : Sm n b) (hn : n ≤ 8990) (hq : lowF t b = ofR q) : runL P (k + 2) 22 [.int t, .int b] st = .ok (fq q) st := by
  have f := lfrac_ k (t := t) st hb h hn
  rw [hq] at f
  exact f
theorem lplusQ (k : Nat) (st : Store) {p q : Rat} {m n : Nat} (hp : BQ m p) (hq : BQ n q) (hn : m + n ≤ 8900) : runL P (k + 3) 26 [fq p, fq q] st = .ok (fq (p + q)) st := by
  have b0 := hp.1
  have d0 := hq.1
  have m1 := mulS (st := st) (i := p.num) (j := (q.den : Int)) hp.2.1 hq.2.2 (by omega)
  have m2 := mulS (st := st) (i := q.num) (j := (p.den : Int)) hq.2.1 hp.2.2 (by omega)
  have m3 := mulS (st := st) (i := (p.den : Int)) (j := (q.den : Int)) hp.2.2 hq.2.2 (by omega)
  have f := lfracs_ k st (t := p.num * q.den + q.num * p.den) (b := (p.den : Int) * q.den) (Int.mul_pos b0 d0) (hp.2.2.mul hq.2.2) (by omega) (add_R p q)
  rw [run26]
  simp [c26, m1, m2, m3, f]
theorem ltimesQ (k : Nat) (st : Store) {p q : Rat} {m n : Nat} (hp : BQ m p) (hq : BQ n q) (hn : m + n ≤ 8900) : opBin .Mult (.int p.num) (.int q.num) st = .ok (.int (p.num * q.num)) st ∧ opBin .Mult (.int p.den) (.int q.den) st = .ok (.int ((p.den : Int) * q.den)) st ∧ runL P (k + 2) 22 [.int (p.num * q.num), .int ((p.den : Int) * q.den)] st = .ok (fq (p * q)) st :=
  ⟨mulS hp.2.1 hq.2.1 (by omega), mulS hp.2.2 hq.2.2 (by omega), lfracs_ k st (Int.mul_pos hp.1 hq.1) (hp.2.2.mul hq.2.2) (by omega) (mul_R p q)⟩
theorem lweighed_ (k : Nat) {st : Store} {e f N M : Nat} {q r : Nat} {xs ys : List Rat} (hx : RowQ st q xs) (hy : RowQ st r ys) (bx : RSc e N xs) (bY : RSc f M ys) (hl : xs.length ≤ 8) (h1 : N + M ≤ 2000) (h2 : e + f ≤ 100) : runL P (k + 4) 27 [.ref q, .ref r] st = .ok (fq (dq xs ys)) st := by
  have bz := RSc.zip bx bY
  have lz : (List.zipWith (· * ·) xs ys).length = min xs.length ys.length := List.length_zipWith
  obtain ⟨ρ', st', h, rfl, z3, z4, rfl⟩ := for_inv (i := 0) (m := min xs.length ys.length) (n := min xs.length ys.length) (it := .zip q r (min xs.length ys.length)) (st := st) (ρ := [some (.ref q), some (.ref r), some (fq 0), none, none])
    (body := fun w ρ st => (evG (O (k + 3)) (.tup (.cons (.name 3) (.cons (.name 4) .nil))) w ρ st).out ρ fun ρ st => evB (O (k + 3)) (.cons (.set (.name 2) (.call 26 (.cons (.var 2) (.cons (.call 22 (.cons (.bop .Mult (.idx (.var 3) (.int 0)) (.idx (.var 4) (.int 0))) (.cons (.bop .Mult (.idx (.var 3) (.int 1)) (.idx (.var 4) (.int 1))) .nil))) .nil)))) .nil) ρ st)
    (Inv := fun i ρ st' => st' = st ∧ ∃ z3 z4, ρ = [some (.ref q), some (.ref r), some (fq (sumQ ((List.zipWith (· * ·) xs ys).take i))), z3, z4]) (fun i ρ st' hi ⟨e1, z3, z4, e2⟩ => by
      subst e1; subst e2
      have hg := (tells_zip (l := min xs.length ys.length) hx hy) st' (.refl _) i
      have i1 : i < xs.length := by omega
      have i2 : i < ys.length := by omega
      have ei : (List.zipWith (fun w u => W.tup [w, u]) (xs.map fq) (ys.map fq))[i]? = some (.tup [fq xs[i], fq ys[i]]) := by
        simp [List.getElem?_zipWith, i1, i2]
      rw [ei] at hg
      have b1 := bx xs[i] (List.getElem_mem _)
      have b2 := bY ys[i] (List.getElem_mem _)
      have bt : Sc (e + f) (N + M + 8) (sumQ ((List.zipWith (· * ·) xs ys).take i)) := (Sc.sum (e := e + f) (N := N + M) (xs := (List.zipWith (· * ·) xs ys).take i) fun x hx => bz x (List.mem_of_mem_take hx)).mono (by rw [List.length_take]; omega)
      obtain ⟨t1, t2, t3⟩ := ltimesQ (k + 1) st' b1.bq b2.bq (by omega)
      have f2 := lplusQ k st' bt.bq (b1.mul b2).bq (by omega)
      have ws : sumQ ((List.zipWith (· * ·) xs ys).take (i + 1)) = sumQ ((List.zipWith (· * ·) xs ys).take i) + xs[i] * ys[i] := by
        rw [List.take_add_one, List.getElem?_eq_getElem (by omega), List.getElem_zipWith]
        exact sumQ_snoc _ _
      generalize sumQ ((List.zipWith (· * ·) xs ys).take (i + 1)) = t' at *
      generalize sumQ ((List.zipWith (· * ·) xs ys).take i) = t at *
      subst ws
      refine ⟨_, [some (.ref q), some (.ref r), some (fq (t + xs[i] * ys[i])), some (fq xs[i]), some (fq ys[i])], st', hg, .inl ?_, rfl, _, _, rfl⟩
      simp [t1, t2, t3, f2]) (fun ρ st' ⟨e1, _⟩ => by
      subst e1
      have hg := (tells_zip (l := min xs.length ys.length) hx hy) st' (.refl _) (min xs.length ys.length)
      rw [hg, List.getElem?_eq_none_iff.mpr (by simp)]) (by omega) (by omega) ⟨rfl, none, none, rfl⟩
  rw [show min xs.length ys.length = (List.zipWith (· * ·) xs ys).length from lz.symm, List.take_length, lz] at h
  have hx' : st'[q]? = some (.lst (xs.map fq)) := hx
  have hy' : st'[r]? = some (.lst (ys.map fq)) := hy
  rw [run27]
  rw [fq_0] at h
  simp at h
  simp [c27, hx', hy', h]
  rfl
theorem lled_ (k : Nat) {st : Store} {e f N N' : Nat} {p r : Nat} {qs : List Nat} {M : List (List Rat)} {x : List Rat} (h : TabF fq st p qs M) (hr : RowQ st r x) (bM : TSc e N M) (bx : RSc f N' x) (hM : M.length ≤ 100) (hw : ∀ xs ∈ M, xs.length ≤ 8) (h1 : N + N' ≤ 2000) (h2 : e + f ≤ 100) :
    ∃ t st', runL P (k + 5) 28 [.ref p, .ref r] st = .ok (.ref t) st' ∧ New st st' t ((M.map fun l => dq l x).map fq) := by
  have lq := h.len
  obtain ⟨t, st', h3, NN⟩ := lc_list (body := lcBody (O (k + 4)) (.name 2) .nil (.call 27 (.cons (.var 2) (.cons (.var 1) .nil)))) (it := .lst p M.length) (ρ := [some (.ref p), some (.ref r), none]) (tells_lst h.at_)
    (us := (M.map fun l => dq l x).map fq) (by
      rw [List.map_map]
      refine all2_tabF h.rows fun q xs hx a st' g => ⟨st', ?_, .refl _⟩
      have f1 := lweighed_ k (g.get a) (g.get hr) (bM xs hx) bx (hw xs hx) h1 h2
      simp [lcBody, f1]) (by simp; omega) (by simp; omega)
  refine ⟨t, st', ?_, NN⟩
  have h' : st[p]? = some (.lst (qs.map W.ref)) := h.at_
  rw [run28]
  simp at h3
  simp [c28, h', lq, h3]
theorem ladded_ (k : Nat) {st : Store} {m : Nat} {q r : Nat} {xs ys : List Rat} (hx : RowQ st q xs) (hy : RowQ st r ys) (bx : RQ m xs) (bY : RQ m ys) (hl : xs.length ≤ 100) (h1 : m ≤ 4000) : ∃ p st', runL P (k + 4) 29 [.ref q, .ref r] st = .ok (.ref p) st' ∧ New st st' p ((addQ xs ys).map fq) := by
  obtain ⟨p, st', h, N⟩ := lc_list (body := lcBody (O (k + 3)) (.tup (.cons (.name 2) (.cons (.name 3) .nil))) .nil (.call 26 (.cons (.var 2) (.cons (.var 3) .nil)))) (it := .zip q r (min (xs.map fq).length (ys.map fq).length)) (ρ := [some (.ref q), some (.ref r), none, none]) (tells_zip hx hy)
    (us := (addQ xs ys).map fq) (by
      unfold addQ
      rw [List.map_zipWith]
      refine all2_zq fun x hx z hz st' g => ⟨st', ?_, .refl _⟩
      have f1 := lplusQ k st' (bx x hx) (bY z hz) (by omega)
      simp [lcBody, f1]) (by simp; omega) (by simp)
  refine ⟨p, st', ?_, N⟩
  have ha' : st[q]? = some (.lst (xs.map fq)) := hx
  have hb' : st[r]? = some (.lst (ys.map fq)) := hy
  rw [run29]
  simp at h
  simp [c29, ha', hb', h]
end Mx.K41

namespace Mx.K41
open Mx PySem L2
/-! ### systems of any numbers of few bits -/
def ShQ (m w : Nat) (M : List (List Rat)) : Prop := M.length = m ∧ (∀ r ∈ M, r.length = w) ∧ TQ 9000 M
theorem shq {m w : Nat} {M : List (List Rat)} (h : Shp m w M) : ShQ m w M := ⟨h.1, h.2.1, (tq18 h).mono (by decide)⟩
structure ShpsQ (m i o : Nat) (A B C D : List (List Rat)) : Prop where
  a : ShQ m m A
  b : ShQ m i B
  c : ShQ o m C
  d : ShQ o i D
  hm : m ≤ 8
  i1 : 1 ≤ i
  i2 : i ≤ 2
  o1 : 1 ≤ o
  o2 : o ≤ 2
theorem Shps.q {m i o : Nat} {A B C D : List (List Rat)} (S : Shps m i o A B C D) : ShpsQ m i o A B C D := ⟨shq S.a, shq S.b, shq S.c, shq S.d, S.hm, S.i1, S.i2, S.o1, S.o2⟩
theorem areQ_ (k : Nat) {st : Store} {pA pB pC pD : Nat} {qA qB qC qD : List Nat} {A B C D : List (List Rat)} {m i o : Nat} (hA : TabF fq st pA qA A) (hB : TabF fq st pB qB B) (hC : TabF fq st pC qC C) (hD : TabF fq st pD qD D) (S : ShpsQ m i o A B C D) : runL P (k + 5) 15 [.ref pA, .ref pB, .ref pC, .ref pD] st = .ok (.bl true) st := by
  have a := hA.at_
  have d := hD.at_
  have la := hA.len
  have ld := hD.len
  have s1 := S.a.1
  have s2 := S.d.1
  have t1 := table_ k hD S.d.2.1 S.d.2.2 (by decide)
  have t2 := table_ k hA S.a.2.1 S.a.2.2 (by decide)
  have t3 := table_ k hB S.b.2.1 S.b.2.2 (by decide)
  have t4 := table_ k hC S.c.2.1 S.c.2.2 (by decide)
  rw [S.d.1] at t1
  rw [S.a.1] at t2
  rw [S.b.1] at t3
  rw [S.c.1] at t4
  have o1 := S.o1
  have o2 := S.o2
  have i1 := S.i1
  have i2 := S.i2
  obtain ⟨r, hr, hrow⟩ := hD.rows.get (i := 0) (a := qD[0]'(by omega)) (List.getElem?_eq_getElem _)
  have lr := S.d.2.1 r (List.mem_of_getElem? hr)
  have a' : st[pA]? = some (.lst (qA.map W.ref)) := a
  have d' : st[pD]? = some (.lst (qD.map W.ref)) := d
  have r' : st[qD[0]'(by omega)]? = some (.lst (r.map fq)) := hrow
  have z : (qD.map W.ref)[0]? = some (.ref (qD[0]'(by omega))) := by rw [List.getElem?_map, List.getElem?_eq_getElem (by omega)]; rfl
  have lo : qD.length = o := by omega
  have lm : qA.length = m := by omega
  have c1 : decide ((1 : Int) ≤ (o : Nat)) = true := decide_eq_true (by omega)
  have c2 : decide ((o : Nat) ≤ (2 : Int)) = true := decide_eq_true (by omega)
  have c3 : decide ((1 : Int) ≤ (i : Nat)) = true := decide_eq_true (by omega)
  have c4 : decide ((i : Nat) ≤ (2 : Int)) = true := decide_eq_true (by omega)
  rw [run15]
  simp [c15, isAny_2, isAny_1, a', d', lo, lm, z, r', lr, c1, c2, c3, c4, t1, t2, t3, t4]
theorem anew4Q_ (k : Nat) {st : Store} {pA pB pC pD : Nat} {qA qB qC qD : List Nat} {A B C D : List (List Rat)} {m i o : Nat} (hA : TabF fq st pA qA A) (hB : TabF fq st pB qB B) (hC : TabF fq st pC qC C) (hD : TabF fq st pD qD D) (S : ShpsQ m i o A B C D) :
    ∃ (a b c d : Nat) (as bs cs ds : List Nat) (s1 s2 s3 s4 : Store), runL P (k + 1) 14 [.ref pA] st = .ok (.ref a) s1 ∧ runL P (k + 1) 14 [.ref pB] s1 = .ok (.ref b) s2 ∧ runL P (k + 1) 14 [.ref pC] s2 = .ok (.ref c) s3 ∧ runL P (k + 1) 14 [.ref pD] s3 = .ok (.ref d) s4 ∧ NewT st s4 [(a, as), (b, bs), (c, cs), (d, ds)] [A, B, C, D] := by
  have hm := S.hm
  have i2 := S.i2
  have o2 := S.o2
  obtain ⟨a, as, s1, e1, N1⟩ := rows_anew_ k hA (by rw [S.a.1]; omega) (fun r hr => by rw [S.a.2.1 r hr]; omega)
  obtain ⟨b, bs, s2, e2, N2⟩ := rows_anew_ k (hB.gr N1.gr) (by rw [S.b.1]; omega) (fun r hr => by rw [S.b.2.1 r hr]; omega)
  obtain ⟨c, cs, s3, e3, N3⟩ := rows_anew_ k (hC.gr (N1.gr.trans N2.gr)) (by rw [S.c.1]; omega) (fun r hr => by rw [S.c.2.1 r hr]; omega)
  obtain ⟨d, ds, s4, e4, N4⟩ := rows_anew_ k (hD.gr (N1.gr.trans (N2.gr.trans N3.gr))) (by rw [S.d.1]; omega) (fun r hr => by rw [S.d.2.1 r hr]; omega)
  exact ⟨a, b, c, d, as, bs, cs, ds, s1, s2, s3, s4, e1, e2, e3, e4, ((((NewT.nil st).snoc N1).snoc N2).snoc N3).snoc N4⟩
theorem makeQ_ (k : Nat) {st : Store} {pA pB pC pD : Nat} {qA qB qC qD : List Nat} {A B C D : List (List Rat)} {m i o : Nat} (hA : TabF fq st pA qA A) (hB : TabF fq st pB qB B) (hC : TabF fq st pC qC C) (hD : TabF fq st pD qD D) (S : ShpsQ m i o A B C D) :
    ∃ (ts : List (Nat × List Nat)) (st' : Store), (O (k + 7)).make 0 [.ref pA, .ref pB, .ref pC, .ref pD] st = .ok (.ref st.length) st' ∧ Gr st st' ∧ Obj st' st.length ts [A, B, C, D] ∧ (∀ t ∈ ts, ∀ x ∈ t.1 :: t.2, st.length < x) := by
  have g0 := Gr.app st [.ins 0 []]
  have hc0 : (st ++ [Cell.ins 0 []])[st.length]? = some (.ins 0 []) := get_last
  have hlen : st.length < (st ++ [Cell.ins 0 []]).length := by simp
  have hmk : (O (k + 7)).make 0 [.ref pA, .ref pB, .ref pC, .ref pD] st = (runL P (k + 6) 40 [.ref st.length, .ref pA, .ref pB, .ref pC, .ref pD] (st ++ [.ins 0 []])).bind fun w st' => match w with
        | .non => .ok (.ref st.length) st'
        | _ => .bad := rfl
  rw [hmk]
  have hA0 := hA.gr g0
  have hB0 := hB.gr g0
  have hC0 := hC.gr g0
  have hD0 := hD.gr g0
  generalize hs0 : st ++ [Cell.ins 0 []] = s0 at *
  have ok := areQ_ k hA0 hB0 hC0 hD0 S
  obtain ⟨a, b, c, d, as, bs, cs, ds, s1, s2, s3, s4, e1, e2, e3, e4, N⟩ := anew4Q_ (k + 4) hA0 hB0 hC0 hD0 S
  have hc4 : s4[st.length]? = some (.ins 0 []) := N.gr.get hc0
  have hset (ρ : Loc) := setFld_obj (w := .tup [.ref a, .ref b, .ref c, .ref d]) (f := 0) (ρ := ρ) hc4 (by decide)
  have a' : s0[pA]? = some (.lst (qA.map W.ref)) := hA0.at_
  have lm : qA.length = m := by rw [hA.len, S.a.1]
  have hm := S.hm
  have c1 : decide ((8 : Int) < (m : Nat)) = false := decide_eq_false (by omega)
  have big : ∀ t ∈ [(a, as), (b, bs), (c, cs), (d, ds)], ∀ x ∈ t.1 :: t.2, st.length < x := fun t ht x hx => by have := N.big t ht x hx; omega
  refine ⟨[(a, as), (b, bs), (c, cs), (d, ds)], s4.set st.length (.ins 0 [(0, .tup [.ref a, .ref b, .ref c, .ref d])]), ?_, (g0.trans N.gr).set (Nat.le_refl _) _, ⟨?_, ?_⟩, big⟩
  · rw [run40]
    simp [putFld] at hset
    simp [c40, ok, a', lm, c1, e1, e2, e3, e4, hset]
  · rw [List.getElem?_set_self (List.getElem?_eq_some_iff.mp hc4).1]
    rfl
  · have : On (fun x => x = st.length) s4 (s4.set st.length (.ins 0 [(0, .tup [.ref a, .ref b, .ref c, .ref d])])) := On.set (p := fun x => x = st.length) (On.refl _ _) (.inr rfl) _
    exact N.tabs.on this fun t ht x hx e => by have := big t ht x hx; omega
theorem cellsQ_ (k : Nat) {st : Store} {c : Nat} {ts : List (Nat × List Nat)} {A B C D : List (List Rat)} {m i o : Nat} (h : Obj st c ts [A, B, C, D]) (S : ShpsQ m i o A B C D) : runL P (k + 1) 41 [.ref c] st = .ok (.int m) st := by
  have hf := fld_ h
  cases h.tabs with
  | @cons t _ ts _ hA hT =>
  have a' : st[t.1]? = some (.lst (t.2.map W.ref)) := hA.at_
  have la : t.2.length = m := by rw [hA.len, S.a.1]
  rw [run41]
  simp at hf
  simp [c41, hf, a', la]
theorem outsQ_ (k : Nat) {st : Store} {c : Nat} {ts : List (Nat × List Nat)} {A B C D : List (List Rat)} {m i o : Nat} (h : Obj st c ts [A, B, C, D]) (S : ShpsQ m i o A B C D) : runL P (k + 1) 43 [.ref c] st = .ok (.int o) st := by
  have hf := fld_ h
  cases h.tabs with
  | @cons t _ ts _ hA hT =>
  cases hT with
  | @cons t2 _ ts _ hB hT =>
  cases hT with
  | @cons t3 _ ts _ hC hT =>
  cases hT with
  | @cons t4 _ ts _ hD hT =>
  have a' : st[t4.1]? = some (.lst (t4.2.map W.ref)) := hD.at_
  have la : t4.2.length = o := by rw [hD.len, S.d.1]
  rw [run43]
  simp at hf
  simp [c43, hf, a', la]
theorem insQ_ (k : Nat) {st : Store} {c : Nat} {ts : List (Nat × List Nat)} {A B C D : List (List Rat)} {m i o : Nat} (h : Obj st c ts [A, B, C, D]) (S : ShpsQ m i o A B C D) : runL P (k + 1) 42 [.ref c] st = .ok (.int i) st := by
  have hf := fld_ h
  cases h.tabs with
  | @cons t _ ts _ hA hT =>
  cases hT with
  | @cons t2 _ ts _ hB hT =>
  cases hT with
  | @cons t3 _ ts _ hC hT =>
  cases hT with
  | @cons t4 _ ts _ hD hT =>
  have a' : st[t4.1]? = some (.lst (t4.2.map W.ref)) := hD.at_
  have la : t4.2.length = o := by rw [hD.len, S.d.1]
  have o1 := S.o1
  obtain ⟨r, hr, hrow⟩ := hD.rows.get (i := 0) (a := t4.2[0]'(by omega)) (List.getElem?_eq_getElem _)
  have lr := S.d.2.1 r (List.mem_of_getElem? hr)
  have r' : st[t4.2[0]'(by omega)]? = some (.lst (r.map fq)) := hrow
  have z : (t4.2.map W.ref)[0]? = some (.ref (t4.2[0]'(by omega))) := by rw [List.getElem?_map, List.getElem?_eq_getElem (by omega)]; rfl
  rw [run42]
  simp at hf
  simp [c42, hf, a', z, r', lr]
theorem mtablesQ_ (k : Nat) {st : Store} {c : Nat} {ts : List (Nat × List Nat)} {A B C D : List (List Rat)} {m i o : Nat} (h : Obj st c ts [A, B, C, D]) (S : ShpsQ m i o A B C D) : ∃ (us : List (Nat × List Nat)) (st' : Store), runL P (k + 2) 44 [.ref c] st = .ok (.tup (us.map fun t => W.ref t.1)) st' ∧ NewT st st' us [A, B, C, D] := by
  have hf := fld_ h
  cases h.tabs with
  | @cons t _ ts _ hA hT =>
  cases hT with
  | @cons t2 _ ts _ hB hT =>
  cases hT with
  | @cons t3 _ ts _ hC hT =>
  cases hT with
  | @cons t4 _ ts _ hD hT =>
  cases hT
  obtain ⟨a, b, c', d, as, bs, cs, ds, s1, s2, s3, s4, e1, e2, e3, e4, N⟩ := anew4Q_ k hA hB hC hD S
  refine ⟨_, s4, ?_, N⟩
  rw [run44]
  simp at hf
  simp [c44, hf, e1, e2, e3, e4]
end Mx.K41

namespace Mx.K41
open Mx PySem L2
/-! ### tables put together -/
def nouT (a b : Nat) : List (List Rat) := List.replicate a (List.replicate b 0)
def widT (M N : List (List Rat)) : List (List Rat) := List.zipWith (· ++ ·) M N
theorem all2_two {st : Store} {R : W → List Rat → Prop} {f : W → W → W} {g : List Rat → List Rat → List Rat} : ∀ {qs : List Nat} {M : List (List Rat)} {rs : List Nat} {L : List (List Rat)}, All2 (fun q xs => Is st q (xs.map fq)) qs M → All2 (fun q xs => Is st q (xs.map fq)) rs L → (∀ q xs r ys, xs ∈ M → ys ∈ L → RowQ st q xs → RowQ st r ys → R (f (.ref q) (.ref r)) (g xs ys)) → All2 R (List.zipWith f (qs.map W.ref) (rs.map W.ref)) (List.zipWith g M L)
  | _, _, _, _, .nil, _, _ => by simp; exact .nil
  | _, _, _, _, .cons _ _, .nil, _ => by simp; exact .nil
  | _, _, _, _, .cons h t, .cons h' t', H => by
    simp only [List.map_cons, List.zipWith_cons_cons]
    exact .cons (H _ _ _ _ (by simp) (by simp) h h') (all2_two t t' fun q xs r ys hx hy a b => H q xs r ys (by simp [hx]) (by simp [hy]) a b)
theorem all2_app {α β : Type} {R : α → β → Prop} {as cs : List α} {bs ds : List β} (h : All2 R as bs) (g : All2 R cs ds) : All2 R (as ++ cs) (bs ++ ds) := by
  induction h with
  | nil => exact g
  | cons h t ih => exact .cons h ih
/-- so many rows, so wide, of so many bits -/
def W3 (m w b : Nat) (M : List (List Rat)) : Prop := M.length = m ∧ (∀ r ∈ M, r.length = w) ∧ TQ b M
theorem W3.mono {m w b c : Nat} {M : List (List Rat)} (h : W3 m w b M) (l : b ≤ c) : W3 m w c M := ⟨h.1, h.2.1, h.2.2.mono l⟩
theorem W3.of {m w : Nat} {M : List (List Rat)} (h : Shp m w M) : W3 m w 100 M := ⟨h.1, h.2.1, (tq18 h).mono (by decide)⟩
theorem W3.nou (a b : Nat) : W3 a b 100 (nouT a b) := by
  refine ⟨by simp [nouT], fun r hr => ?_, fun r hr x hx => ?_⟩
  · rw [nouT, List.mem_replicate] at hr
    rw [hr.2]; simp
  · rw [nouT, List.mem_replicate] at hr
    rw [hr.2, List.mem_replicate] at hx
    rw [hx.2]; exact BQ.zero.mono (by decide)
theorem mem_zipT {M N : List (List Rat)} {f : List Rat → List Rat → List Rat} {z : List Rat} (h : z ∈ List.zipWith f M N) : ∃ x ∈ M, ∃ y ∈ N, z = f x y := by
  induction M generalizing N with
  | nil => simp at h
  | cons x xs ih =>
    cases N with
    | nil => simp at h
    | cons y ys =>
      rw [List.zipWith_cons_cons] at h
      rcases List.mem_cons.mp h with e | e
      · exact ⟨x, by simp, y, by simp, e⟩
      · obtain ⟨a, ha, b, hb, e⟩ := ih e
        exact ⟨a, by simp [ha], b, by simp [hb], e⟩
theorem W3.wid {m w w' b : Nat} {M N : List (List Rat)} (h : W3 m w b M) (g : W3 m w' b N) : W3 m (w + w') b (widT M N) := by
  refine ⟨by unfold widT; rw [List.length_zipWith, h.1, g.1]; omega, fun r hr => ?_, fun r hr x hx => ?_⟩
  · obtain ⟨x, hx, y, hy, rfl⟩ := mem_zipT hr
    rw [List.length_append, h.2.1 x hx, g.2.1 y hy]
  · obtain ⟨u, hu, v, hv, rfl⟩ := mem_zipT hr
    rcases List.mem_append.mp hx with z | z
    · exact h.2.2 u hu x z
    · exact g.2.2 v hv x z
theorem W3.app {m m' w b : Nat} {M N : List (List Rat)} (h : W3 m w b M) (g : W3 m' w b N) : W3 (m + m') w b (M ++ N) := by
  refine ⟨by rw [List.length_append, h.1, g.1], fun r hr => ?_, fun r hr => ?_⟩
  · rcases List.mem_append.mp hr with z | z
    · exact h.2.1 r z
    · exact g.2.1 r z
  · rcases List.mem_append.mp hr with z | z
    · exact h.2.2 r z
    · exact g.2.2 r z
theorem W3.prod {m n w : Nat} {M N : List (List Rat)} (h : Shp m n M) (g : Shp n w N) (hn : n ≤ 8) : W3 m w 100 (prodQ M N w) := ⟨by rw [prodQ_len]; exact h.1, prodQ_row _ _ _, (TSc.tq (prodQ_sc (n := 8) h.2.2 g.2.2 (fun r hr => by rw [h.2.1 r hr]; exact hn) g.2.1)).mono (by decide)⟩
theorem noughts_ (k : Nat) (a b : Nat) (ha : a ≤ 100) (hb : b ≤ 100) (st : Store) : ∃ p qs st', runL P (k + 1) 10 [.int a, .int b] st = .ok (.ref p) st' ∧ NewF fq st st' p qs (nouT a b) := by
  obtain ⟨p, qs, st', e, N⟩ := lc_rowsF (f := fq) (M := nouT a b) (body := lcBody (O k) (.name 2) .nil (.bop .Mult (.lst (.cons (.glb 0) .nil)) (.var 1))) (it := .rng 0 a) (ρ := [some (.int a), some (.int b), none]) (tells_rng st 0 a) (by
    have e : nouT a b = (List.range a).map fun _ => List.replicate b 0 := by
      unfold nouT; rw [List.map_const', List.length_range]
    rw [e]
    unfold rngW
    refine all2_map fun j _ st' g => ?_
    have q1 : Is (st' ++ [Cell.lst [fq 0]]) st'.length [fq 0] := get_last
    have n1 := new_few (st := st') (ws := [fq 0]) (by simp)
    have rp := op_rep' q1 (by simp) hb
    rw [rep_one, new_lst (by simp; omega)] at rp
    refine ⟨(st' ++ [Cell.lst [fq 0]]).length, st' ++ [Cell.lst [fq 0]] ++ [.lst (List.replicate b (fq 0))], ?_, (Gr.app _ _).trans (Gr.app _ _), by simp, ?_⟩
    · generalize hs : st' ++ [Cell.lst [fq 0]] = s1 at *
      simp [lcBody, n1, hs, rp]
    · rw [List.map_replicate]
      exact get_last (st := st' ++ [Cell.lst [fq 0]]) (c := .lst (List.replicate b (fq 0)))) (by simp [rngW]; omega) (by simp [rngW])
  refine ⟨p, qs, st', ?_, N⟩
  have hr := rng_0 (n := a) (by omega)
  rw [run10]
  simp at e
  simp [c10, hr, e]
theorem widened_ (k : Nat) {st : Store} {p r m w w' b b' : Nat} {qs rs : List Nat} {M N : List (List Rat)} (h : TabF fq st p qs M) (g : TabF fq st r rs N) (hM : W3 m w b M) (hN : W3 m w' b' N) (hm : m ≤ 100) (hw : w ≤ 100) (hw' : w' ≤ 100) :
    ∃ p' qs' st', runL P (k + 1) 13 [.ref p, .ref r] st = .ok (.ref p') st' ∧ NewF fq st st' p' qs' (widT M N) := by
  have lq := h.len
  have lr := g.len
  obtain ⟨p', qs', st', e, NN⟩ := lc_rowsF (f := fq) (M := widT M N) (body := lcBody (O k) (.tup (.cons (.name 2) (.cons (.name 3) .nil))) .nil (.bop .Add (.var 2) (.var 3))) (it := .zip p r (min (qs.map W.ref).length (rs.map W.ref).length)) (ρ := [some (.ref p), some (.ref r), none, none]) (tells_zip h.at_ g.at_) (by
    unfold widT
    refine all2_two h.rows g.rows fun q xs r' ys hx hy a b st' g' => ?_
    have a' : st'[q]? = some (.lst (xs.map fq)) := g'.get a
    have b' : st'[r']? = some (.lst (ys.map fq)) := g'.get b
    have lx := hM.2.1 xs hx
    have ly := hN.2.1 ys hy
    have nn := new_few (st := st') (ws := xs.map fq ++ ys.map fq) (by simp; omega)
    refine ⟨st'.length, st' ++ [.lst (xs.map fq ++ ys.map fq)], ?_, Gr.app _ _, Nat.le_refl _, ?_⟩
    · simp [lcBody, a', b', nn]
    · rw [List.map_append]; exact get_last) (by have := hM.1; simp; omega) (by simp)
  refine ⟨p', qs', st', ?_, NN⟩
  have h' : st[p]? = some (.lst (qs.map W.ref)) := h.at_
  have g' : st[r]? = some (.lst (rs.map W.ref)) := g.at_
  rw [run13]
  simp at e
  simp [c13, h', g', e]
/-- two tables, one below the other -/
theorem below_ {st : Store} {p r m m' w w' b b' : Nat} {qs rs : List Nat} {M N : List (List Rat)} (h : TabF fq st p qs M) (g : TabF fq st r rs N) (hM : W3 m w b M) (hN : W3 m' w' b' N) (hm : m ≤ 100) (hm' : m' ≤ 100) :
    opBin .Add (.ref p) (.ref r) st = .ok (.ref st.length) (st ++ [.lst ((qs ++ rs).map W.ref)]) ∧ TabF fq (st ++ [.lst ((qs ++ rs).map W.ref)]) st.length (qs ++ rs) (M ++ N) := by
  have lq := h.len
  have lr := g.len
  have h1 := hM.1
  have h2 := hN.1
  have h' : st[p]? = some (.lst (qs.map W.ref)) := h.at_
  have g' : st[r]? = some (.lst (rs.map W.ref)) := g.at_
  refine ⟨?_, get_last, all2_app (h.gr (Gr.app _ _)).rows (g.gr (Gr.app _ _)).rows⟩
  have nn := new_few (st := st) (ws := qs.map W.ref ++ rs.map W.ref) (by simp; omega)
  simp [h', g', nn]
theorem need_room_ (k : Nat) {st : Store} {c c' : Nat} {ts ts' : List (Nat × List Nat)} {A B C D A' B' C' D' : List (List Rat)} {m i o m' i' o' : Nat} (h : Obj st c ts [A, B, C, D]) (S : Shps m i o A B C D) (h' : Obj st c' ts' [A', B', C', D']) (S' : Shps m' i' o' A' B' C' D') :
    runL P (k + 2) 16 [.ref c, .ref c'] st = if m + m' ≤ 8 then .ok .non st else .exc 0 [] st := by
  have mc := mthR0 (o := O (k + 1)) (m := 0) h.at_ (f := 41) rfl
  have mc' := mthR0 (o := O (k + 1)) (m := 0) h'.at_ (f := 41) rfl
  have fc := cells_ k h S
  have fc' := cells_ k h' S'
  rw [run16]
  by_cases hm : m + m' ≤ 8
  · have c1 : decide ((8 : Int) < (m : Int) + (m' : Int)) = false := decide_eq_false (by omega)
    rw [if_pos hm]
    simp [c16, mc, mc', fc, fc', c1]
  · have c1 : decide ((8 : Int) < (m : Int) + (m' : Int)) = true := decide_eq_true (by omega)
    rw [if_neg hm]
    simp [c16, mc, mc', fc, fc', c1]
/-- one behind the other -/
def inA (m m' : Nat) (A C B' A' : List (List Rat)) : List (List Rat) := widT A (nouT m m') ++ widT (prodQ B' C m) A'
def inB (i : Nat) (B D B' : List (List Rat)) : List (List Rat) := B ++ prodQ B' D i
def inC (m : Nat) (C D' C' : List (List Rat)) : List (List Rat) := widT (prodQ D' C m) C'
theorem in_row_ (k : Nat) {st : Store} {c c' : Nat} {ts ts' : List (Nat × List Nat)} {A B C D A' B' C' D' : List (List Rat)} {m i o m' i' o' : Nat} (h : Obj st c ts [A, B, C, D]) (S : Shps m i o A B C D) (h' : Obj st c' ts' [A', B', C', D']) (S' : Shps m' i' o' A' B' C' D') :
    (o ≠ i' ∧ runL P (k + 8) 17 [.ref c, .ref c'] st = .exc 1 [] st) ∨ (o = i' ∧ 8 < m + m' ∧ runL P (k + 8) 17 [.ref c, .ref c'] st = .exc 0 [] st) ∨ (o = i' ∧ m + m' ≤ 8 ∧ ∃ (n : Nat) (us : List (Nat × List Nat)) (st' : Store), runL P (k + 8) 17 [.ref c, .ref c'] st = .ok (.ref n) st' ∧ Gr st st' ∧ Obj st' n us [inA m m' A C B' A', inB i B D B', inC m C D' C', prodQ D' D i] ∧ ShpsQ (m + m') i o' (inA m m' A C B' A') (inB i B D B') (inC m C D' C') (prodQ D' D i)) := by
  have mo := mthR0 (o := O (k + 7)) (m := 3) h.at_ (f := 43) rfl
  have mi' := mthR0 (o := O (k + 7)) (m := 1) h'.at_ (f := 42) rfl
  have fo := outs_ (k + 6) h S
  have fi' := ins_ (k + 6) h' S'
  have nr := need_room_ (k + 5) h S h' S'
  by_cases hoi : o = i'
  · subst hoi
    by_cases hmm : m + m' ≤ 8
    · rw [if_pos hmm] at nr
      refine .inr (.inr ⟨rfl, hmm, ?_⟩)
      have hm := S.hm
      have hm' := S'.hm
      have i2 := S.i2
      have o2 := S.o2
      have o2' := S'.o2
      obtain ⟨v1, s1, e1, N1⟩ := mtables_ (k + 5) h S
      have mt := mthR0 (o := O (k + 7)) (m := 2) h.at_ (f := 44) rfl
      have h1 := h.gr N1.gr
      have h1' := h'.gr N1.gr
      obtain ⟨v2, s2, e2, N2⟩ := mtables_ (k + 5) h1' S'
      have mt' := mthR0 (o := O (k + 7)) (m := 2) h1'.at_ (f := 44) rfl
      have h2 := h1.gr N2.gr
      have h2' := h1'.gr N2.gr
      have T1 := N1.tabs.gr N2.gr
      cases T1 with
      | @cons a _ v1 _ hA hT =>
      cases hT with
      | @cons b _ v1 _ hB hT =>
      cases hT with
      | @cons cc _ v1 _ hC hT =>
      cases hT with
      | @cons d _ v1 _ hD hT =>
      cases hT
      have T2 := N2.tabs
      cases T2 with
      | @cons a' _ v2 _ hA' hT' =>
      cases hT' with
      | @cons b' _ v2 _ hB' hT' =>
      cases hT' with
      | @cons cc' _ v2 _ hC' hT' =>
      cases hT' with
      | @cons d' _ v2 _ hD' hT' =>
      cases hT'
      have mc := mthR0 (o := O (k + 7)) (m := 0) h2.at_ (f := 41) rfl
      have fc := cells_ (k + 6) h2 S
      have mi := mthR0 (o := O (k + 7)) (m := 1) h2.at_ (f := 42) rfl
      have fi := ins_ (k + 6) h2 S
      have mc2 := mthR0 (o := O (k + 7)) (m := 0) h2'.at_ (f := 41) rfl
      have fc2 := cells_ (k + 6) h2' S'
      -- ahead
      obtain ⟨p3, q3, s3, e3, N3⟩ := noughts_ (k + 6) m m' (by omega) (by omega) s2
      obtain ⟨p4, q4, s4, e4, N4⟩ := widened_ (k + 6) (hA.gr N3.gr) N3.tab (W3.of S.a) (W3.nou m m') (by omega) (by omega) (by omega)
      have g24 := N3.gr.trans N4.gr
      -- behind
      obtain ⟨p5, q5, s5, e5, N5⟩ := product_ (k + 2) (hB'.gr g24) (hC.gr g24) S'.b.2.2 S.c.2.2 (by rw [S'.b.1]; omega) (by rw [S.c.1]; omega) (by omega) (fun y hy => by rw [S'.b.2.1 y hy]; omega) S.c.2.1 (by decide) (by decide)
      have wp5 := W3.prod S'.b S.c (by omega)
      obtain ⟨p6, q6, s6, e6, N6⟩ := widened_ (k + 6) N5.tab ((hA'.gr g24).gr N5.gr) wp5 (W3.of S'.a) (by omega) (by omega) (by omega)
      have g26 := g24.trans (N5.gr.trans N6.gr)
      -- pushed
      obtain ⟨p7, q7, s7, e7, N7⟩ := product_ (k + 2) (hB'.gr g26) (hD.gr g26) S'.b.2.2 S.d.2.2 (by rw [S'.b.1]; omega) (by rw [S.d.1]; omega) (by omega) (fun y hy => by rw [S'.b.2.1 y hy]; omega) S.d.2.1 (by decide) (by decide)
      have wp7 := W3.prod S'.b S.d (by omega)
      have g27 := g26.trans N7.gr
      obtain ⟨e8, T8⟩ := below_ (hB.gr g27) N7.tab (W3.of S.b) wp7 (by omega) (by omega)
      have g8 := Gr.app s7 [.lst ((b.2 ++ q7).map W.ref)]
      generalize hs8 : s7 ++ [Cell.lst ((b.2 ++ q7).map W.ref)] = s8 at *
      have g28 := g27.trans g8
      -- looked
      obtain ⟨p9, q9, s9, e9, N9⟩ := product_ (k + 2) (hD'.gr g28) (hC.gr g28) S'.d.2.2 S.c.2.2 (by rw [S'.d.1]; omega) (by rw [S.c.1]; omega) (by omega) (fun y hy => by rw [S'.d.2.1 y hy]; omega) S.c.2.1 (by decide) (by decide)
      have wp9 := W3.prod S'.d S.c (by omega)
      obtain ⟨p10, q10, s10, e10, N10⟩ := widened_ (k + 6) N9.tab ((hC'.gr g28).gr N9.gr) wp9 (W3.of S'.c) (by omega) (by omega) (by omega)
      have g810 := N9.gr.trans N10.gr
      have g410 := (N5.gr.trans N6.gr).trans (N7.gr.trans (g8.trans g810))
      have g610 := N7.gr.trans (g8.trans g810)
      -- the whole
      have wA1 := (W3.of S.a).wid (W3.nou m m')
      have wA2 := wp5.wid (W3.of S'.a)
      obtain ⟨e11, T11⟩ := below_ (N4.tab.gr g410) (N6.tab.gr g610) wA1 wA2 (by omega) (by omega)
      have g11 := Gr.app s10 [.lst ((q4 ++ q6).map W.ref)]
      generalize hs11 : s10 ++ [Cell.lst ((q4 ++ q6).map W.ref)] = s11 at *
      have g211 := g28.trans (g810.trans g11)
      obtain ⟨p12, q12, s12, e12, N12⟩ := product_ (k + 2) (hD'.gr g211) (hD.gr g211) S'.d.2.2 S.d.2.2 (by rw [S'.d.1]; omega) (by rw [S.d.1]; omega) (by omega) (fun y hy => by rw [S'.d.2.1 y hy]; omega) S.d.2.1 (by decide) (by decide)
      have wp12 := W3.prod S'.d S.d (by omega)
      have w1 := wA1.app wA2
      have w2 := (W3.of S.b).app wp7
      have w3 := wp9.wid (W3.of S'.c)
      have SQ : ShpsQ (m + m') i o' (inA m m' A C B' A') (inB i B D B') (inC m C D' C') (prodQ D' D i) := ⟨w1.mono (by decide), w2.mono (by decide), w3.mono (by decide), wp12.mono (by decide), hmm, S.i1, S.i2, S'.o1, S'.o2⟩
      obtain ⟨us, s13, e13, g13, O13, _⟩ := makeQ_ k (T11.gr N12.gr) (T8.gr (g810.trans (g11.trans N12.gr))) (N10.tab.gr (g11.trans N12.gr)) N12.tab SQ
      refine ⟨s12.length, us, s13, ?_, (N1.gr.trans (N2.gr.trans (g211.trans N12.gr))).trans g13, O13, SQ⟩
      rw [run17]
      simp at mt mt' e8 e11 hs8 hs11
      simp [c17, mo, mi', fo, fi', nr, mt, e1, mt', e2, mc, fc, mi, fi, mc2, fc2, e3, e4, e5, e6, e7, e8, hs8, e9, e10, e11, hs11, e12, e13]
    · rw [if_neg hmm] at nr
      refine .inr (.inl ⟨rfl, by omega, ?_⟩)
      rw [run17]
      simp [c17, mo, mi', fo, fi', nr]
  · refine .inl ⟨hoi, ?_⟩
    have c1 : decide ((o : Int) = (i' : Int)) = false := decide_eq_false (by omega)
    rw [run17]
    simp [c17, mo, mi', fo, fi', c1]
end Mx.K41

namespace Mx.K41
open Mx PySem L2
/-! ### lists of whole numbers compared -/
def dZ (xs : List Int) : PyData := .list (xs.map PyData.int)
theorem eqv_ints (xs ys : List Int) : PyData.eqv (dZ xs) (dZ ys) = decide (xs = ys) := by
  by_cases h : xs = ys
  · subst h
    rw [decide_eq_true rfl]
    exact (Sk.lst (k := 0) (ds := xs.map PyData.int) (by intro d hd; obtain ⟨x, _, rfl⟩ := List.mem_map.mp hd; exact .int _)).refl
  · rw [decide_eq_false h]
    unfold dZ
    induction xs generalizing ys with
    | nil => cases ys with
      | nil => exact absurd rfl h
      | cons y ys => rfl
    | cons x xs ih =>
      cases ys with
      | nil => rfl
      | cons y ys =>
        simp only [List.map_cons]
        by_cases e : x = y
        · subst e
          have hr := ih ys (fun e => h (by rw [e]))
          have : PyData.eqv (.list (.int x :: xs.map .int)) (.list (.int x :: ys.map .int)) = (PyData.eqv (.int x) (.int x) && PyData.eqv (.list (xs.map .int)) (.list (ys.map .int))) := by simp [PyData.eqv, PyData.eqvAll]
          rw [this, hr, Bool.and_false]
        · have : PyData.eqv (.list (.int x :: xs.map .int)) (.list (.int y :: ys.map .int)) = (PyData.eqv (.int x) (.int y) && PyData.eqv (.list (xs.map .int)) (.list (ys.map .int))) := by simp [PyData.eqv, PyData.eqvAll]
          rw [this]
          have : PyData.eqv (.int x) (.int y) = false := by simp [PyData.eqv, e]
          rw [this, Bool.false_and]
theorem dns_ints (st : Store) : ∀ xs : List Int, Dns st (xs.map W.int) (xs.map PyData.int)
  | [] => .nil
  | _ :: xs => .cons (.int _) (dns_ints st xs)
theorem dn_ints {st : Store} {p : Nat} {xs : List Int} (h : Is st p (xs.map W.int)) : Dn st (.ref p) (dZ xs) := .lst h (dns_ints st xs)
theorem lay_ints (xs : List Int) : Lay 60 (dZ xs) := (Sk.lay (Sk.lst (k := 0) (ds := xs.map PyData.int) (by intro d hd; obtain ⟨x, _, rfl⟩ := List.mem_map.mp hd; exact .int _))).mono (by decide)
theorem ints_ne {st : Store} {p r : Nat} {xs ys : List Int} (h : Is st p (xs.map W.int)) (g : Is st r (ys.map W.int)) : cmpR .NotEq (.ref p) (.ref r) st = .ok (!decide (xs = ys)) st := by
  rw [c_neD (dn_ints h) (dn_ints g) (lay_ints _) (lay_ints _), eqv_ints]
/-! ### sums of products of rows put together -/
theorem sumQ_app (xs ys : List Rat) : sumQ (xs ++ ys) = sumQ xs + sumQ ys := by
  induction xs with
  | nil => show sumQ ys = 0 + sumQ ys; rw [Rat.zero_add]
  | cons x xs ih => show x + sumQ (xs ++ ys) = x + sumQ xs + sumQ ys; rw [ih, Rat.add_assoc]
theorem dq_app {a b x y : List Rat} (h : a.length = x.length) : dq (a ++ b) (x ++ y) = dq a x + dq b y := by
  unfold dq
  rw [List.zipWith_append h, sumQ_app]
theorem wid_dq {x y : List Rat} : ∀ {M N : List (List Rat)}, (∀ r ∈ M, r.length = x.length) → (widT M N).map (fun r => dq r (x ++ y)) = addQ (M.map fun r => dq r x) (N.map fun r => dq r y)
  | [], _, _ => by simp [widT, addQ]
  | _ :: _, [], _ => by simp [widT, addQ]
  | m :: M, n :: N, h => by
    have ih := wid_dq (x := x) (y := y) (M := M) (N := N) fun r hr => h r (by simp [hr])
    unfold widT addQ at *
    rw [List.zipWith_cons_cons, List.map_cons, ih, List.map_cons, List.map_cons, List.zipWith_cons_cons, dq_app (h m (by simp))]
theorem rep_dq (b : Nat) : ∀ y : List Rat, dq (List.replicate b 0) y = 0 := by
  induction b with
  | zero => intro y; rfl
  | succ b ih =>
    intro y
    cases y with
    | nil => rfl
    | cons y ys => rw [List.replicate_succ, dq_cons, ih, Rat.zero_mul, Rat.zero_add]
theorem nou_dq (a b : Nat) (y : List Rat) : (nouT a b).map (fun r => dq r y) = List.replicate a 0 := by
  unfold nouT
  rw [List.map_replicate, rep_dq]
theorem addQ_0 : ∀ {n : Nat} {xs : List Rat}, xs.length = n → addQ xs (List.replicate n 0) = xs
  | _, [], e => by subst e; rfl
  | _, x :: xs, e => by
    subst e
    rw [List.length_cons, List.replicate_succ]
    show (x + 0) :: addQ xs (List.replicate xs.length 0) = _
    rw [addQ_0 rfl, Rat.add_zero]
theorem addQ_comm : ∀ (xs ys : List Rat), addQ xs ys = addQ ys xs
  | [], ys => by cases ys <;> rfl
  | x :: xs, [] => rfl
  | x :: xs, y :: ys => by
    show (x + y) :: addQ xs ys = (y + x) :: addQ ys xs
    rw [addQ_comm xs ys, Rat.add_comm]
theorem addQ_assoc : ∀ (xs ys zs : List Rat), addQ (addQ xs ys) zs = addQ xs (addQ ys zs)
  | [], ys, zs => by cases ys <;> cases zs <;> rfl
  | x :: xs, [], zs => by cases zs <;> rfl
  | x :: xs, y :: ys, [] => rfl
  | x :: xs, y :: ys, z :: zs => by
    show (x + y + z) :: addQ (addQ xs ys) zs = (x + (y + z)) :: addQ xs (addQ ys zs)
    rw [addQ_assoc, Rat.add_assoc]
theorem addQ_app {a b c d : List Rat} (h : a.length = c.length) : addQ (a ++ b) (c ++ d) = addQ a c ++ addQ b d := List.zipWith_append h
theorem dq_addQ : ∀ {r a b : List Rat}, a.length = b.length → dq r (addQ a b) = dq r a + dq r b
  | [], a, b, _ => by rw [nil_dq, nil_dq, nil_dq, Rat.add_zero]
  | r :: rs, [], b, h => by
    cases b with
    | nil => show dq (r :: rs) [] = _; rw [dq_nil, Rat.add_zero]
    | cons b bs => simp at h
  | r :: rs, a :: as, [], h => by simp at h
  | r :: rs, a :: as, b :: bs, h => by
    show r * (a + b) + dq rs (addQ as bs) = r * a + dq rs as + (r * b + dq rs bs)
    rw [dq_addQ (by simpa using h), Rat.mul_add]
    grind
theorem led_addQ {a b : List Rat} (h : a.length = b.length) (M : List (List Rat)) : M.map (fun r => dq r (addQ a b)) = addQ (M.map fun r => dq r a) (M.map fun r => dq r b) := by
  induction M with
  | nil => rfl
  | cons m M ih =>
    rw [List.map_cons, ih, dq_addQ h]; rfl
theorem prod_dq {N : List (List Rat)} {w : Nat} (h : ∀ r ∈ N, r.length = w) (M : List (List Rat)) (u : List Rat) : (prodQ M N w).map (fun r => dq r u) = M.map fun r => dq r (N.map fun n => dq n u) := by
  unfold prodQ
  rw [List.map_map]
  exact List.map_congr_left fun r _ => dq_assoc u N r h
theorem wid_l {a b : Nat} {M : List (List Rat)} {x y : List Rat} (h : M.length = a) (hw : ∀ r ∈ M, r.length = x.length) : (widT M (nouT a b)).map (fun r => dq r (x ++ y)) = M.map fun r => dq r x := by
  rw [wid_dq hw, nou_dq, addQ_0 (by simp [h])]
theorem wid_r {a b : Nat} {N : List (List Rat)} {x y : List Rat} (h : N.length = a) (hw : x.length = b) : (widT (nouT a b) N).map (fun r => dq r (x ++ y)) = N.map fun r => dq r y := by
  rw [wid_dq (fun r hr => by rw [nouT, List.mem_replicate] at hr; rw [hr.2, hw]; simp), nou_dq, addQ_comm, addQ_0 (by simp [h])]
/-- the sums of a row and of what goes on behind -/
theorem in_end {m i o m' o' : Nat} {A B C D A' B' C' D' : List (List Rat)} (S : Shps m i o A B C D) (S' : Shps m' o o' A' B' C' D') {x y u : List Rat} (hx : x.length = m) : bwQ (inA m m' A C B' A') (x ++ y) (inB i B D B') u = bwQ A x B u ++ bwQ A' y B' (bwQ C x D u) := by
  unfold bwQ inA inB
  rw [List.map_append, List.map_append, wid_l S.a.1 (fun r hr => by rw [S.a.2.1 r hr, hx]), wid_dq (fun r hr => by rw [prodQ_row _ _ _ r hr, hx]), prod_dq S.c.2.1, prod_dq S.d.2.1, addQ_app (by simp [S.a.1, S.b.1]), led_addQ (by simp [S.c.1, S.d.1])]
  congr 1
  rw [addQ_comm (B'.map _) (A'.map _), addQ_assoc]
theorem in_out {m i o m' o' : Nat} {A B C D A' B' C' D' : List (List Rat)} (S : Shps m i o A B C D) (S' : Shps m' o o' A' B' C' D') {x y u : List Rat} (hx : x.length = m) : bwQ (inC m C D' C') (x ++ y) (prodQ D' D i) u = bwQ C' y D' (bwQ C x D u) := by
  unfold bwQ inC
  rw [wid_dq (fun r hr => by rw [prodQ_row _ _ _ r hr, hx]), prod_dq S.c.2.1, prod_dq S.d.2.1, led_addQ (by simp [S.c.1, S.d.1]), addQ_comm (D'.map _) (C'.map _), addQ_assoc]
/-- two tables beside one another -/
def beT (a b a' b' : Nat) (M N : List (List Rat)) : List (List Rat) := widT M (nouT a b') ++ widT (nouT a' b) N
theorem be_dq {a b a' b' : Nat} {M N : List (List Rat)} {x y : List Rat} (h : Shp a b M) (g : Shp a' b' N) (hx : x.length = b) : (beT a b a' b' M N).map (fun r => dq r (x ++ y)) = (M.map fun r => dq r x) ++ N.map fun r => dq r y := by
  unfold beT
  rw [List.map_append, wid_l h.1 (fun r hr => by rw [h.2.1 r hr, hx]), wid_r g.1 hx]
theorem be_bw {a b a' b' c c' : Nat} {M N M' N' : List (List Rat)} {x y u v : List Rat} (h : Shp a b M) (g : Shp a' b' N) (h' : Shp a c M') (g' : Shp a' c' N') (hx : x.length = b) (hu : u.length = c) : bwQ (beT a b a' b' M N) (x ++ y) (beT a c a' c' M' N') (u ++ v) = bwQ M x M' u ++ bwQ N y N' v := by
  unfold bwQ
  rw [be_dq h g hx, be_dq h' g' hu, addQ_app (by simp [h.1, h'.1])]
end Mx.K41

namespace Mx.K41
open Mx PySem L2
/-! ### one beside the other -/
theorem be_w3 {a b a' b' : Nat} {M N : List (List Rat)} (h : Shp a b M) (g : Shp a' b' N) : W3 (a + a') (b + b') 100 (beT a b a' b' M N) := by
  have w1 := (W3.of h).wid (W3.nou a b')
  have w2 := (W3.nou a' b).wid (W3.of g)
  exact w1.app w2
theorem be_ (k : Nat) {st : Store} {p r : Nat} {qs rs : List Nat} {a b a' b' : Nat} {M N : List (List Rat)} (h : TabF fq st p qs M) (g : TabF fq st r rs N) (hM : Shp a b M) (hN : Shp a' b' N) (ha : a ≤ 20) (hb : b ≤ 20) (ha' : a' ≤ 20) (hb' : b' ≤ 20) :
    ∃ (p1 p2 p3 p4 p5 : Nat) (q5 : List Nat) (s1 s2 s3 s4 s5 : Store), runL P (k + 1) 10 [.int a, .int b'] st = .ok (.ref p1) s1 ∧ runL P (k + 1) 13 [.ref p, .ref p1] s1 = .ok (.ref p2) s2 ∧ runL P (k + 1) 10 [.int a', .int b] s2 = .ok (.ref p3) s3 ∧ runL P (k + 1) 13 [.ref p3, .ref r] s3 = .ok (.ref p4) s4 ∧ opBin .Add (.ref p2) (.ref p4) s4 = .ok (.ref p5) s5 ∧ Gr st s5 ∧ TabF fq s5 p5 q5 (beT a b a' b' M N) := by
  obtain ⟨p1, q1, s1, e1, N1⟩ := noughts_ k a b' (by omega) (by omega) st
  obtain ⟨p2, q2, s2, e2, N2⟩ := widened_ k (h.gr N1.gr) N1.tab (W3.of hM) (W3.nou a b') (by omega) (by omega) (by omega)
  obtain ⟨p3, q3, s3, e3, N3⟩ := noughts_ k a' b (by omega) (by omega) s2
  obtain ⟨p4, q4, s4, e4, N4⟩ := widened_ k N3.tab ((g.gr (N1.gr.trans N2.gr)).gr N3.gr) (W3.nou a' b) (W3.of hN) (by omega) (by omega) (by omega)
  have w1 := (W3.of hM).wid (W3.nou a b')
  have w2 := (W3.nou a' b).wid (W3.of hN)
  obtain ⟨e5, T5⟩ := below_ ((N2.tab.gr N3.gr).gr N4.gr) N4.tab w1 w2 (by omega) (by omega)
  exact ⟨p1, p2, p3, p4, _, _, s1, s2, s3, s4, _, e1, e2, e3, e4, e5, (N1.gr.trans N2.gr).trans ((N3.gr.trans N4.gr).trans (Gr.app _ _)), T5⟩
theorem beside_ (k : Nat) {st : Store} {c c' : Nat} {ts ts' : List (Nat × List Nat)} {A B C D A' B' C' D' : List (List Rat)} {m i o m' i' o' : Nat} (h : Obj st c ts [A, B, C, D]) (S : Shps m i o A B C D) (h' : Obj st c' ts' [A', B', C', D']) (S' : Shps m' i' o' A' B' C' D') :
    (¬ (i = 1 ∧ o = 1 ∧ i' = 1 ∧ o' = 1) ∧ ∃ st', Gr st st' ∧ runL P (k + 8) 18 [.ref c, .ref c'] st = .exc 1 [] st') ∨ ((i = 1 ∧ o = 1 ∧ i' = 1 ∧ o' = 1) ∧ 8 < m + m' ∧ ∃ st', Gr st st' ∧ runL P (k + 8) 18 [.ref c, .ref c'] st = .exc 0 [] st') ∨ ((i = 1 ∧ o = 1 ∧ i' = 1 ∧ o' = 1) ∧ m + m' ≤ 8 ∧ ∃ (n : Nat) (us : List (Nat × List Nat)) (st' : Store), runL P (k + 8) 18 [.ref c, .ref c'] st = .ok (.ref n) st' ∧ Gr st st' ∧ Obj st' n us [beT m m m' m' A A', beT m 1 m' 1 B B', beT 1 m 1 m' C C', beT 1 1 1 1 D D'] ∧ ShpsQ (m + m') 2 2 (beT m m m' m' A A') (beT m 1 m' 1 B B') (beT 1 m 1 m' C C') (beT 1 1 1 1 D D')) := by
  have mi := mthR0 (o := O (k + 7)) (m := 1) h.at_ (f := 42) rfl
  have mo := mthR0 (o := O (k + 7)) (m := 3) h.at_ (f := 43) rfl
  have mi' := mthR0 (o := O (k + 7)) (m := 1) h'.at_ (f := 42) rfl
  have mo' := mthR0 (o := O (k + 7)) (m := 3) h'.at_ (f := 43) rfl
  have fi := ins_ (k + 6) h S
  have fo := outs_ (k + 6) h S
  have fi' := ins_ (k + 6) h' S'
  have fo' := outs_ (k + 6) h' S'
  have n1 := new_few (st := st) (ws := [.int i, .int o, .int i', .int o']) (by simp)
  have n2 := new_few (st := st ++ [Cell.lst [.int i, .int o, .int i', .int o']]) (ws := [.int 1, .int 1, .int 1, .int 1]) (by simp)
  have z1 : Is (st ++ [Cell.lst [.int i, .int o, .int i', .int o']] ++ [Cell.lst [.int 1, .int 1, .int 1, .int 1]]) st.length ([(i : Int), o, i', o'].map W.int) := get_more (ex := [Cell.lst [.int 1, .int 1, .int 1, .int 1]]) get_last
  have z2 : Is (st ++ [Cell.lst [.int i, .int o, .int i', .int o']] ++ [Cell.lst [.int 1, .int 1, .int 1, .int 1]]) (st ++ [Cell.lst [.int i, .int o, .int i', .int o']]).length ([(1 : Int), 1, 1, 1].map W.int) := get_last
  have cmp := ints_ne z1 z2
  have g0 : Gr st (st ++ [Cell.lst [.int i, .int o, .int i', .int o']] ++ [Cell.lst [.int 1, .int 1, .int 1, .int 1]]) := (Gr.app _ _).trans (Gr.app _ _)
  generalize hs0 : st ++ [Cell.lst [.int i, .int o, .int i', .int o']] ++ [Cell.lst [W.int 1, .int 1, .int 1, .int 1]] = s0 at *
  have h0 := h.gr g0
  have h0' := h'.gr g0
  have nr := need_room_ (k + 5) h0 S h0' S'
  by_cases hoi : i = 1 ∧ o = 1 ∧ i' = 1 ∧ o' = 1
  · have cd : decide ([(i : Int), o, i', o'] = [1, 1, 1, 1]) = true := by
      obtain ⟨h1, h2, h3, h4⟩ := hoi
      rw [h1, h2, h3, h4]; rfl
    rw [cd] at cmp
    by_cases hmm : m + m' ≤ 8
    · rw [if_pos hmm] at nr
      refine .inr (.inr ⟨hoi, hmm, ?_⟩)
      obtain ⟨rfl, rfl, rfl, rfl⟩ := hoi
      have hm := S.hm
      have hm' := S'.hm
      obtain ⟨v1, s1, e1, N1⟩ := mtables_ (k + 5) h0 S
      have mt := mthR0 (o := O (k + 7)) (m := 2) h0.at_ (f := 44) rfl
      have h1 := h0.gr N1.gr
      have h1' := h0'.gr N1.gr
      obtain ⟨v2, s2, e2, N2⟩ := mtables_ (k + 5) h1' S'
      have mt' := mthR0 (o := O (k + 7)) (m := 2) h1'.at_ (f := 44) rfl
      have h2 := h1.gr N2.gr
      have h2' := h1'.gr N2.gr
      have T1 := N1.tabs.gr N2.gr
      cases T1 with
      | @cons a _ v1 _ hA hT =>
      cases hT with
      | @cons b _ v1 _ hB hT =>
      cases hT with
      | @cons cc _ v1 _ hC hT =>
      cases hT with
      | @cons d _ v1 _ hD hT =>
      cases hT
      have T2 := N2.tabs
      cases T2 with
      | @cons a' _ v2 _ hA' hT' =>
      cases hT' with
      | @cons b' _ v2 _ hB' hT' =>
      cases hT' with
      | @cons cc' _ v2 _ hC' hT' =>
      cases hT' with
      | @cons d' _ v2 _ hD' hT' =>
      cases hT'
      have mc := mthR0 (o := O (k + 7)) (m := 0) h2.at_ (f := 41) rfl
      have fc := cells_ (k + 6) h2 S
      have mc2 := mthR0 (o := O (k + 7)) (m := 0) h2'.at_ (f := 41) rfl
      have fc2 := cells_ (k + 6) h2' S'
      obtain ⟨a1, a2, a3, a4, a5, aq, t1, t2, t3, t4, t5, ea1, ea2, ea3, ea4, ea5, ga, TA⟩ := be_ (k + 6) hA hA' S.a S'.a (by omega) (by omega) (by omega) (by omega)
      obtain ⟨b1, b2, b3, b4, b5, bq, u1, u2, u3, u4, u5, eb1, eb2, eb3, eb4, eb5, gb, TB⟩ := be_ (k + 6) (hB.gr ga) (hB'.gr ga) S.b S'.b (by omega) (by omega) (by omega) (by omega)
      have gab := ga.trans gb
      obtain ⟨c1, c2, c3, c4, c5, cq, v1, v2, v3, v4, v5, ec1, ec2, ec3, ec4, ec5, gc, TC⟩ := be_ (k + 6) (hC.gr gab) (hC'.gr gab) S.c S'.c (by omega) (by omega) (by omega) (by omega)
      have gabc := gab.trans gc
      obtain ⟨d1, d2, d3, d4, d5, dq, w1, w2, w3, w4, w5, ed1, ed2, ed3, ed4, ed5, gd, TD⟩ := be_ (k + 6) (hD.gr gabc) (hD'.gr gabc) S.d S'.d (by omega) (by omega) (by omega) (by omega)
      have SQ : ShpsQ (m + m') 2 2 (beT m m m' m' A A') (beT m 1 m' 1 B B') (beT 1 m 1 m' C C') (beT 1 1 1 1 D D') := ⟨(be_w3 S.a S'.a).mono (by decide), (be_w3 S.b S'.b).mono (by decide), (be_w3 S.c S'.c).mono (by decide), (be_w3 S.d S'.d).mono (by decide), hmm, by omega, by omega, by omega, by omega⟩
      obtain ⟨us, s13, e13, g13, O13, _⟩ := makeQ_ k (TA.gr (gb.trans (gc.trans gd))) (TB.gr (gc.trans gd)) (TC.gr gd) TD SQ
      refine ⟨w5.length, us, s13, ?_, (g0.trans (N1.gr.trans (N2.gr.trans (gabc.trans gd)))).trans g13, O13, SQ⟩
      rw [run18]
      simp at mt mt' hs0 n2 cmp ea1 ea3 eb1 eb3 ec1 ec3 ed1 ed3 fi fo fi' fo' n1
      simp [c18, mi, mo, mi', mo', fi, fo, fi', fo', n1, n2, hs0, cmp, nr, mt, e1, mt', e2, mc, fc, mc2, fc2, ea1, ea2, ea3, ea4, ea5, eb1, eb2, eb3, eb4, eb5, ec1, ec2, ec3, ec4, ec5, ed1, ed2, ed3, ed4, ed5, e13]
    · rw [if_neg hmm] at nr
      refine .inr (.inl ⟨hoi, by omega, s0, g0, ?_⟩)
      rw [run18]
      simp at hs0 n2 cmp n1
      simp [c18, mi, mo, mi', mo', fi, fo, fi', fo', n1, n2, hs0, cmp, nr]
  · refine .inl ⟨hoi, s0, g0, ?_⟩
    have cd : decide ([(i : Int), o, i', o'] = [1, 1, 1, 1]) = false := decide_eq_false fun e => hoi (by simp at e; omega)
    rw [cd] at cmp
    rw [run18]
    simp at hs0 n2 cmp n1
    simp [c18, mi, mo, mi', mo', fi, fo, fi', fo', n1, n2, hs0, cmp]
end Mx.K41

namespace Mx.K41
open Mx PySem L2
/-! ### the law's turn -/
/-- a list of two rows -/
structure Two (st : Store) (p a b : Nat) (x y : List Rat) : Prop where
  at_ : Is st p [.ref a, .ref b]
  fst : RowQ st a x
  snd : RowQ st b y
theorem Two.gr {st st' : Store} {p a b : Nat} {x y : List Rat} (h : Two st p a b x y) (g : Gr st st') : Two st' p a b x y := ⟨g.get h.at_, g.get h.fst, g.get h.snd⟩
theorem Two.tab {st : Store} {p a b : Nat} {x y : List Rat} (h : Two st p a b x y) : TabF fq st p [a, b] [x, y] := ⟨h.at_, .cons h.fst (.cons h.snd .nil)⟩
theorem bw_sc {e f N N' N'' n : Nat} {M L : List (List Rat)} {x u : List Rat} (hM : TSc e N M) (hL : TSc e N L) (hx : RSc f N' x) (hu : RSc f N'' u) (wM : ∀ r ∈ M, r.length ≤ n) (wL : ∀ r ∈ L, r.length ≤ n) : RSc (e + f) (N + max N' N'' + n + 1) (bwQ M x L u) := by
  intro z hz
  obtain ⟨a, ha, b, hb, rfl⟩ := mem_zip hz
  obtain ⟨r, hr, rfl⟩ := List.mem_map.mp ha
  obtain ⟨s, hs, rfl⟩ := List.mem_map.mp hb
  exact ((Sc.dq (hM r hr) hx (wM r hr)).add (Sc.dq (hL s hs) hu (wL s hs))).mono (by omega)
theorem led_rq {e f N N' n : Nat} {M : List (List Rat)} {x : List Rat} (hM : TSc e N M) (hx : RSc f N' x) (wM : ∀ r ∈ M, r.length ≤ n) (h1 : N + N' + n ≤ 3000) (h2 : e + f ≤ 100) : RQ 3000 (M.map fun r => dq r x) := by
  intro z hz
  obtain ⟨r, hr, rfl⟩ := List.mem_map.mp hz
  exact (Sc.dq (hM r hr) hx (wM r hr)).bq.mono (by omega)
theorem lturn_ (k : Nat) {st : Store} {w : W} {a b c d p r e f f' N N' N'' : Nat} {qa qb qc qd : List Nat} {A B C D : List (List Rat)} {x u : List Rat} (hw : w = .tup [.ref a, .ref b, .ref c, .ref d] ∨ ∃ n, w = .ref n ∧ Is st n [.ref a, .ref b, .ref c, .ref d]) (hA : TabF fq st a qa A) (hB : TabF fq st b qb B) (hC : TabF fq st c qc C) (hD : TabF fq st d qd D) (hx : RowQ st p x) (hu : RowQ st r u) (tA : TSc e N A) (tB : TSc e N B) (tC : TSc e N C) (tD : TSc e N D) (bx : RSc f N' x) (bu : RSc f' N'' u)
    (lA : A.length ≤ 8) (lB : B.length ≤ 8) (lC : C.length ≤ 8) (lD : D.length ≤ 8) (wA : ∀ r ∈ A, r.length ≤ 8) (wB : ∀ r ∈ B, r.length ≤ 8) (wC : ∀ r ∈ C, r.length ≤ 8) (wD : ∀ r ∈ D, r.length ≤ 8) (h1 : N + N' ≤ 1000) (h2 : e + f ≤ 50) (h3 : N + N'' ≤ 1000) (h4 : e + f' ≤ 50) :
    ∃ t o s st', runL P (k + 6) 30 [w, .ref p, .ref r] st = .ok (.ref t) st' ∧ Gr st st' ∧ Two st' t o s (bwQ C x D u) (bwQ A x B u) := by
  obtain ⟨p1, s1, e1, N1⟩ := lled_ k hC hx tC bx (by omega) wC (by omega) (by omega)
  have g1 := N1.gr
  obtain ⟨p2, s2, e2, N2⟩ := lled_ k (hD.gr g1) (g1.get hu) tD bu (by omega) wD (by omega) (by omega)
  have g2 := g1.trans N2.gr
  obtain ⟨p3, s3, e3, N3⟩ := ladded_ (k + 1) (N2.gr.get N1.at_) N2.at_ (led_rq tC bx wC (by omega) (by omega)) (led_rq tD bu wD (by omega) (by omega)) (by simp; omega) (by decide)
  have g3 := g2.trans N3.gr
  obtain ⟨p4, s4, e4, N4⟩ := lled_ k (hA.gr g3) (g3.get hx) tA bx (by omega) wA (by omega) (by omega)
  have g4 := g3.trans N4.gr
  obtain ⟨p5, s5, e5, N5⟩ := lled_ k (hB.gr g4) (g4.get hu) tB bu (by omega) wB (by omega) (by omega)
  have g5 := g4.trans N5.gr
  obtain ⟨p6, s6, e6, N6⟩ := ladded_ (k + 1) (N5.gr.get N4.at_) N5.at_ (led_rq tA bx wA (by omega) (by omega)) (led_rq tB bu wB (by omega) (by omega)) (by simp; omega) (by decide)
  have g6 := g5.trans N6.gr
  have n7 := new_few (st := s6) (ws := [.ref p3, .ref p6]) (by simp)
  refine ⟨s6.length, p3, p6, s6 ++ [.lst [.ref p3, .ref p6]], ?_, g6.trans (Gr.app _ _), get_last, get_more (N6.gr.get (N5.gr.get (N4.gr.get N3.at_))), get_more N6.at_⟩
  rw [run30]
  rcases hw with rfl | ⟨n, rfl, hn⟩
  · simp [c30, e1, e2, e3, e4, e5, e6, n7]
  · have ht (ρ : Loc) := gTupC_lst (o := O (k + 5)) (ρ := ρ) (st := st) (n := n) (ws := [.ref a, .ref b, .ref c, .ref d]) (ts := .cons (.name 3) (.cons (.name 4) (.cons (.name 5) (.cons (.name 6) .nil)))) (by rw [lst_at, hn]; rfl) rfl
    simp [c30, ht, e1, e2, e3, e4, e5, e6, n7]
/-! ### the unit rows -/
theorem sc_01 (b : Bool) : Sc 1 18 (if b then 1 else 0) := by
  cases b
  · exact Sc.zero _ _
  · exact ⟨27720, by decide +kernel, show (27720 : Int).natAbs < 2 ^ 18 by decide⟩
/-- the unit row -/
def uQ (m t : Nat) : List Rat := (List.range m).map fun (j : Nat) => if decide ((j : Int) = (t : Int)) then (1 : Rat) else 0
theorem lunits_ (k : Nat) (m : Nat) (hm : m ≤ 10) (st : Store) : ∃ p qs M st', runL P (k + 1) 31 [.int m] st = .ok (.ref p) st' ∧ Gr st st' ∧ TabF fq st' p qs M ∧ M.length = m + 1 ∧ ∀ r ∈ M, r.length = m ∧ RSc 1 18 r := by
  have q1 : Is (st ++ [Cell.lst [fq 0]]) st.length [fq 0] := get_last
  have n1 := new_few (st := st) (ws := [fq 0]) (by simp)
  have rp := op_rep' q1 (by simp) (show m ≤ 100 by omega)
  rw [rep_one, new_lst (by simp; omega)] at rp
  have g1 : Gr st (st ++ [Cell.lst [fq 0]] ++ [.lst (List.replicate m (fq 0))]) := (Gr.app _ _).trans (Gr.app _ _)
  have x1 : Is (st ++ [Cell.lst [fq 0]] ++ [.lst (List.replicate m (fq 0))]) (st ++ [Cell.lst [fq 0]]).length (List.replicate m (fq 0)) := get_last
  generalize hs1 : st ++ [Cell.lst [fq 0]] ++ [Cell.lst (List.replicate m (fq 0))] = s1 at *
  generalize hp1 : (st ++ [Cell.lst [fq 0]]).length = p1 at *
  have lp1 : st.length ≤ p1 := by rw [← hp1]; simp
  have lt1 := lt_of_is x1
  have n2 := new_few (st := s1) (ws := [.ref p1]) (by simp)
  have x2 : Is (s1 ++ [.lst [.ref p1]]) s1.length [.ref p1] := get_last
  have y2 : Is (s1 ++ [.lst [.ref p1]]) p1 (List.replicate m (fq 0)) := get_more x1
  have g2 : Gr st (s1 ++ [.lst [.ref p1]]) := g1.trans (Gr.app _ _)
  have l2 : (s1 ++ [Cell.lst [.ref p1]]).length = s1.length + 1 := by simp
  generalize hs2 : s1 ++ [Cell.lst [.ref p1]] = s2 at *
  have l1 := g1.len
  obtain ⟨ρ', st', e4, fs, L, z2, z3, rfl, hO, hF, hA2, lL, hL, hnF⟩ := for_inv (i := 0) (m := m) (n := m) (it := .rng 0 m) (st := s2) (ρ := [some (.int m), some (.ref s1.length), none, none])
    (body := fun w ρ st => (evG (O k) (.name 2) w ρ st).out ρ fun ρ st => evB (O k) (.cons (.expr (.bm .append (.var 1) (.cons (.lc [3] (.name 3) (.rng1 (.var 0)) .nil (.tup (.cons (.bi .int (.cons (.cmp .Eq (.var 3) (.var 2)) .nil)) (.cons (.int 1) .nil)))) .nil))) .nil) ρ st)
    (Inv := fun t ρ st' => ∃ (fs : List Nat) (L : List (List Rat)) (z2 z3 : Option W), ρ = [some (.int m), some (.ref s1.length), z2, z3] ∧ On (fun y => y = s1.length) s2 st' ∧ Is st' s1.length (fs.map W.ref) ∧ All2 (fun q y => RowQ st' q y) fs L ∧ L.length = t + 1 ∧ (∀ r ∈ L, r.length = m ∧ RSc 1 18 r) ∧ (∀ q ∈ fs, q ≠ s1.length)) (fun t ρ st' ht ⟨fs, L, z2, z3, e, hO, hF, hA2, lL, hL, hnF⟩ => by
      subst e
      have lf := hA2.len
      obtain ⟨q, s5, e5, N5⟩ := lc_list (body := lcBody (O k) (.name 3) .nil (.tup (.cons (.bi .int (.cons (.cmp .Eq (.var 3) (.var 2)) .nil)) (.cons (.int 1) .nil)))) (it := .rng 0 m) (ρ := [some (.int m), some (.ref s1.length), some (.int (t : Nat)), none]) (tells_rng st' 0 m)
        (us := (uQ m t).map fq) (by
          unfold rngW uQ
          rw [List.map_map]
          refine all2_map fun j _ st5 g5 => ⟨st5, ?_, .refl _⟩
          by_cases hj : (j : Int) = (t : Nat)
          · simp [lcBody, hj]; rfl
          · simp [lcBody, hj]; rfl) (by simp [rngW]; omega) (by simp [rngW])
      have hF5 : s5[s1.length]? = some (.lst (fs.map W.ref)) := N5.gr.get hF
      have ap5 := appC_lst (st := s5) (n := s1.length) (ws := fs.map W.ref) (w := .ref q) (by rw [List.length_map]; omega)
      have on6 : On (fun y => y = s1.length) st' (s5.set s1.length (.lst (fs.map W.ref ++ [.ref q]))) := On.set (p := fun y => y = s1.length) (N5.gr.on _) (.inr rfl) _
      have qn := N5.new
      have l4 := hO.1
      have hr := rng_0 (n := m) (by omega)
      refine ⟨_, [some (.int m), some (.ref s1.length), some (.int (t : Nat)), z3], s5.set s1.length (.lst (fs.map W.ref ++ [.ref q])), get_rng ht, .inl ?_, fs ++ [q], L ++ [uQ m t], some (.int (t : Nat)), z3, rfl, hO.trans on6, ?_, ?_, ?_, ?_, ?_⟩
      · have hF' : st'[s1.length]? = some (.lst (fs.map W.ref)) := hF
        simp at e5
        simp [hr, e5, hF', hF5, ap5]
      · rw [List.map_append]
        exact is_set_same hF5
      · have := hA2.imp (R' := fun q' y' => RowQ (s5.set s1.length (.lst (fs.map W.ref ++ [.ref q]))) q' y') fun q' y' hq _ hr => on6.get hr (hnF q' hq)
        exact this.snoc (is_set N5.at_ (by omega))
      · rw [List.length_append, lL]; rfl
      · intro r hr
        rcases List.mem_append.mp hr with y | y
        · exact hL r y
        · rw [List.mem_singleton] at y
          subst y
          refine ⟨by simp [uQ], fun z hz => ?_⟩
          obtain ⟨j, _, rfl⟩ := List.mem_map.mp hz
          exact sc_01 _
      · intro z hz
        rcases List.mem_append.mp hz with y | y
        · exact hnF z y
        · rw [List.mem_singleton] at y; omega) (fun _ _ _ => end_rng) (by omega) (by omega) ⟨[p1], [List.replicate m 0], none, none, rfl, On.refl _ _, x2, .cons (by unfold RowQ; rw [List.map_replicate]; exact y2) .nil, rfl, fun r hr => by
        rw [List.mem_singleton] at hr
        subst hr
        exact ⟨by simp, fun z hz => by rw [List.mem_replicate] at hz; rw [hz.2]; exact Sc.zero _ _⟩, fun q hq => by rw [List.mem_singleton] at hq; omega⟩
  have hGr := hO.gr_l g2 fun y hy => by omega
  refine ⟨s1.length, fs, L, st', ?_, hGr, ⟨hF, hA2⟩, lL, hL⟩
  have hr := rng_0 (n := m) (by omega)
  rw [run31]
  rw [fq_0] at n1 rp hs1 q1
  simp at e4 hs1 n1 rp
  simp [c31, n1, rp, hs1, n2, hs2, hr, e4]
end Mx.K41

namespace Mx.K41
open Mx PySem L2
/-! ### bounds of the tables put together -/
theorem TSc.wid {e N : Nat} {M L : List (List Rat)} (h : TSc e N M) (g : TSc e N L) : TSc e N (widT M L) := fun r hr x hx => by
  obtain ⟨u, hu, v, hv, rfl⟩ := mem_zipT hr
  rcases List.mem_append.mp hx with z | z
  · exact h u hu x z
  · exact g v hv x z
theorem TSc.app {e N : Nat} {M L : List (List Rat)} (h : TSc e N M) (g : TSc e N L) : TSc e N (M ++ L) := fun r hr => by
  rcases List.mem_append.mp hr with z | z
  · exact h r z
  · exact g r z
theorem TSc.nou (e N a b : Nat) : TSc e N (nouT a b) := fun r hr x hx => by
  rw [nouT, List.mem_replicate] at hr
  rw [hr.2, List.mem_replicate] at hx
  rw [hx.2]; exact Sc.zero _ _
theorem TSc.up2 {M : List (List Rat)} (h : TSc 1 18 M) : TSc 2 45 M := fun r hr x hx => ((h r hr x hx).up 1).mono (by decide)
theorem prod2 {a b c : Nat} {M L : List (List Rat)} (h : Shp a b M) (g : Shp b c L) (hb : b ≤ 8) : TSc 2 45 (prodQ M L c) := fun r hr x hx => (prodQ_sc (n := 8) h.2.2 g.2.2 (fun r hr => by rw [h.2.1 r hr]; exact hb) g.2.1 r hr x hx).mono (by decide)
theorem be2 {a b a' b' : Nat} {M L : List (List Rat)} (h : Shp a b M) (g : Shp a' b' L) : TSc 2 45 (beT a b a' b' M L) := TSc.app (TSc.wid (TSc.up2 h.2.2) (TSc.nou _ _ _ _)) (TSc.wid (TSc.nou _ _ _ _) (TSc.up2 g.2.2))
/-! ### the law's cases -/
def CaseOk (m i : Nat) (st : Store) (w : W) : Prop := ∃ (a b : Nat) (x u : List Rat), w = .tup [.ref a, .ref b] ∧ RowQ st a x ∧ RowQ st b u ∧ x.length = m ∧ u.length = i ∧ RSc 1 18 x ∧ RSc 1 18 u
theorem CaseOk.gr {m i : Nat} {st st' : Store} {w : W} (h : CaseOk m i st w) (g : Gr st st') : CaseOk m i st' w := by
  obtain ⟨a, b, x, u, h1, h2, h3, h4⟩ := h
  exact ⟨a, b, x, u, h1, g.get h2, g.get h3, h4⟩
theorem all2_one {α : Type} {P : α → Prop} : ∀ {ws : List α}, (∀ w ∈ ws, P w) → All2 (fun w (_ : Unit) => P w) ws (ws.map fun _ => ())
  | [], _ => .nil
  | w :: ws, h => .cons (h w (by simp)) (all2_one fun x hx => h x (by simp [hx]))
theorem lcases_ (k : Nat) (m i : Nat) (hm : m ≤ 10) (hi : i ≤ 10) (st : Store) : ∃ (p : Nat) (ws : List W) (st' : Store), runL P (k + 2) 32 [.int m, .int i] st = .ok (.ref p) st' ∧ Gr st st' ∧ Is st' p ws ∧ ws.length ≤ 100 ∧ ∀ w ∈ ws, CaseOk m i st' w := by
  obtain ⟨p1, q1, M1, s1, e1, g1, T1, l1, h1⟩ := lunits_ k m hm st
  have lq1 := T1.len
  obtain ⟨p2, us2, s2, e2, g2, I2, A2, _⟩ := lc_gen (β := Unit) (R := fun st w _ => CaseOk m i st w) (fun _ _ _ _ g h => h.gr g) (body := lcBody (O (k + 1)) (.name 3) .nil (.tup (.cons (.var 3) (.cons (.idx (.call 31 (.cons (.var 1) .nil)) (.int 0)) .nil)))) (it := .lst p1 q1.length) (ρ := [some (.int m), some (.int i), none, none, none]) (ds := (q1.map W.ref).map fun _ => ()) (tells_lst T1.at_) (all2_one fun w hw st' g => by
      obtain ⟨q, hq, rfl⟩ := List.mem_map.mp hw
      obtain ⟨x, hx, rx⟩ := T1.rows.mem hq
      obtain ⟨p3, q3, M3, s3, e3, g3, T3, l3, h3⟩ := lunits_ k i hi st'
      have lq3 := T3.len
      obtain ⟨u, hu, ru⟩ := T3.rows.get (i := 0) (a := q3[0]'(by omega)) (List.getElem?_eq_getElem _)
      have at3 : s3[p3]? = some (.lst (q3.map W.ref)) := T3.at_
      have z3 : q3[0]? = some (q3[0]'(by omega)) := List.getElem?_eq_getElem _
      refine ⟨.tup [.ref q, .ref (q3[0]'(by omega))], s3, ?_, g3, q, q3[0]'(by omega), x, u, rfl, g3.get (g.get rx), ru, (h1 x hx).1, (h3 u (List.mem_of_getElem? hu)).1, (h1 x hx).2, (h3 u (List.mem_of_getElem? hu)).2⟩
      simp [lcBody, e3, at3, z3]) (by simp; omega) (by show _ ≤ q1.length; simp)
  have h2 : ∀ w ∈ us2, CaseOk m i s2 w := fun w hw => by
    obtain ⟨_, _, h⟩ := A2.mem hw
    exact h
  have l2 := A2.len
  rw [List.length_map, List.length_map] at l2
  obtain ⟨p4, q4, M4, s4, e4, g4, T4, l4, h4⟩ := lunits_ k i hi s2
  have lq4 := T4.len
  obtain ⟨p5, us5, s5, e5, g5, I5, A5, _⟩ := lc_gen (β := Unit) (R := fun st w _ => CaseOk m i st w) (fun _ _ _ _ g h => h.gr g) (body := lcBody (O (k + 1)) (.name 4) .nil (.tup (.cons (.idx (.call 31 (.cons (.var 0) .nil)) (.int 0)) (.cons (.var 4) .nil)))) (it := .lst p4 q4.length) (ρ := [some (.int m), some (.int i), some (.ref p2), none, none]) (ds := (q4.map W.ref).map fun _ => ()) (tells_lst T4.at_) (all2_one fun w hw st' g => by
      obtain ⟨q, hq, rfl⟩ := List.mem_map.mp hw
      obtain ⟨x, hx, rx⟩ := T4.rows.mem hq
      obtain ⟨p3, q3, M3, s3, e3, g3, T3, l3, h3⟩ := lunits_ k m hm st'
      have lq3 := T3.len
      obtain ⟨u, hu, ru⟩ := T3.rows.get (i := 0) (a := q3[0]'(by omega)) (List.getElem?_eq_getElem _)
      have at3 : s3[p3]? = some (.lst (q3.map W.ref)) := T3.at_
      have z3 : q3[0]? = some (q3[0]'(by omega)) := List.getElem?_eq_getElem _
      refine ⟨.tup [.ref (q3[0]'(by omega)), .ref q], s3, ?_, g3, q3[0]'(by omega), q, u, x, rfl, ru, g3.get (g.get rx), (h3 u (List.mem_of_getElem? hu)).1, (h4 x hx).1, (h3 u (List.mem_of_getElem? hu)).2, (h4 x hx).2⟩
      simp [lcBody, e3, at3, z3]) (by simp; omega) (by show _ ≤ q4.length; simp)
  have h5 : ∀ w ∈ us5, CaseOk m i s5 w := fun w hw => by
    obtain ⟨_, _, h⟩ := A5.mem hw
    exact h
  have l5 := A5.len
  rw [List.length_map, List.length_map] at l5
  have I2' : s5[p2]? = some (.lst us2) := (g4.trans g5).get I2
  have I5' : s5[p5]? = some (.lst us5) := I5
  have n6 := new_few (st := s5) (ws := us2 ++ us5) (by simp; omega)
  refine ⟨s5.length, us2 ++ us5, s5 ++ [.lst (us2 ++ us5)], ?_, g1.trans (g2.trans (g4.trans (g5.trans (Gr.app _ _)))), get_last, by simp; omega, fun w hw => ?_⟩
  · have at1 : s1[p1]? = some (.lst (q1.map W.ref)) := T1.at_
    have at4 : s4[p4]? = some (.lst (q4.map W.ref)) := T4.at_
    rw [run32]
    simp at e2 e5
    simp [c32, e1, at1, e2, e4, at4, e5, I2', I5', n6]
  · rcases List.mem_append.mp hw with z | z
    · exact (h2 w z).gr ((g4.trans g5).trans (Gr.app _ _))
    · exact (h5 w z).gr (Gr.app _ _)
theorem lshape_ (k : Nat) (c : Int) (b : Bool) (st : Store) : ∃ (s m i o : Nat) (st' : Store), runL P (k + 1) 33 [.int c, .bl b] st = .ok (.ref s) st' ∧ New st st' s [.int m, .int i, .int o] ∧ m ≤ 8 ∧ 1 ≤ i ∧ i ≤ 2 ∧ 1 ≤ o ∧ o ≤ 2 := by
  have a0 := fm_nn c (b := 4) (by decide)
  have a1 := fm_lt c (b := 4) (by decide)
  have b0 := fm_nn (c.fdiv 4) (b := 2) (by decide)
  have b1 := fm_lt (c.fdiv 4) (b := 2) (by decide)
  have d0 := fm_nn (c.fdiv 8) (b := 2) (by decide)
  have d1 := fm_lt (c.fdiv 8) (b := 2) (by decide)
  have e0 := fm_nn (c.fdiv 16) (b := 2) (by decide)
  have e1 := fm_lt (c.fdiv 16) (b := 2) (by decide)
  obtain ⟨a, ha⟩ := Int.eq_ofNat_of_zero_le a0
  obtain ⟨bb, hb⟩ := Int.eq_ofNat_of_zero_le (show 0 ≤ 1 + (c.fdiv 4).fmod 2 by omega)
  obtain ⟨d, hd⟩ := Int.eq_ofNat_of_zero_le (show 0 ≤ 1 + (c.fdiv 8).fmod 2 by omega)
  obtain ⟨e, he⟩ := Int.eq_ofNat_of_zero_le (show 0 ≤ 4 + (c.fdiv 16).fmod 2 by omega)
  cases b with
  | true =>
    refine ⟨st.length, e, bb, d, st ++ [.lst [.int e, .int bb, .int d]], ?_, ⟨Gr.app _ _, Nat.le_refl _, get_last⟩, by omega, by omega, by omega, by omega, by omega⟩
    rw [run33]
    simp [c33, op_mod', fdivL, ha, hb, hd, he]
  | false =>
    refine ⟨st.length, a, bb, d, st ++ [.lst [.int a, .int bb, .int d]], ?_, ⟨Gr.app _ _, Nat.le_refl _, get_last⟩, by omega, by omega, by omega, by omega, by omega⟩
    rw [run33]
    simp [c33, op_mod', fdivL, ha, hb, hd]
theorem lmade_ (k : Nat) {st : Store} {f : Nat} {ts : List (Nat × List Nat)} {A B C D : List (List Rat)} {m i o : Nat} (h : LsT st f ts [A, B, C, D]) (S : Shps m i o A B C D) : ∃ (us : List (Nat × List Nat)) (st' : Store), runL P (k + 8) 34 [.ref f] st = .ok (.ref st.length) st' ∧ Gr st st' ∧ Obj st' st.length us [A, B, C, D] := by
  have T := h.tabs
  have hat := h.at_
  cases T with
  | @cons a _ ts _ hA T =>
  cases T with
  | @cons b _ ts _ hB T =>
  cases T with
  | @cons c _ ts _ hC T =>
  cases T with
  | @cons d _ ts _ hD T =>
  cases T
  obtain ⟨us, st', e, g, ob, _⟩ := make_ k hA hB hC hD S
  refine ⟨us, st', ?_, g, ob⟩
  have hat' : st[f]? = some (.lst [.ref a.1, .ref b.1, .ref c.1, .ref d.1]) := hat
  rw [run34]
  simp [c34, hat', e]
end Mx.K41

namespace Mx.K41
open Mx PySem L2
/-! ### the law's word -/
theorem str_eqs (st : Store) : cmpR .NotEq (.str "") (.str "") st = .ok false st ∧ cmpR .NotEq (.str "fit") (.str "fit") st = .ok false st ∧ cmpR .NotEq (.str "many") (.str "many") st = .ok false st ∧ cmpR .Eq (.str "") (.str "") st = .ok true st ∧ cmpR .Eq (.str "fit") (.str "") st = .ok false st ∧ cmpR .Eq (.str "many") (.str "") st = .ok false st := by
  have l0 : Lay 60 (.str "") := ⟨by decide +kernel, by decide⟩
  have l1 : Lay 60 (.str "fit") := ⟨by decide +kernel, by decide⟩
  have l2 : Lay 60 (.str "many") := ⟨by decide +kernel, by decide⟩
  refine ⟨?_, ?_, ?_, ?_, ?_, ?_⟩
  · rw [c_neD (.str _) (.str _) l0 l0, show PyData.eqv (.str "") (.str "") = true by decide +kernel]; rfl
  · rw [c_neD (.str _) (.str _) l1 l1, show PyData.eqv (.str "fit") (.str "fit") = true by decide +kernel]; rfl
  · rw [c_neD (.str _) (.str _) l2 l2, show PyData.eqv (.str "many") (.str "many") = true by decide +kernel]; rfl
  · rw [c_eqD (.str _) (.str _) l0 l0, show PyData.eqv (.str "") (.str "") = true by decide +kernel]
  · rw [c_eqD (.str _) (.str _) l1 l0, show PyData.eqv (.str "fit") (.str "") = false by decide +kernel]
  · rw [c_eqD (.str _) (.str _) l2 l0, show PyData.eqv (.str "many") (.str "") = false by decide +kernel]
theorem runX_put {sub : Nat → Nat → Bool} {c l p j : Nat} {k : Int} {i : Option Nat} {v : XV} {w : W} {ws : List W} {ρ : Loc} {st : Store} (hρ : (goneL i ρ)[l]? = some (some (.ref p))) (hv : evX sub c v = some w) (hs : st[p]? = some (.lst ws)) (hj : ixN ws.length k = some j) : runX sub i (.put l k v) c ρ st = .nx (goneL i (goneL i ρ)) (st.set p (.lst (ws.set j w))) := by
  unfold runX runX0
  simp only [hρ, hv, Option.bind_some]
  unfold setW
  simp only [hs, hj, Option.map_some]
theorem lword_exc (k : Nat) {st : Store} {way : Nat} {c c' x : Nat} (hway : way < 2) (hx : x = 0 ∨ x = 1) (h : ∀ st0, Gr st st0 → ∃ st1, Gr st0 st1 ∧ runL P (k + 8) (if way = 0 then 17 else 18) [.ref c, .ref c'] st0 = .exc x [] st1) : ∃ p st', runL P (k + 9) 35 [.int way, .ref c, .ref c'] st = .ok (.ref p) st' ∧ Gr st st' ∧ Is st' p [.non, .str (if x = 1 then "fit" else "many")] := by
  have n0 := new_few (st := st) (ws := [.non, .str ""]) (by simp)
  have g0 := Gr.app st [.lst [.non, .str ""]]
  have i0 : (st ++ [Cell.lst [.non, .str ""]])[st.length]? = some (.lst [.non, .str ""]) := get_last
  obtain ⟨st1, g1, e1⟩ := h _ g0
  generalize hs0 : st ++ [Cell.lst [W.non, .str ""]] = s0 at *
  have i1 : st1[st.length]? = some (.lst [.non, .str ""]) := g1.get i0
  have l1 := lt_of_is i1
  have on : On (fun y => y = st.length) st1 (st1.set st.length (.lst [.non, .str (if x = 1 then "fit" else "many")])) := On.set (p := fun y => y = st.length) (On.refl _ _) (.inr rfl) _
  refine ⟨st.length, st1.set st.length (.lst [.non, .str (if x = 1 then "fit" else "many")]), ?_, on.gr_l (g0.trans g1) fun y hy => by omega, is_set_same i1⟩
  have hxv : evX (O (k + 8)).sub x (.cat (.pick ("" : Str) ("fit" : Str) 1) (.pick ("" : Str) ("many" : Str) 0)) = some (.str (if x = 1 then "fit" else "many")) := by
    rcases hx with rfl | rfl
    · rfl
    · rfl
  have px := runX_put (sub := (O (k + 8)).sub) (c := x) (l := 3) (p := st.length) (j := 1) (k := 1) (i := some 4) (ρ := [some (.int way), some (.ref c), some (.ref c'), some (.ref st.length), none]) rfl hxv i1 rfl
  have hsub : (O (k + 8)).sub x 2 = true := by rcases hx with rfl | rfl <;> rfl
  rw [run35]
  rcases (show way = 0 ∨ way = 1 by omega) with rfl | rfl
  · rw [if_pos rfl] at e1
    simp at px
    simp [c35, n0, hs0, e1]
    rw [tryO_nil hsub]
    rw [px]
    simp [goneL]
  · rw [if_neg (by decide)] at e1
    simp at px
    simp [c35, n0, hs0, e1]
    rw [tryO_nil hsub]
    rw [px]
    simp [goneL]
theorem fq_ne_non {xs : List Rat} {w : W} : xs.map fq ≠ [.non, w] := fun e => by
  cases xs with
  | nil => simp at e
  | cons x xs =>
    rw [List.map_cons] at e
    have := (List.cons.inj e).1
    cases this
theorem tabs_ne {st : Store} {p : Nat} {w : W} (hp : st[p]? = some (.lst [.non, w])) {ts : List (Nat × List Nat)} {Ms : List (List (List Rat))} (h : Tabs st ts Ms) : ∀ t ∈ ts, ∀ x ∈ t.1 :: t.2, x ≠ p := fun t ht x hx e => by
  subst e
  obtain ⟨M, _, T⟩ := h.mem ht
  rcases List.mem_cons.mp hx with e | e
  · subst e
    have := T.at_
    unfold Is at this
    rw [hp] at this
    have e2 := Cell.lst.inj (Option.some.inj this)
    cases h2 : t.2 with
    | nil => rw [h2] at e2; simp at e2
    | cons a as => rw [h2] at e2; simp at e2
  · obtain ⟨r, _, hr⟩ := T.rows.mem e
    have : st[x]? = some (.lst (r.map fq)) := hr
    rw [hp] at this
    exact fq_ne_non (Cell.lst.inj (Option.some.inj this)).symm
theorem lword_ok (k : Nat) {st : Store} {way : Nat} {c c' : Nat} (hway : way < 2) {Ms : List (List (List Rat))} (h : ∀ st0, Gr st st0 → ∃ (n : Nat) (us : List (Nat × List Nat)) (st1 : Store), runL P (k + 8) (if way = 0 then 17 else 18) [.ref c, .ref c'] st0 = .ok (.ref n) st1 ∧ Gr st0 st1 ∧ Obj st1 n us Ms) : ∃ (p n : Nat) (us : List (Nat × List Nat)) (st' : Store), runL P (k + 9) 35 [.int way, .ref c, .ref c'] st = .ok (.ref p) st' ∧ Gr st st' ∧ Is st' p [.ref n, .str ""] ∧ Obj st' n us Ms := by
  have n0 := new_few (st := st) (ws := [.non, .str ""]) (by simp)
  have g0 := Gr.app st [.lst [.non, .str ""]]
  have i0 : (st ++ [Cell.lst [.non, .str ""]])[st.length]? = some (.lst [.non, .str ""]) := get_last
  obtain ⟨n, us, st1, e1, g1, O1⟩ := h _ g0
  generalize hs0 : st ++ [Cell.lst [W.non, .str ""]] = s0 at *
  have i1 : st1[st.length]? = some (.lst [.non, .str ""]) := g1.get i0
  have l1 := lt_of_is i1
  have on : On (fun y => y = st.length) st1 (st1.set st.length (.lst [.ref n, .str ""])) := On.set (p := fun y => y = st.length) (On.refl _ _) (.inr rfl) _
  have nn : n ≠ st.length := fun e => by
    have := O1.at_
    rw [e, i1] at this
    simp at this
  refine ⟨st.length, n, us, st1.set st.length (.lst [.ref n, .str ""]), ?_, on.gr_l (g0.trans g1) fun y hy => by omega, is_set_same i1, ⟨on.get O1.at_ nn, O1.tabs.on on (tabs_ne i1 O1.tabs)⟩⟩
  have hs (ρ : Loc) := set_lst (w := .ref n) (ρ := ρ) i1 (i := 0) (j := 0) rfl
  rw [run35]
  rcases (show way = 0 ∨ way = 1 by omega) with rfl | rfl
  · rw [if_pos rfl] at e1
    simp at hs
    simp [c35, n0, hs0, e1, hs]
  · rw [if_neg (by decide)] at e1
    simp at hs
    simp [c35, n0, hs0, e1, hs]
/-! ### both -/
theorem take_ {st : Store} {q j : Nat} {xs : List Rat} (h : RowQ st q xs) (hj : j ≤ xs.length) (hl : xs.length ≤ 200) : slW st (.ref q) none (some (j : Int)) = .ok (.ref st.length) (st ++ [.lst ((xs.take j).map fq)]) := by
  have e := sl_ref (lo := none) (hi := some (j : Int)) h
  have e2 : cutW (xs.map fq) none (some (j : Int)) = (xs.take j).map fq := by
    unfold cutW
    rw [HT.sIx_none, HT.sIx_nat, List.length_map, Nat.min_eq_left hj, List.map_take]
    rfl
  rw [e2, new_lst (by simp; omega)] at e
  exact e
theorem lboth0 (k : Nat) {st : Store} {f f' p r : Nat} {ts ts' : List (Nat × List Nat)} {A B C D A' B' C' D' : List (List Rat)} {m i o m' o' : Nat} {x u : List Rat} (h : LsT st f ts [A, B, C, D]) (S : Shps m i o A B C D) (h' : LsT st f' ts' [A', B', C', D']) (S' : Shps m' o o' A' B' C' D') (hx : RowQ st p x) (hu : RowQ st r u) (lx : x.length = m + m') (bx : RSc 1 18 x) (bu : RSc 1 18 u) :
    ∃ t a b st', runL P (k + 7) 36 [.int 0, .ref f, .ref f', .ref p, .ref r] st = .ok (.ref t) st' ∧ Gr st st' ∧ Two st' t a b (bwQ C' (x.drop m) D' (bwQ C (x.take m) D u)) (bwQ A (x.take m) B u ++ bwQ A' (x.drop m) B' (bwQ C (x.take m) D u)) := by
  have hm := S.hm
  have hm' := S'.hm
  have i2 := S.i2
  have o2 := S.o2
  have o2' := S'.o2
  have T := h.tabs
  have hat := h.at_
  have T' := h'.tabs
  have hat' := h'.at_
  have lus := h.tabs.len
  cases T with
  | @cons a _ ts _ hA T =>
  cases T with
  | @cons b _ ts _ hB T =>
  cases T with
  | @cons c _ ts _ hC T =>
  cases T with
  | @cons d _ ts _ hD T =>
  cases T
  cases T' with
  | @cons a' _ ts' _ hA' T' =>
  cases T' with
  | @cons b' _ ts' _ hB' T' =>
  cases T' with
  | @cons c' _ ts' _ hC' T' =>
  cases T' with
  | @cons d' _ ts' _ hD' T' =>
  cases T'
  have k1 := take_ hx (j := m) (by omega) (by omega)
  have g1 := Gr.app st [.lst ((x.take m).map fq)]
  have x1 : RowQ (st ++ [.lst ((x.take m).map fq)]) st.length (x.take m) := get_last
  generalize hs1 : st ++ [Cell.lst ((x.take m).map fq)] = s1 at *
  have bt : RSc 1 18 (x.take m) := fun z hz => bx z (List.mem_of_mem_take hz)
  have bd : RSc 1 18 (x.drop m) := fun z hz => bx z (List.mem_of_mem_drop hz)
  obtain ⟨t2, o2n, e2n, s2, e2, g2, W2⟩ := lturn_ k (w := .ref f) (.inr ⟨f, rfl, g1.get hat⟩) (hA.gr g1) (hB.gr g1) (hC.gr g1) (hD.gr g1) x1 (g1.get hu) S.a.2.2 S.b.2.2 S.c.2.2 S.d.2.2 bt bu (by rw [S.a.1]; omega) (by rw [S.b.1]; omega) (by rw [S.c.1]; omega) (by rw [S.d.1]; omega) (fun y hy => by rw [S.a.2.1 y hy]; omega) (fun y hy => by rw [S.b.2.1 y hy]; omega) (fun y hy => by rw [S.c.2.1 y hy]; omega) (fun y hy => by rw [S.d.2.1 y hy]; omega) (by decide) (by decide) (by decide) (by decide)
  have g12 := g1.trans g2
  have k3 := drop_ (g12.get hx) (j := m) (by omega) (by omega)
  have g3 := Gr.app s2 [.lst ((x.drop m).map fq)]
  have x3 : RowQ (s2 ++ [.lst ((x.drop m).map fq)]) s2.length (x.drop m) := get_last
  generalize hs3 : s2 ++ [Cell.lst ((x.drop m).map fq)] = s3 at *
  have g13 := g12.trans g3
  have bo := bw_sc S.c.2.2 S.d.2.2 bt bu (n := 8) (fun y hy => by rw [S.c.2.1 y hy]; omega) (fun y hy => by rw [S.d.2.1 y hy]; omega)
  have W3 := W2.gr g3
  obtain ⟨t4, o4n, e4n, s4, e4, g4, W4⟩ := lturn_ k (w := .ref f') (.inr ⟨f', rfl, g13.get hat'⟩) (hA'.gr g13) (hB'.gr g13) (hC'.gr g13) (hD'.gr g13) x3 W3.fst S'.a.2.2 S'.b.2.2 S'.c.2.2 S'.d.2.2 bd bo (by rw [S'.a.1]; omega) (by rw [S'.b.1]; omega) (by rw [S'.c.1]; omega) (by rw [S'.d.1]; omega) (fun y hy => by rw [S'.a.2.1 y hy]; omega) (fun y hy => by rw [S'.b.2.1 y hy]; omega) (fun y hy => by rw [S'.c.2.1 y hy]; omega) (fun y hy => by rw [S'.d.2.1 y hy]; omega) (by decide) (by decide) (by decide) (by decide)
  have W5 := W3.gr g4
  have v5 : s4[e2n]? = some (.lst ((bwQ A (x.take m) B u).map fq)) := W5.snd
  have v6 : s4[e4n]? = some (.lst ((bwQ A' (x.drop m) B' (bwQ C (x.take m) D u)).map fq)) := W4.snd
  have la : (bwQ A (x.take m) B u).length ≤ 8 := by unfold bwQ addQ; simp; rw [S.a.1]; omega
  have lb : (bwQ A' (x.drop m) B' (bwQ C (x.take m) D u)).length ≤ 8 := by unfold bwQ addQ; simp; rw [S'.a.1]; omega
  have n7 := new_few (st := s4) (ws := (bwQ A (x.take m) B u).map fq ++ (bwQ A' (x.drop m) B' (bwQ C (x.take m) D u)).map fq) (by simp; omega)
  have g7 := Gr.app s4 [.lst ((bwQ A (x.take m) B u).map fq ++ (bwQ A' (x.drop m) B' (bwQ C (x.take m) D u)).map fq)]
  have x7 : RowQ (s4 ++ [.lst ((bwQ A (x.take m) B u).map fq ++ (bwQ A' (x.drop m) B' (bwQ C (x.take m) D u)).map fq)]) s4.length (bwQ A (x.take m) B u ++ bwQ A' (x.drop m) B' (bwQ C (x.take m) D u)) := by unfold RowQ; rw [List.map_append]; exact get_last
  have y7 := g7.get W4.fst
  generalize hs7 : s4 ++ [Cell.lst ((bwQ A (x.take m) B u).map fq ++ (bwQ A' (x.drop m) B' (bwQ C (x.take m) D u)).map fq)] = s7 at *
  have n8 := new_few (st := s7) (ws := [.ref o4n, .ref s4.length]) (by simp)
  refine ⟨s7.length, o4n, s4.length, s7 ++ [.lst [.ref o4n, .ref s4.length]], ?_, g13.trans (g4.trans (g7.trans (Gr.app _ _))), get_last, get_more y7, get_more x7⟩
  have hat1 : st[f]? = some (.lst [.ref a.1, .ref b.1, .ref c.1, .ref d.1]) := hat
  have ata : st[a.1]? = some (.lst (a.2.map W.ref)) := hA.at_
  have la2 : a.2.length = m := by rw [hA.len, S.a.1]
  have t2l (ρ : Loc) := gTupC_lst (o := O (k + 6)) (ρ := ρ) (st := s2) (n := t2) (ws := [.ref o2n, .ref e2n]) (ts := .cons (.name 6) (.cons (.name 7) .nil)) (by rw [lst_at, W2.at_]; rfl) rfl
  have t4l (ρ : Loc) := gTupC_lst (o := O (k + 6)) (ρ := ρ) (st := s4) (n := t4) (ws := [.ref o4n, .ref e4n]) (ts := .cons (.name 8) (.cons (.name 9) .nil)) (by rw [lst_at, W4.at_]; rfl) rfl
  rw [run36]
  simp [c36, hat1, ata, la2, k1, hs1, e2, t2l, k3, hs3, e4, t4l, v5, v6, n7, hs7, n8]
theorem lboth1 (k : Nat) {st : Store} {f f' p r : Nat} {ts ts' : List (Nat × List Nat)} {A B C D A' B' C' D' : List (List Rat)} {m m' : Nat} {x u : List Rat} (h : LsT st f ts [A, B, C, D]) (S : Shps m 1 1 A B C D) (h' : LsT st f' ts' [A', B', C', D']) (S' : Shps m' 1 1 A' B' C' D') (hx : RowQ st p x) (hu : RowQ st r u) (lx : x.length = m + m') (lu : u.length = 2) (bx : RSc 1 18 x) (bu : RSc 1 18 u) :
    ∃ t a b st', runL P (k + 7) 36 [.int 1, .ref f, .ref f', .ref p, .ref r] st = .ok (.ref t) st' ∧ Gr st st' ∧ Two st' t a b (bwQ C (x.take m) D (u.take 1) ++ bwQ C' (x.drop m) D' (u.drop 1)) (bwQ A (x.take m) B (u.take 1) ++ bwQ A' (x.drop m) B' (u.drop 1)) := by
  generalize hua : u.take 1 = ua
  generalize hub : u.drop 1 = ub
  have hm := S.hm
  have hm' := S'.hm
  have T := h.tabs
  have hat := h.at_
  have T' := h'.tabs
  have hat' := h'.at_
  cases T with
  | @cons a _ ts _ hA T =>
  cases T with
  | @cons b _ ts _ hB T =>
  cases T with
  | @cons c _ ts _ hC T =>
  cases T with
  | @cons d _ ts _ hD T =>
  cases T
  cases T' with
  | @cons a' _ ts' _ hA' T' =>
  cases T' with
  | @cons b' _ ts' _ hB' T' =>
  cases T' with
  | @cons c' _ ts' _ hC' T' =>
  cases T' with
  | @cons d' _ ts' _ hD' T' =>
  cases T'
  have k1 := take_ hx (j := m) (by omega) (by omega)
  have g1 := Gr.app st [.lst ((x.take m).map fq)]
  have x1 : RowQ (st ++ [.lst ((x.take m).map fq)]) st.length (x.take m) := get_last
  generalize hs1 : st ++ [Cell.lst ((x.take m).map fq)] = s1 at *
  have j1 := take_ (g1.get hu) (j := 1) (by omega) (by omega)
  rw [hua] at j1
  have gj := Gr.app s1 [.lst (ua.map fq)]
  have u1 : RowQ (s1 ++ [.lst (ua.map fq)]) s1.length ua := get_last
  have x1' := gj.get x1
  generalize hsj : s1 ++ [Cell.lst (ua.map fq)] = sj at *
  have bt : RSc 1 18 (x.take m) := fun z hz => bx z (List.mem_of_mem_take hz)
  have bd : RSc 1 18 (x.drop m) := fun z hz => bx z (List.mem_of_mem_drop hz)
  have ut : RSc 1 18 ua := fun z hz => bu z (List.mem_of_mem_take (hua ▸ hz))
  have ud : RSc 1 18 ub := fun z hz => bu z (List.mem_of_mem_drop (hub ▸ hz))
  have g1j := g1.trans gj
  obtain ⟨t2, o2n, e2n, s2, e2, g2, W2⟩ := lturn_ k (w := .ref f) (.inr ⟨f, rfl, g1j.get hat⟩) (hA.gr g1j) (hB.gr g1j) (hC.gr g1j) (hD.gr g1j) x1' u1 S.a.2.2 S.b.2.2 S.c.2.2 S.d.2.2 bt ut (by rw [S.a.1]; omega) (by rw [S.b.1]; omega) (by rw [S.c.1]; omega) (by rw [S.d.1]; omega) (fun y hy => by rw [S.a.2.1 y hy]; omega) (fun y hy => by rw [S.b.2.1 y hy]; omega) (fun y hy => by rw [S.c.2.1 y hy]; omega) (fun y hy => by rw [S.d.2.1 y hy]; omega) (by decide) (by decide) (by decide) (by decide)
  have g12 := g1j.trans g2
  have k3 := drop_ (g12.get hx) (j := m) (by omega) (by omega)
  have g3 := Gr.app s2 [.lst ((x.drop m).map fq)]
  have x3 : RowQ (s2 ++ [.lst ((x.drop m).map fq)]) s2.length (x.drop m) := get_last
  generalize hs3 : s2 ++ [Cell.lst ((x.drop m).map fq)] = s3 at *
  have g13 := g12.trans g3
  have j3 := drop_ (g13.get hu) (j := 1) (by omega) (by omega)
  rw [hub] at j3
  have gj3 := Gr.app s3 [.lst (ub.map fq)]
  have u3 : RowQ (s3 ++ [.lst (ub.map fq)]) s3.length ub := get_last
  have x3' := gj3.get x3
  generalize hsj3 : s3 ++ [Cell.lst (ub.map fq)] = sj3 at *
  have g13j := g13.trans gj3
  have W3 := W2.gr (g3.trans gj3)
  obtain ⟨t4, o4n, e4n, s4, e4, g4, W4⟩ := lturn_ k (w := .ref f') (.inr ⟨f', rfl, g13j.get hat'⟩) (hA'.gr g13j) (hB'.gr g13j) (hC'.gr g13j) (hD'.gr g13j) x3' u3 S'.a.2.2 S'.b.2.2 S'.c.2.2 S'.d.2.2 bd ud (by rw [S'.a.1]; omega) (by rw [S'.b.1]; omega) (by rw [S'.c.1]; omega) (by rw [S'.d.1]; omega) (fun y hy => by rw [S'.a.2.1 y hy]; omega) (fun y hy => by rw [S'.b.2.1 y hy]; omega) (fun y hy => by rw [S'.c.2.1 y hy]; omega) (fun y hy => by rw [S'.d.2.1 y hy]; omega) (by decide) (by decide) (by decide) (by decide)
  have W5 := W3.gr g4
  have v3 : s4[o2n]? = some (.lst ((bwQ C (x.take m) D ua).map fq)) := W5.fst
  have v4 : s4[o4n]? = some (.lst ((bwQ C' (x.drop m) D' ub).map fq)) := W4.fst
  have lc : (bwQ C (x.take m) D ua).length ≤ 8 := by unfold bwQ addQ; simp; rw [S.c.1]; omega
  have ld : (bwQ C' (x.drop m) D' ub).length ≤ 8 := by unfold bwQ addQ; simp; rw [S'.c.1]; omega
  have n6 := new_few (st := s4) (ws := (bwQ C (x.take m) D ua).map fq ++ (bwQ C' (x.drop m) D' ub).map fq) (by simp; omega)
  have g6 := Gr.app s4 [.lst ((bwQ C (x.take m) D ua).map fq ++ (bwQ C' (x.drop m) D' ub).map fq)]
  have x6 : RowQ (s4 ++ [.lst ((bwQ C (x.take m) D ua).map fq ++ (bwQ C' (x.drop m) D' ub).map fq)]) s4.length (bwQ C (x.take m) D ua ++ bwQ C' (x.drop m) D' ub) := by unfold RowQ; rw [List.map_append]; exact get_last
  generalize hs6 : s4 ++ [Cell.lst ((bwQ C (x.take m) D ua).map fq ++ (bwQ C' (x.drop m) D' ub).map fq)] = s6 at *
  have v5 : s6[e2n]? = some (.lst ((bwQ A (x.take m) B ua).map fq)) := g6.get W5.snd
  have v6 : s6[e4n]? = some (.lst ((bwQ A' (x.drop m) B' ub).map fq)) := g6.get W4.snd
  have la : (bwQ A (x.take m) B ua).length ≤ 8 := by unfold bwQ addQ; simp; rw [S.a.1]; omega
  have lb : (bwQ A' (x.drop m) B' ub).length ≤ 8 := by unfold bwQ addQ; simp; rw [S'.a.1]; omega
  have n7 := new_few (st := s6) (ws := (bwQ A (x.take m) B ua).map fq ++ (bwQ A' (x.drop m) B' ub).map fq) (by simp; omega)
  have g7 := Gr.app s6 [.lst ((bwQ A (x.take m) B ua).map fq ++ (bwQ A' (x.drop m) B' ub).map fq)]
  have x7 : RowQ (s6 ++ [.lst ((bwQ A (x.take m) B ua).map fq ++ (bwQ A' (x.drop m) B' ub).map fq)]) s6.length (bwQ A (x.take m) B ua ++ bwQ A' (x.drop m) B' ub) := by unfold RowQ; rw [List.map_append]; exact get_last
  have y7 := g7.get x6
  generalize hs7 : s6 ++ [Cell.lst ((bwQ A (x.take m) B ua).map fq ++ (bwQ A' (x.drop m) B' ub).map fq)] = s7 at *
  have n8 := new_few (st := s7) (ws := [.ref s4.length, .ref s6.length]) (by simp)
  refine ⟨s7.length, s4.length, s6.length, s7 ++ [.lst [.ref s4.length, .ref s6.length]], ?_, g13j.trans (g4.trans (g6.trans (g7.trans (Gr.app _ _)))), get_last, get_more y7, get_more x7⟩
  have hat1 : st[f]? = some (.lst [.ref a.1, .ref b.1, .ref c.1, .ref d.1]) := hat
  have ata : st[a.1]? = some (.lst (a.2.map W.ref)) := hA.at_
  have la2 : a.2.length = m := by rw [hA.len, S.a.1]
  have t2l (ρ : Loc) := gTupC_lst (o := O (k + 6)) (ρ := ρ) (st := s2) (n := t2) (ws := [.ref o2n, .ref e2n]) (ts := .cons (.name 6) (.cons (.name 7) .nil)) (by rw [lst_at, W2.at_]; rfl) rfl
  have t4l (ρ : Loc) := gTupC_lst (o := O (k + 6)) (ρ := ρ) (st := s4) (n := t4) (ws := [.ref o4n, .ref e4n]) (ts := .cons (.name 8) (.cons (.name 9) .nil)) (by rw [lst_at, W4.at_]; rfl) rfl
  rw [run36]
  simp at j1 j3
  simp [c36, hat1, ata, la2, k1, hs1, j1, hsj, e2, t2l, k3, hs3, j3, hsj3, e4, t4l, v3, v4, n6, hs6, v5, v6, n7, hs7, n8]
/-! ### good -/
theorem evB_two {o : Orc} {a b : CS} {c : CB} {ρ ρ' : Loc} {st st' : Store} (h : evB o (.cons a (.cons b .nil)) ρ st = .nx ρ' st') : evB o (.cons a (.cons b c)) ρ st = evB o c ρ' st' := by
  rw [evB] at h ⊢
  cases h1 : evS o a ρ st with
  | nx ρ1 st1 =>
    rw [h1] at h
    simp only at h ⊢
    rw [evB] at h ⊢
    cases h2 : evS o b ρ1 st1 with
    | nx ρ2 st2 =>
      rw [h2] at h
      simp only at h ⊢
      rw [evB] at h
      cases h
      rfl
    | _ => rw [h2] at h; cases h
  | _ => rw [h1] at h; cases h
/-- behind the shape -/
def restG : CB := (.cons (.ife (.cmp .NotEq (.lst (.cons (.mth (.var 1) 0 .nil) (.cons (.mth (.var 1) 1 .nil) (.cons (.mth (.var 1) 3 .nil) .nil)))) (.var 4)) (.cons (.ret (.bl false)) .nil) .nil) (.cons (.for (.tup (.cons (.name 5) (.cons (.name 6) .nil))) (.val (.call 32 (.cons (.idx (.var 4) (.int 0)) (.cons (.idx (.var 4) (.int 1)) .nil)))) (.cons (.ife (.cmp .NotEq (.call 30 (.cons (.mth (.var 1) 2 .nil) (.cons (.var 5) (.cons (.var 6) .nil)))) (.call 36 (.cons (.var 0) (.cons (.var 2) (.cons (.var 3) (.cons (.var 5) (.cons (.var 6) .nil))))))) (.cons (.ret (.bl false)) .nil) .nil) .nil)) (.cons (.ret (.bl true)) .nil)))
theorem lgood_ (k : Nat) {st : Store} {way n f f' : Nat} {us ts ts' : List (Nat × List Nat)} {A B C D A' B' C' D' Am Bm Cm Dm : List (List Rat)} {m i o m' i' o' mm I J : Nat} (hway : way < 2) (ob : Obj st n us [Am, Bm, Cm, Dm]) (SQ : ShpsQ mm I J Am Bm Cm Dm) (tA : TSc 2 45 Am) (tB : TSc 2 45 Bm) (tC : TSc 2 45 Cm) (tD : TSc 2 45 Dm) (h : LsT st f ts [A, B, C, D]) (S : Shps m i o A B C D) (h' : LsT st f' ts' [A', B', C', D']) (S' : Shps m' i' o' A' B' C' D') (hmm : mm = m + m') (hI : if way = 0 then I = i ∧ J = o' else I = 2 ∧ J = 2)
    (hb : ∀ (st' : Store) (p r : Nat) (x u : List Rat), Gr st st' → RowQ st' p x → RowQ st' r u → x.length = mm → u.length = I → RSc 1 18 x → RSc 1 18 u → ∃ t a b st'', runL P (k + 7) 36 [.int way, .ref f, .ref f', .ref p, .ref r] st' = .ok (.ref t) st'' ∧ Gr st' st'' ∧ Two st'' t a b (bwQ Cm x Dm u) (bwQ Am x Bm u)) :
    ∃ st', runL P (k + 8) 37 [.int way, .ref n, .ref f, .ref f'] st = .ok (.bl true) st' ∧ Gr st st' := by
  have hm8 := SQ.hm
  have I2 := SQ.i2
  have J2 := SQ.o2
  have T := h.tabs
  have hat := h.at_
  have T' := h'.tabs
  have hat' := h'.at_
  cases T with
  | @cons a _ ts _ hA T =>
  cases T with
  | @cons b _ ts _ hB T =>
  cases T with
  | @cons c _ ts _ hC T =>
  cases T with
  | @cons d _ ts _ hD T =>
  cases T
  cases T' with
  | @cons a' _ ts' _ hA' T' =>
  cases T' with
  | @cons b' _ ts' _ hB' T' =>
  cases T' with
  | @cons c' _ ts' _ hC' T' =>
  cases T' with
  | @cons d' _ ts' _ hD' T' =>
  cases T'
  have hat1 : st[f]? = some (.lst [.ref a.1, .ref b.1, .ref c.1, .ref d.1]) := hat
  have hat1' : st[f']? = some (.lst [.ref a'.1, .ref b'.1, .ref c'.1, .ref d'.1]) := hat'
  have ata : st[a.1]? = some (.lst (a.2.map W.ref)) := hA.at_
  have la2 : a.2.length = m := by rw [hA.len, S.a.1]
  have ata' : st[a'.1]? = some (.lst (a'.2.map W.ref)) := hA'.at_
  have la2' : a'.2.length = m' := by rw [hA'.len, S'.a.1]
  have atd : st[d.1]? = some (.lst (d.2.map W.ref)) := hD.at_
  have ld2 : d.2.length = o := by rw [hD.len, S.d.1]
  have atd' : st[d'.1]? = some (.lst (d'.2.map W.ref)) := hD'.at_
  have ld2' : d'.2.length = o' := by rw [hD'.len, S'.d.1]
  have o1 := S.o1
  obtain ⟨r0, hr0, rr0⟩ := hD.rows.get (i := 0) (a := d.2[0]'(by omega)) (List.getElem?_eq_getElem _)
  have lr0 := S.d.2.1 r0 (List.mem_of_getElem? hr0)
  have zd : d.2[0]? = some (d.2[0]'(by omega)) := List.getElem?_eq_getElem _
  have rr0' : st[d.2[0]'(by omega)]? = some (.lst (r0.map fq)) := rr0
  -- the shape
  obtain ⟨p1, s1, e1, g1, i1⟩ : ∃ (p1 : Nat) (s1 : Store), (∀ z5 z6 : Option W, evB (O (k + 7)) (.cons (.set (.name 4) (.lst (.cons (.bop .Add (.bi .len (.cons (.idx (.var 2) (.int 0)) .nil)) (.bi .len (.cons (.idx (.var 3) (.int 0)) .nil))) (.cons (.bi .len (.cons (.idx (.idx (.var 2) (.int 3)) (.int 0)) .nil)) (.cons (.bi .len (.cons (.idx (.var 3) (.int 3)) .nil)) .nil))))) (.cons (.ife (.cmp .Eq (.var 0) (.int 1)) (.cons (.set (.name 4) (.lst (.cons (.idx (.var 4) (.int 0)) (.cons (.int 2) (.cons (.int 2) .nil))))) .nil) .nil) .nil)) [some (.int way), some (.ref n), some (.ref f), some (.ref f'), none, z5, z6] st = .nx [some (.int way), some (.ref n), some (.ref f), some (.ref f'), some (.ref p1), z5, z6] s1) ∧ Gr st s1 ∧ Is s1 p1 [.int mm, .int I, .int J] := by
    have n1 := new_few (st := st) (ws := [.int ((m : Int) + m'), .int i, .int o']) (by simp)
    have x1 : (st ++ [Cell.lst [.int ((m : Int) + m'), .int i, .int o']])[st.length]? = some (.lst [.int ((m : Int) + m'), .int i, .int o']) := get_last
    have g1 := Gr.app st [.lst [.int ((m : Int) + m'), .int i, .int o']]
    rcases (show way = 0 ∨ way = 1 by omega) with rfl | rfl
    · rw [if_pos rfl] at hI
      refine ⟨st.length, st ++ [.lst [.int ((m : Int) + m'), .int i, .int o']], fun z5 z6 => ?_, g1, ?_⟩
      · simp [hat1, hat1', ata, la2, ata', la2', atd, zd, rr0', lr0, atd', ld2', n1]
      · rw [hI.1, hI.2, hmm, Int.natCast_add]
        exact x1
    · rw [if_neg (by decide)] at hI
      generalize hs1 : st ++ [Cell.lst [W.int ((m : Int) + m'), .int i, .int o']] = s1 at *
      have n2 := new_few (st := s1) (ws := [.int ((m : Int) + m'), .int 2, .int 2]) (by simp)
      refine ⟨s1.length, s1 ++ [.lst [.int ((m : Int) + m'), .int 2, .int 2]], fun z5 z6 => ?_, g1.trans (Gr.app _ _), ?_⟩
      · simp [hat1, hat1', ata, la2, ata', la2', atd, zd, rr0', lr0, atd', ld2', n1, hs1, x1, n2]
      · rw [hI.1, hI.2, hmm, Int.natCast_add]
        exact get_last
  have ob1 := ob.gr g1
  have mc := mthR0 (o := O (k + 7)) (m := 0) ob1.at_ (f := 41) rfl
  have mi := mthR0 (o := O (k + 7)) (m := 1) ob1.at_ (f := 42) rfl
  have mo := mthR0 (o := O (k + 7)) (m := 3) ob1.at_ (f := 43) rfl
  have fc := cellsQ_ (k + 6) ob1 SQ
  have fi := insQ_ (k + 6) ob1 SQ
  have fo := outsQ_ (k + 6) ob1 SQ
  have n2 := new_few (st := s1) (ws := [.int mm, .int I, .int J]) (by simp)
  have g2 := Gr.app s1 [.lst [.int mm, .int I, .int J]]
  have x2 : Is (s1 ++ [.lst [.int mm, .int I, .int J]]) s1.length ([(mm : Int), I, J].map W.int) := get_last
  have y2 : Is (s1 ++ [.lst [.int mm, .int I, .int J]]) p1 ([(mm : Int), I, J].map W.int) := get_more i1
  have cmp := ints_ne x2 y2
  rw [decide_eq_true rfl] at cmp
  generalize hs2 : s1 ++ [Cell.lst [W.int mm, .int I, .int J]] = s2 at *
  have y2' : s2[p1]? = some (.lst [.int mm, .int I, .int J]) := y2
  obtain ⟨p3, ws, s3, e3, g3, i3, l3, h3⟩ := lcases_ (k + 5) mm I (by omega) (by omega) s2
  have g13 := g1.trans (g2.trans g3)
  obtain ⟨ρ', st', e4, g4, z5, z6, rfl⟩ := for_inv (i := 0) (m := ws.length) (n := ws.length) (it := .lst p3 ws.length) (st := s3) (ρ := [some (.int way), some (.ref n), some (.ref f), some (.ref f'), some (.ref p1), none, none])
    (body := fun w ρ st => (evG (O (k + 7)) (.tup (.cons (.name 5) (.cons (.name 6) .nil))) w ρ st).out ρ fun ρ st => evB (O (k + 7)) (.cons (.ife (.cmp .NotEq (.call 30 (.cons (.mth (.var 1) 2 .nil) (.cons (.var 5) (.cons (.var 6) .nil)))) (.call 36 (.cons (.var 0) (.cons (.var 2) (.cons (.var 3) (.cons (.var 5) (.cons (.var 6) .nil))))))) (.cons (.ret (.bl false)) .nil) .nil) .nil) ρ st)
    (Inv := fun t ρ st' => Gr s3 st' ∧ ∃ (z5 z6 : Option W), ρ = [some (.int way), some (.ref n), some (.ref f), some (.ref f'), some (.ref p1), z5, z6]) (fun t ρ st' ht ⟨g, z5, z6, e⟩ => by
      subst e
      obtain ⟨pa, pb, x, u, ew, rx, ru, lx, lu, bx, bu⟩ := h3 ws[t] (List.getElem_mem _)
      have hg := (tells_lst (l := ws.length) i3) st' g t
      rw [List.getElem?_eq_getElem ht, ew] at hg
      have g4 := g13.trans g
      obtain ⟨us5, s5, e5, N5⟩ := mtablesQ_ (k + 5) (ob.gr g4) SQ
      have mt := mthR0 (o := O (k + 7)) (m := 2) (ob.gr g4).at_ (f := 44) rfl
      have T := N5.tabs
      cases T with
      | @cons a _ us _ hA T =>
      cases T with
      | @cons b _ us _ hB T =>
      cases T with
      | @cons c _ us _ hC T =>
      cases T with
      | @cons d _ us _ hD T =>
      cases T
      have g5 := g.trans N5.gr
      obtain ⟨t6, o6, n6, s6, e6, g6, W6⟩ := lturn_ (k + 1) (w := .tup [.ref a.1, .ref b.1, .ref c.1, .ref d.1]) (.inl rfl) hA hB hC hD (g5.get rx) (g5.get ru) tA tB tC tD bx bu (by rw [SQ.a.1]; omega) (by rw [SQ.b.1]; omega) (by rw [SQ.c.1]; omega) (by rw [SQ.d.1]; omega) (fun y hy => by rw [SQ.a.2.1 y hy]; omega) (fun y hy => by rw [SQ.b.2.1 y hy]; omega) (fun y hy => by rw [SQ.c.2.1 y hy]; omega) (fun y hy => by rw [SQ.d.2.1 y hy]; omega) (by decide) (by decide) (by decide) (by decide)
      have g6' := g5.trans g6
      obtain ⟨t7, o7, n7, s7, e7, g7, W7⟩ := hb s6 pa pb x u (g13.trans g6') (g6'.get rx) (g6'.get ru) lx lu bx bu
      have cmp := (sk_dT (frT [bwQ Cm x Dm u, bwQ Am x Bm u])).ne (by decide) (W6.gr g7).tab.q.fr.dn W7.tab.q.fr.dn
      refine ⟨_, [some (.int way), some (.ref n), some (.ref f), some (.ref f'), some (.ref p1), some (.ref pa), some (.ref pb)], s7, hg, .inl ?_, g6'.trans g7, _, _, rfl⟩
      simp at mt
      simp [mt, e5, e6, e7, cmp]) (fun ρ st' ⟨g, _⟩ => by
      have hg := (tells_lst (l := ws.length) i3) st' g ws.length
      rw [hg, List.getElem?_eq_none_iff.mpr (by simp)]) (by omega) (by omega) ⟨.refl _, none, none, rfl⟩
  refine ⟨st', ?_, g13.trans g4⟩
  have i3' : s3[p3]? = some (.lst ws) := i3
  have l3' : ws.length < mostTurns := by unfold mostTurns; omega
  have e5 : (evB (O (k + 7)) restG [some (.int way), some (.ref n), some (.ref f), some (.ref f'), some (.ref p1), none, none] s1).val = .ok (.bl true) st' := by
    simp at e4 hs2 cmp n2
    have i1' : s1[p1]? = some (.lst [.int mm, .int I, .int J]) := i1
    simp [restG, mc, mi, mo, fc, fi, fo, n2, hs2, cmp, y2', e3, i3', e4]
  rw [run37, show c37 = .cons _ (.cons _ restG) from rfl, evB_two (e1 none none)]
  exact e5
/-! ### a pair of systems -/
def pairB : CB := (.cons (.set (.name 6) (.str ("" : Str))) (.cons (.ife (.cmp .Gt (.bop .Add (.idx (.var 3) (.int 0)) (.idx (.var 4) (.int 0))) (.int 8)) (.cons (.set (.name 6) (.str ("many" : Str))) .nil) .nil) (.cons (.ife (.or (.and (.cmp .Eq (.var 5) (.int 0)) (.and1 (.cmp .NotEq (.idx (.var 3) (.int 2)) (.idx (.var 4) (.int 1))))) (.or1 (.and (.cmp .Eq (.var 5) (.int 1)) (.and1 (.cmp .NotEq (.bop .Add (.slc (.var 3) (.yes (.int 1)) .no) (.slc (.var 4) (.yes (.int 1)) .no)) (.lst (.cons (.int 1) (.cons (.int 1) (.cons (.int 1) (.cons (.int 1) .nil)))))))))) (.cons (.set (.name 6) (.str ("fit" : Str))) .nil) .nil) (.cons (.set (.tup (.cons (.name 7) (.cons (.name 8) .nil))) (.call 35 (.cons (.var 5) (.cons (.idx (.var 0) (.int 0)) (.cons (.idx (.var 0) (.int 1)) .nil))))) (.cons (.ife (.or (.cmp .NotEq (.var 8) (.var 6)) (.or1 (.and (.cmp .Eq (.var 6) (.str ("" : Str))) (.and1 (.not (.call 37 (.cons (.var 5) (.cons (.var 7) (.cons (.idx (.var 2) (.int 0)) (.cons (.idx (.var 2) (.int 1)) .nil)))))))))) (.cons (.ret (.bl false)) .nil) .nil) .nil)))))
theorem slc3 {st : Store} {s : Nat} {a b c : Int} (h : Is st s [.int a, .int b, .int c]) : slW st (.ref s) (some 1) none = .ok (.ref st.length) (st ++ [.lst [.int b, .int c]]) := by
  have e := sl_ref (lo := some 1) (hi := none) h
  rw [show cutW [W.int a, .int b, .int c] (some 1) none = [.int b, .int c] from rfl, new_lst (by simp)] at e
  exact e
theorem pair_step (k : Nat) {st : Store} {t pS pF n n' f f' s s' : Nat} {us us' ts ts' : List (Nat × List Nat)} {A B C D A' B' C' D' : List (List Rat)} {m i o m' i' o' : Nat} {z1 z6 z7 z8 : Option W} (ht : t < 2) (ob : Obj st n us [A, B, C, D]) (S : Shps m i o A B C D) (ob' : Obj st n' us' [A', B', C', D']) (S' : Shps m' i' o' A' B' C' D') (h : LsT st f ts [A, B, C, D]) (h' : LsT st f' ts' [A', B', C', D']) (iS : Is st pS [.ref n, .ref n']) (iF : Is st pF [.ref f, .ref f']) (hs : Is st s [.int m, .int i, .int o]) (hs' : Is st s' [.int m', .int i', .int o']) :
    ∃ (st' : Store) (z6' z7' z8' : Option W), evB (O (k + 9)) pairB [some (.ref pS), z1, some (.ref pF), some (.ref s), some (.ref s'), some (.int t), z6, z7, z8] st = .nx [some (.ref pS), z1, some (.ref pF), some (.ref s), some (.ref s'), some (.int t), z6', z7', z8'] st' ∧ Gr st st' := by
  have hs1 : st[s]? = some (.lst [.int m, .int i, .int o]) := hs
  have hs1' : st[s']? = some (.lst [.int m', .int i', .int o']) := hs'
  have iS' : st[pS]? = some (.lst [.ref n, .ref n']) := iS
  have E (st : Store) := str_eqs st
  have E1 (st : Store) := (E st).1
  have E2 (st : Store) := (E st).2.1
  have E3 (st : Store) := (E st).2.2.1
  have E4 (st : Store) := (E st).2.2.2.1
  have E5 (st : Store) := (E st).2.2.2.2.1
  have E6 (st : Store) := (E st).2.2.2.2.2
  rcases (show t = 0 ∨ t = 1 by omega) with rfl | rfl
  · by_cases hoi : o = i'
    · subst hoi
      by_cases hmm : m + m' ≤ 8
      · have c1 : decide ((8 : Int) < (m : Int) + (m' : Int)) = false := decide_eq_false (by omega)
        obtain ⟨p, nn, vs, s2, e2, g2, i2, O2⟩ := lword_ok k (st := st) (way := 0) (c := n) (c' := n') (by decide) (Ms := [inA m m' A C B' A', inB i B D B', inC m C D' C', prodQ D' D i]) (fun st0 g0 => by
          rcases in_row_ k (ob.gr g0) S (ob'.gr g0) S' with ⟨h, _⟩ | ⟨_, h, _⟩ | ⟨_, _, nn, vs, s1, e1, g1, O1, _⟩
          · exact absurd rfl h
          · omega
          · exact ⟨nn, vs, s1, e1, g1, O1⟩)
        have SQ : ShpsQ (m + m') i o' (inA m m' A C B' A') (inB i B D B') (inC m C D' C') (prodQ D' D i) := by
          rcases in_row_ k ob S ob' S' with ⟨h, _⟩ | ⟨_, h, _⟩ | ⟨_, _, _, _, _, _, _, _, SQ⟩
          · exact absurd rfl h
          · omega
          · exact SQ
        have hm := S.hm
        have i2' := S.i2
        have o2 := S.o2
        obtain ⟨s3, e3, g3⟩ := lgood_ (k + 1) (way := 0) (by decide) O2 SQ (TSc.app (TSc.wid (TSc.up2 S.a.2.2) (TSc.nou _ _ _ _)) (TSc.wid (prod2 S'.b S.c (by omega)) (TSc.up2 S'.a.2.2))) (TSc.app (TSc.up2 S.b.2.2) (prod2 S'.b S.d (by omega))) (TSc.wid (prod2 S'.d S.c (by omega)) (TSc.up2 S'.c.2.2)) (prod2 S'.d S.d (by omega)) (h.gr g2) S (h'.gr g2) S' rfl ⟨rfl, rfl⟩ (fun st' p r x u g hx hu lx lu bx bu => by
          obtain ⟨t, a, b, s4, e4, g4, W4⟩ := lboth0 (k + 1) ((h.gr g2).gr g) S ((h'.gr g2).gr g) S' hx hu lx bx bu
          refine ⟨t, a, b, s4, e4, g4, ?_⟩
          have lt : (x.take m).length = m := by rw [List.length_take]; omega
          rw [← in_out S S' lt, ← in_end S S' lt, List.take_append_drop] at W4
          exact W4)
        refine ⟨s3, some (.str ""), some (.ref nn), some (.str ""), ?_, g2.trans g3⟩
        have i2l (ρ : Loc) := gTupC_lst (o := O (k + 9)) (ρ := ρ) (st := s2) (n := p) (ws := [.ref nn, .str ""]) (ts := .cons (.name 7) (.cons (.name 8) .nil)) (by rw [lst_at, i2]; rfl) rfl
        have iF' : s2[pF]? = some (.lst [.ref f, .ref f']) := g2.get iF
        simp at e2 e3
        simp [pairB, hs1, hs1', c1, iS', e2, i2l, iF', E1, E4, e3]
      · have c1 : decide ((8 : Int) < (m : Int) + (m' : Int)) = true := decide_eq_true (by omega)
        obtain ⟨p, s2, e2, g2, i2⟩ := lword_exc k (st := st) (way := 0) (c := n) (c' := n') (x := 0) (by decide) (.inl rfl) (fun st0 g0 => by
          rcases in_row_ k (ob.gr g0) S (ob'.gr g0) S' with ⟨h, _⟩ | ⟨_, _, h⟩ | ⟨_, h, _⟩
          · exact absurd rfl h
          · exact ⟨st0, .refl _, h⟩
          · omega)
        rw [if_neg (by decide)] at i2
        refine ⟨s2, some (.str "many"), some .non, some (.str "many"), ?_, g2⟩
        have i2l (ρ : Loc) := gTupC_lst (o := O (k + 9)) (ρ := ρ) (st := s2) (n := p) (ws := [.non, .str "many"]) (ts := .cons (.name 7) (.cons (.name 8) .nil)) (by rw [lst_at, i2]; rfl) rfl
        simp at e2
        simp [pairB, hs1, hs1', c1, iS', e2, i2l, E3, E6]
    · have c2 : decide ((o : Int) = (i' : Int)) = false := decide_eq_false (by omega)
      obtain ⟨p, s2, e2, g2, i2⟩ := lword_exc k (st := st) (way := 0) (c := n) (c' := n') (x := 1) (by decide) (.inr rfl) (fun st0 g0 => by
        rcases in_row_ k (ob.gr g0) S (ob'.gr g0) S' with ⟨_, h⟩ | ⟨h, _⟩ | ⟨h, _⟩
        · exact ⟨st0, .refl _, h⟩
        · exact absurd h hoi
        · exact absurd h hoi)
      rw [if_pos rfl] at i2
      refine ⟨s2, some (.str "fit"), some .non, some (.str "fit"), ?_, g2⟩
      have i2l (ρ : Loc) := gTupC_lst (o := O (k + 9)) (ρ := ρ) (st := s2) (n := p) (ws := [.non, .str "fit"]) (ts := .cons (.name 7) (.cons (.name 8) .nil)) (by rw [lst_at, i2]; rfl) rfl
      simp at e2
      cases c1 : decide ((8 : Int) < (m : Int) + (m' : Int)) <;> simp [pairB, hs1, hs1', c1, c2, iS', e2, i2l, E2, E5]
  · have d1 := slc3 hs
    have g1 := Gr.app st [.lst [.int i, .int o]]
    have x1 : Is (st ++ [.lst [.int i, .int o]]) st.length [.int i, .int o] := get_last
    generalize hh1 : st ++ [Cell.lst [W.int i, .int o]] = s1 at *
    have d2 := slc3 (g1.get hs')
    have g2 := Gr.app s1 [.lst [.int i', .int o']]
    have x2 : Is (s1 ++ [.lst [.int i', .int o']]) s1.length [.int i', .int o'] := get_last
    have x1' := g2.get x1
    generalize hh2 : s1 ++ [Cell.lst [W.int i', .int o']] = s2 at *
    have n3 := new_few (st := s2) (ws := [.int i, .int o, .int i', .int o']) (by simp)
    have g3 := Gr.app s2 [.lst [.int i, .int o, .int i', .int o']]
    have x3 : Is (s2 ++ [.lst [.int i, .int o, .int i', .int o']]) s2.length ([(i : Int), o, i', o'].map W.int) := get_last
    generalize hh3 : s2 ++ [Cell.lst [W.int i, .int o, .int i', .int o']] = s3 at *
    have n4 := new_few (st := s3) (ws := [.int 1, .int 1, .int 1, .int 1]) (by simp)
    have g4 := Gr.app s3 [.lst [.int 1, .int 1, .int 1, .int 1]]
    have x4 : Is (s3 ++ [.lst [.int 1, .int 1, .int 1, .int 1]]) s3.length ([(1 : Int), 1, 1, 1].map W.int) := get_last
    have cmp := ints_ne (g4.get x3) x4
    generalize hh4 : s3 ++ [Cell.lst [W.int 1, .int 1, .int 1, .int 1]] = s4 at *
    have g := g1.trans (g2.trans (g3.trans g4))
    have x1'' : s2[st.length]? = some (.lst [.int i, .int o]) := x1'
    have x2' : s2[s1.length]? = some (.lst [.int i', .int o']) := x2
    have hs1'' : s1[s']? = some (.lst [.int m', .int i', .int o']) := g1.get hs'
    have iS4 : s4[pS]? = some (.lst [.ref n, .ref n']) := g.get iS
    by_cases hoi : i = 1 ∧ o = 1 ∧ i' = 1 ∧ o' = 1
    · have cd : decide ([(i : Int), o, i', o'] = [1, 1, 1, 1]) = true := by
        obtain ⟨h1, h2, h3, h4⟩ := hoi
        rw [h1, h2, h3, h4]; rfl
      rw [cd] at cmp
      by_cases hmm : m + m' ≤ 8
      · have c1 : decide ((8 : Int) < (m : Int) + (m' : Int)) = false := decide_eq_false (by omega)
        obtain ⟨p, nn, vs, s5, e5, g5, i5, O5⟩ := lword_ok k (st := s4) (way := 1) (c := n) (c' := n') (by decide) (Ms := [beT m m m' m' A A', beT m 1 m' 1 B B', beT 1 m 1 m' C C', beT 1 1 1 1 D D']) (fun st0 g0 => by
          rcases beside_ k ((ob.gr g).gr g0) S ((ob'.gr g).gr g0) S' with ⟨h, _⟩ | ⟨_, h, _⟩ | ⟨_, _, nn, vs, s1, e1, g1, O1, _⟩
          · exact absurd hoi h
          · omega
          · exact ⟨nn, vs, s1, e1, g1, O1⟩)
        have SQ : ShpsQ (m + m') 2 2 (beT m m m' m' A A') (beT m 1 m' 1 B B') (beT 1 m 1 m' C C') (beT 1 1 1 1 D D') := by
          rcases beside_ k ob S ob' S' with ⟨h, _⟩ | ⟨_, h, _⟩ | ⟨_, _, _, _, _, _, _, _, SQ⟩
          · exact absurd hoi h
          · omega
          · exact SQ
        obtain ⟨rfl, rfl, rfl, rfl⟩ := hoi
        obtain ⟨s6, e6, g6⟩ := lgood_ (k + 1) (way := 1) (by decide) O5 SQ (be2 S.a S'.a) (be2 S.b S'.b) (be2 S.c S'.c) (be2 S.d S'.d) ((h.gr g).gr g5) S ((h'.gr g).gr g5) S' rfl ⟨rfl, rfl⟩ (fun st' p r x u g' hx hu lx lu bx bu => by
          obtain ⟨t, a, b, s4, e4, g4, W4⟩ := lboth1 (k + 1) (((h.gr g).gr g5).gr g') S (((h'.gr g).gr g5).gr g') S' hx hu lx lu bx bu
          refine ⟨t, a, b, s4, e4, g4, ?_⟩
          have lt : (x.take m).length = m := by rw [List.length_take]; omega
          have lt2 : (u.take 1).length = 1 := by rw [List.length_take]; omega
          rw [← be_bw S.c S'.c S.d S'.d lt lt2, ← be_bw S.a S'.a S.b S'.b lt lt2, List.take_append_drop, List.take_append_drop] at W4
          exact W4)
        refine ⟨s6, some (.str ""), some (.ref nn), some (.str ""), ?_, g.trans (g5.trans g6)⟩
        have i5l (ρ : Loc) := gTupC_lst (o := O (k + 9)) (ρ := ρ) (st := s5) (n := p) (ws := [.ref nn, .str ""]) (ts := .cons (.name 7) (.cons (.name 8) .nil)) (by rw [lst_at, i5]; rfl) rfl
        have iF' : s5[pF]? = some (.lst [.ref f, .ref f']) := g5.get (g.get iF)
        simp at e5 e6 cmp n3 d1 d2 hs1 hs1' hs1'' x1'' x2' hh1 hh2 hh3
        simp [pairB, hs1, hs1', c1, d1, hs1'', d2, x1'', x2', n3, hh3, n4, hh4, cmp, iS4, e5, i5l, iF', E1, E4, e6]
      · have c1 : decide ((8 : Int) < (m : Int) + (m' : Int)) = true := decide_eq_true (by omega)
        obtain ⟨p, s5, e5, g5, i5⟩ := lword_exc k (st := s4) (way := 1) (c := n) (c' := n') (x := 0) (by decide) (.inl rfl) (fun st0 g0 => by
          rcases beside_ k ((ob.gr g).gr g0) S ((ob'.gr g).gr g0) S' with ⟨h, _⟩ | ⟨_, _, h⟩ | ⟨_, h, _⟩
          · exact absurd hoi h
          · exact h
          · omega)
        rw [if_neg (by decide)] at i5
        refine ⟨s5, some (.str "many"), some .non, some (.str "many"), ?_, g.trans g5⟩
        have i5l (ρ : Loc) := gTupC_lst (o := O (k + 9)) (ρ := ρ) (st := s5) (n := p) (ws := [.non, .str "many"]) (ts := .cons (.name 7) (.cons (.name 8) .nil)) (by rw [lst_at, i5]; rfl) rfl
        simp at e5
        simp at cmp
        simp [pairB, hs1, hs1', c1, d1, hs1'', d2, x1'', x2', n3, hh3, n4, hh4, cmp, iS4, e5, i5l, E3, E6]
    · have cd : decide ([(i : Int), o, i', o'] = [1, 1, 1, 1]) = false := decide_eq_false fun e => hoi (by simp at e; omega)
      rw [cd] at cmp
      obtain ⟨p, s5, e5, g5, i5⟩ := lword_exc k (st := s4) (way := 1) (c := n) (c' := n') (x := 1) (by decide) (.inr rfl) (fun st0 g0 => by
        rcases beside_ k ((ob.gr g).gr g0) S ((ob'.gr g).gr g0) S' with ⟨_, h⟩ | ⟨h, _⟩ | ⟨h, _⟩
        · exact h
        · exact absurd h hoi
        · exact absurd h hoi)
      rw [if_pos rfl] at i5
      refine ⟨s5, some (.str "fit"), some .non, some (.str "fit"), ?_, g.trans g5⟩
      have i5l (ρ : Loc) := gTupC_lst (o := O (k + 9)) (ρ := ρ) (st := s5) (n := p) (ws := [.non, .str "fit"]) (ts := .cons (.name 7) (.cons (.name 8) .nil)) (by rw [lst_at, i5]; rfl) rfl
      simp at e5
      cases c1 : decide ((8 : Int) < (m : Int) + (m' : Int)) <;> simp [pairB, hs1, hs1', c1, d1, hs1'', d2, x1'', x2', n3, hh3, n4, hh4, cmp, iS4, e5, i5l, E2, E5]
theorem lpair_ (k : Nat) {st : Store} {pS pH pF n n' f f' s s' : Nat} {us us' ts ts' : List (Nat × List Nat)} {A B C D A' B' C' D' : List (List Rat)} {m i o m' i' o' : Nat} (ob : Obj st n us [A, B, C, D]) (S : Shps m i o A B C D) (ob' : Obj st n' us' [A', B', C', D']) (S' : Shps m' i' o' A' B' C' D') (h : LsT st f ts [A, B, C, D]) (h' : LsT st f' ts' [A', B', C', D']) (iS : Is st pS [.ref n, .ref n']) (iH : Is st pH [.ref s, .ref s']) (iF : Is st pF [.ref f, .ref f']) (hs : Is st s [.int m, .int i, .int o]) (hs' : Is st s' [.int m', .int i', .int o']) :
    ∃ st', runL P (k + 10) 38 [.ref pS, .ref pH, .ref pF] st = .ok (.bl true) st' ∧ Gr st st' := by
  obtain ⟨ρ', st', e4, g4, z6, z7, z8, z5, rfl⟩ := for_inv (i := 0) (m := 2) (n := 2) (it := .rng 0 2) (st := st) (ρ := [some (.ref pS), some (.ref pH), some (.ref pF), some (.ref s), some (.ref s'), none, none, none, none])
    (body := fun w ρ st => (evG (O (k + 9)) (.name 5) w ρ st).out ρ fun ρ st => evB (O (k + 9)) pairB ρ st)
    (Inv := fun t ρ st' => Gr st st' ∧ ∃ (z6 z7 z8 z5 : Option W), ρ = [some (.ref pS), some (.ref pH), some (.ref pF), some (.ref s), some (.ref s'), z5, z6, z7, z8]) (fun t ρ st' ht ⟨g, z6, z7, z8, z5, e⟩ => by
      subst e
      obtain ⟨s2, y6, y7, y8, e2, g2⟩ := pair_step k (z1 := some (.ref pH)) (z6 := z6) (z7 := z7) (z8 := z8) ht (ob.gr g) S (ob'.gr g) S' (h.gr g) (h'.gr g) (g.get iS) (g.get iF) (g.get hs) (g.get hs')
      refine ⟨_, _, s2, get_rng ht, .inl ?_, g.trans g2, y6, y7, y8, some (.int t), rfl⟩
      rw [g_name']
      have et : (0 : Int) + (t : Nat) = (t : Nat) := Int.zero_add _
      rw [et]
      exact e2) (fun _ _ _ => end_rng) (by omega) (by omega) ⟨.refl _, none, none, none, none, rfl⟩
  refine ⟨st', ?_, g4⟩
  have iHl (ρ : Loc) := gTupC_lst (o := O (k + 9)) (ρ := ρ) (st := st) (n := pH) (ws := [.ref s, .ref s']) (ts := .cons (.name 3) (.cons (.name 4) .nil)) (by rw [lst_at, iH]; rfl) rfl
  have hr : rngI 0 2 = some (.rng 0 2) := rng_0 (n := 2) (by decide)
  rw [run38]
  unfold pairB at e4
  simp at e4
  simp [c38, iHl, hr, e4]
theorem ltables_ (k : Nat) {st : Store} {n f : Nat} {us ts : List (Nat × List Nat)} {A B C D : List (List Rat)} {m i o : Nat} (ob : Obj st n us [A, B, C, D]) (S : Shps m i o A B C D) (h : LsT st f ts [A, B, C, D]) : ∃ (x1 x2 x3 x4 : W) (s1 s2 : Store), runL P (k + 2) 44 [.ref n] st = .ok (.tup [x1, x2, x3, x4]) s1 ∧ newLst [x1, x2, x3, x4] s1 = .ok (.ref s1.length) s2 ∧ cmpR .Eq (.ref s1.length) (.ref f) s2 = .ok true s2 ∧ Gr st s1 ∧ Gr st s2 := by
  obtain ⟨vs, s1, e1, N1⟩ := mtables_ k ob S
  have lv := N1.tabs.len
  match vs, lv with
  | [v1, v2, v3, v4], _ =>
  have n2 := new_few (st := s1) (ws := [.ref v1.1, .ref v2.1, .ref v3.1, .ref v4.1]) (by simp)
  have L2 : LsT (s1 ++ [.lst [.ref v1.1, .ref v2.1, .ref v3.1, .ref v4.1]]) s1.length [v1, v2, v3, v4] [A, B, C, D] := ⟨get_last, N1.tabs.gr (Gr.app _ _)⟩
  have L3 := h.gr (N1.gr.trans (Gr.app s1 [.lst [.ref v1.1, .ref v2.1, .ref v3.1, .ref v4.1]]))
  exact ⟨_, _, _, _, s1, _, e1, n2, (sk_dL [A, B, C, D]).eq (by decide) L2.dn L3.dn, N1.gr, N1.gr.trans (Gr.app _ _)⟩
/-! ### the law -/
theorem law_runs : ∀ is : List Int, is.length ≤ 63 → ∃ st, runL P 40 39 [.scr is] [] = .ok (.bl true) st := by
  intro is hlen
  obtain ⟨c0, hc0⟩ := cell_ 38 is 0 []
  obtain ⟨bb, hbb⟩ : ∃ bb : Bool, decide ((c0.fdiv 32).fmod 8 = 1) = bb := ⟨_, rfl⟩
  obtain ⟨s, m, i, o, s1, e1, N1, hm, i1, i2, o1, o2⟩ := lshape_ 38 c0 bb []
  obtain ⟨c1, hc1⟩ := cell_ 38 is 1 s1
  obtain ⟨s', m', i', o', s2, e2, N2, hm', i1', i2', o1', o2'⟩ := lshape_ 38 c1 bb s1
  obtain ⟨c2, hc2⟩ := cell_ 38 is 2 s2
  obtain ⟨f, ts, A, B, C, D, s3, e3, N3, hf, hf2, hne, hA, hB, hC, hD⟩ := four_ 35 c2 s2 (m := m) (i := i) (o := o) hm i2 o2
  have S : Shps m i o A B C D := ⟨hA, hB, hC, hD, hm, i1, i2, o1, o2⟩
  have L3 : LsT s3 f ts [A, B, C, D] := ⟨hf, N3.tabs⟩
  obtain ⟨c3, hc3⟩ := cell_ 38 is 3 s3
  obtain ⟨f', ts', A', B', C', D', s4, e4, N4, hf', hf2', hne', hA', hB', hC', hD'⟩ := four_ 35 c3 s3 (m := m') (i := i') (o := o') hm' i2' o2'
  have S' : Shps m' i' o' A' B' C' D' := ⟨hA', hB', hC', hD', hm', i1', i2', o1', o2'⟩
  have L4' : LsT s4 f' ts' [A', B', C', D'] := ⟨hf', N4.tabs⟩
  have L4 := L3.gr N4.gr
  obtain ⟨us, s5, e5, g5, O5⟩ := lmade_ 31 L4 S
  obtain ⟨us', s6, e6, g6, O6'⟩ := lmade_ 31 (L4'.gr g5) S'
  have O6 := O5.gr g6
  have g46 := g5.trans g6
  have n7 := new_few (st := s6) (ws := [.ref s4.length, .ref s5.length]) (by simp)
  have g7 := Gr.app s6 [.lst [.ref s4.length, .ref s5.length]]
  have x7 : Is (s6 ++ [.lst [.ref s4.length, .ref s5.length]]) s6.length [.ref s4.length, .ref s5.length] := get_last
  generalize hs7 : s6 ++ [Cell.lst [W.ref s4.length, .ref s5.length]] = s7 at *
  have n8 := new_few (st := s7) (ws := [.ref s, .ref s']) (by simp)
  have g8 := Gr.app s7 [.lst [.ref s, .ref s']]
  have x8 : Is (s7 ++ [.lst [.ref s, .ref s']]) s7.length [.ref s, .ref s'] := get_last
  generalize hs8 : s7 ++ [Cell.lst [W.ref s, .ref s']] = s8 at *
  have n9 := new_few (st := s8) (ws := [.ref f, .ref f']) (by simp)
  have g9 := Gr.app s8 [.lst [.ref f, .ref f']]
  have x9 : Is (s8 ++ [.lst [.ref f, .ref f']]) s8.length [.ref f, .ref f'] := get_last
  generalize hs9 : s8 ++ [Cell.lst [W.ref f, .ref f']] = s9 at *
  have g69 := g7.trans (g8.trans g9)
  have g49 := g46.trans g69
  have is1 : Is s1 s [.int m, .int i, .int o] := N1.at_
  have is2 : Is s2 s' [.int m', .int i', .int o'] := N2.at_
  have is9 : Is s9 s [.int m, .int i, .int o] := g49.get (N4.gr.get (N3.gr.get (N2.gr.get is1)))
  have is9' : Is s9 s' [.int m', .int i', .int o'] := g49.get (N4.gr.get (N3.gr.get is2))
  obtain ⟨s10, e10, g10⟩ := lpair_ 29 (O6.gr g69) S (O6'.gr g69) S' (L4.gr g49) (L4'.gr g49) ((g8.trans g9).get x7) (g9.get x8) x9 is9 is9'
  have x7' : s10[s6.length]? = some (.lst [.ref s4.length, .ref s5.length]) := g10.get ((g8.trans g9).get x7)
  have n11 := new_few (st := s10) (ws := [.ref s4.length, .ref s4.length]) (by simp)
  have g11 := Gr.app s10 [.lst [.ref s4.length, .ref s4.length]]
  have x11 : Is (s10 ++ [.lst [.ref s4.length, .ref s4.length]]) s10.length [.ref s4.length, .ref s4.length] := get_last
  generalize hs11 : s10 ++ [Cell.lst [W.ref s4.length, .ref s4.length]] = s11 at *
  have n12 := new_few (st := s11) (ws := [.ref s, .ref s]) (by simp)
  have g12 := Gr.app s11 [.lst [.ref s, .ref s]]
  have x12 : Is (s11 ++ [.lst [.ref s, .ref s]]) s11.length [.ref s, .ref s] := get_last
  generalize hs12 : s11 ++ [Cell.lst [W.ref s, .ref s]] = s12 at *
  have n13 := new_few (st := s12) (ws := [.ref f, .ref f]) (by simp)
  have g13 := Gr.app s12 [.lst [.ref f, .ref f]]
  have x13 : Is (s12 ++ [.lst [.ref f, .ref f]]) s12.length [.ref f, .ref f] := get_last
  generalize hs13 : s12 ++ [Cell.lst [W.ref f, .ref f]] = s13 at *
  have g413 := g49.trans (g10.trans (g11.trans (g12.trans g13)))
  have g613 := g69.trans (g10.trans (g11.trans (g12.trans g13)))
  have is13 : Is s13 s [.int m, .int i, .int o] := (g10.trans (g11.trans (g12.trans g13))).get is9
  obtain ⟨s14, e14, g14⟩ := lpair_ 29 (O6.gr g613) S (O6.gr g613) S (L4.gr g413) (L4.gr g413) ((g12.trans g13).get x11) (g13.get x12) x13 is13 is13
  have g414 := g413.trans g14
  have g614 := g613.trans g14
  have mt := mthR0 (o := O 39) (m := 2) (O6.gr g614).at_ (f := 44) rfl
  obtain ⟨a1, a2, a3, a4, s15, s16, e15, n16, q16, g15, g16⟩ := ltables_ 37 (O6.gr g614) S (L4.gr g414)
  have mt' := mthR0 (o := O 39) (m := 2) ((O6'.gr g614).gr g16).at_ (f := 44) rfl
  obtain ⟨b1, b2, b3, b4, s17, s18, e17, n18, q18, g17, g18⟩ := ltables_ 37 ((O6'.gr g614).gr g16) S' ((L4'.gr g414).gr g16)
  have y14 : s14[s6.length]? = some (.lst [.ref s4.length, .ref s5.length]) := (g10.trans (g11.trans (g12.trans (g13.trans g14)))).get ((g8.trans g9).get x7)
  have y16 : s16[s6.length]? = some (.lst [.ref s4.length, .ref s5.length]) := g16.get y14
  refine ⟨s18, ?_⟩
  have is1' : s2[s]? = some (.lst [.int m, .int i, .int o]) := N2.gr.get is1
  have is2' : s3[s']? = some (.lst [.int m', .int i', .int o']) := N3.gr.get is2
  simp at hc0 hc1 hc2 hc3
  simp at mt mt'
  rw [show (40 : Nat) = 39 + 1 from rfl, run39]
  have hb2 : decide ((c0.fdiv 32).fmod 8 = 1) = bb := hbb
  simp [-new_few, c39, hc0, op_mod', fdivL, hb2, e1, hc1, e2, hc2, is1', e3, hc3, is2', e4, e5, e6, n7, hs7, n8, hs8, n9, hs9, e10, x7', n11, hs11, n12, hs12, n13, hs13, e14, y14, mt, e15, n16, q16, y16, mt', e17, n18, q18]
end Mx.K41

namespace Mx.K41
open PySem PySem.Spec PyProof.Rows L2 Mx
theorem all_mk {l : PySem.W.OpenLaw} {w : World} {K : PySem.W.Frag} {h : Heap} {mg : Str → Option Value} {fa : Addr} (X : K.In h) (G : h.Ns mainGlobals mg) (hfa : mg "law" = some (.ref fa))
    {C0 : Addr}
    {X0 : Addr}
    {X1 : Addr}
    {X2 : Addr}
    {X3 : Addr}
    {f0 : Addr} {od0 an0 : Option Addr} {sl0 : Array (Option Value)} {oc0 kV0 dc0 pm0 cd0 ct0 : Value}
    {f1 : Addr} {od1 an1 : Option Addr} {sl1 : Array (Option Value)} {oc1 kV1 dc1 pm1 cd1 ct1 : Value}
    {f2 : Addr} {od2 an2 : Option Addr} {sl2 : Array (Option Value)} {oc2 kV2 dc2 pm2 cd2 ct2 : Value}
    {f3 : Addr} {od3 an3 : Option Addr} {sl3 : Array (Option Value)} {oc3 kV3 dc3 pm3 cd3 ct3 : Value}
    {f4 : Addr} {od4 an4 : Option Addr} {sl4 : Array (Option Value)} {oc4 kV4 dc4 pm4 cd4 ct4 : Value}
    {f5 : Addr} {od5 an5 : Option Addr} {sl5 : Array (Option Value)} {oc5 kV5 dc5 pm5 cd5 ct5 : Value}
    {f6 : Addr} {od6 an6 : Option Addr} {sl6 : Array (Option Value)} {oc6 kV6 dc6 pm6 cd6 ct6 : Value}
    {f7 : Addr} {od7 an7 : Option Addr} {sl7 : Array (Option Value)} {oc7 kV7 dc7 pm7 cd7 ct7 : Value}
    {f8 : Addr} {od8 an8 : Option Addr} {sl8 : Array (Option Value)} {oc8 kV8 dc8 pm8 cd8 ct8 : Value}
    {f9 : Addr} {od9 an9 : Option Addr} {sl9 : Array (Option Value)} {oc9 kV9 dc9 pm9 cd9 ct9 : Value}
    {f10 : Addr} {od10 an10 : Option Addr} {sl10 : Array (Option Value)} {oc10 kV10 dc10 pm10 cd10 ct10 : Value}
    {f11 : Addr} {od11 an11 : Option Addr} {sl11 : Array (Option Value)} {oc11 kV11 dc11 pm11 cd11 ct11 : Value}
    {f12 : Addr} {od12 an12 : Option Addr} {sl12 : Array (Option Value)} {oc12 kV12 dc12 pm12 cd12 ct12 : Value}
    {f13 : Addr} {od13 an13 : Option Addr} {sl13 : Array (Option Value)} {oc13 kV13 dc13 pm13 cd13 ct13 : Value}
    {f14 : Addr} {od14 an14 : Option Addr} {sl14 : Array (Option Value)} {oc14 kV14 dc14 pm14 cd14 ct14 : Value}
    {f15 : Addr} {od15 an15 : Option Addr} {sl15 : Array (Option Value)} {oc15 kV15 dc15 pm15 cd15 ct15 : Value}
    {f16 : Addr} {od16 an16 : Option Addr} {sl16 : Array (Option Value)} {oc16 kV16 dc16 pm16 cd16 ct16 : Value}
    {f17 : Addr} {od17 an17 : Option Addr} {sl17 : Array (Option Value)} {oc17 kV17 dc17 pm17 cd17 ct17 : Value}
    {f18 : Addr} {od18 an18 : Option Addr} {sl18 : Array (Option Value)} {oc18 kV18 dc18 pm18 cd18 ct18 : Value}
    {f19 : Addr} {od19 an19 : Option Addr} {sl19 : Array (Option Value)} {oc19 kV19 dc19 pm19 cd19 ct19 : Value}
    {f20 : Addr} {od20 an20 : Option Addr} {sl20 : Array (Option Value)} {oc20 kV20 dc20 pm20 cd20 ct20 : Value}
    {f21 : Addr} {od21 an21 : Option Addr} {sl21 : Array (Option Value)} {oc21 kV21 dc21 pm21 cd21 ct21 : Value}
    {f22 : Addr} {od22 an22 : Option Addr} {sl22 : Array (Option Value)} {oc22 kV22 dc22 pm22 cd22 ct22 : Value}
    {f23 : Addr} {od23 an23 : Option Addr} {sl23 : Array (Option Value)} {oc23 kV23 dc23 pm23 cd23 ct23 : Value}
    {f24 : Addr} {od24 an24 : Option Addr} {sl24 : Array (Option Value)} {oc24 kV24 dc24 pm24 cd24 ct24 : Value}
    {f25 : Addr} {od25 an25 : Option Addr} {sl25 : Array (Option Value)} {oc25 kV25 dc25 pm25 cd25 ct25 : Value}
    {f26 : Addr} {od26 an26 : Option Addr} {sl26 : Array (Option Value)} {oc26 kV26 dc26 pm26 cd26 ct26 : Value}
    {f27 : Addr} {od27 an27 : Option Addr} {sl27 : Array (Option Value)} {oc27 kV27 dc27 pm27 cd27 ct27 : Value}
    {f28 : Addr} {od28 an28 : Option Addr} {sl28 : Array (Option Value)} {oc28 kV28 dc28 pm28 cd28 ct28 : Value}
    {f29 : Addr} {od29 an29 : Option Addr} {sl29 : Array (Option Value)} {oc29 kV29 dc29 pm29 cd29 ct29 : Value}
    {f30 : Addr} {od30 an30 : Option Addr} {sl30 : Array (Option Value)} {oc30 kV30 dc30 pm30 cd30 ct30 : Value}
    {f31 : Addr} {od31 an31 : Option Addr} {sl31 : Array (Option Value)} {oc31 kV31 dc31 pm31 cd31 ct31 : Value}
    {f32 : Addr} {od32 an32 : Option Addr} {sl32 : Array (Option Value)} {oc32 kV32 dc32 pm32 cd32 ct32 : Value}
    {f33 : Addr} {od33 an33 : Option Addr} {sl33 : Array (Option Value)} {oc33 kV33 dc33 pm33 cd33 ct33 : Value}
    {f34 : Addr} {od34 an34 : Option Addr} {sl34 : Array (Option Value)} {oc34 kV34 dc34 pm34 cd34 ct34 : Value}
    {f35 : Addr} {od35 an35 : Option Addr} {sl35 : Array (Option Value)} {oc35 kV35 dc35 pm35 cd35 ct35 : Value}
    {f36 : Addr} {od36 an36 : Option Addr} {sl36 : Array (Option Value)} {oc36 kV36 dc36 pm36 cd36 ct36 : Value}
    {f37 : Addr} {od37 an37 : Option Addr} {sl37 : Array (Option Value)} {oc37 kV37 dc37 pm37 cd37 ct37 : Value}
    {f38 : Addr} {od38 an38 : Option Addr} {sl38 : Array (Option Value)} {oc38 kV38 dc38 pm38 cd38 ct38 : Value}
    {f39 : Addr} {od39 an39 : Option Addr} {sl39 : Array (Option Value)} {oc39 kV39 dc39 pm39 cd39 ct39 : Value}
    {f40 : Addr} {od40 an40 : Option Addr} {sl40 : Array (Option Value)} {oc40 kV40 dc40 pm40 cd40 ct40 : Value}
    {f41 : Addr} {od41 an41 : Option Addr} {sl41 : Array (Option Value)} {oc41 kV41 dc41 pm41 cd41 ct41 : Value}
    {f42 : Addr} {od42 an42 : Option Addr} {sl42 : Array (Option Value)} {oc42 kV42 dc42 pm42 cd42 ct42 : Value}
    {f43 : Addr} {od43 an43 : Option Addr} {sl43 : Array (Option Value)} {oc43 kV43 dc43 pm43 cd43 ct43 : Value}
    {f44 : Addr} {od44 an44 : Option Addr} {sl44 : Array (Option Value)} {oc44 kV44 dc44 pm44 cd44 ct44 : Value}
    {f45 : Addr} {od45 an45 : Option Addr} {sl45 : Array (Option Value)} {oc45 kV45 dc45 pm45 cd45 ct45 : Value}
    {G0 : Addr} {dG0 : Option Addr} {ta0 tb0 : Tok} {nG0 : Nat} {sG0 : Array (Option Value)}
    {ta1 : Tok}
    (C0g : PySem.W.nsIn K mainGlobals ("System" : Str) = some (some (.ref C0)))
    (C0p : PySem.W.plainGet K C0 Str.empty = true)
    (C0d : PySem.W.hasDictIn K C0 = true)
    (C0o : PySem.W.plainOver K C0 = true)
    (C0s : PySem.W.findIn K (.ref C0) "__setattr__" = some (some (.builtin "object.__setattr__")))
    (C0a : PySem.W.findIn K (.ref C0) "__class__" = some (some (.builtin "object.__class__")))
    (C0m : PySem.W.mroIn K C0 (.type "object") = some true)
    (C0k : PySem.W.kitOne K (.type "NoneType") (.ref C0) = some false)
    (C0x : PySem.W.makesIn K C0 = true)
    (C0y : PySem.W.keepIn K (.ref C0) = true)
    (C0t0 : PySem.W.kitOne K (.ref C0) (.type "NoneType") = some false)
    (C0t1 : PySem.W.kitOne K (.ref C0) (.type "bool") = some false)
    (C0t2 : PySem.W.kitOne K (.ref C0) (.type "int") = some false)
    (C0t3 : PySem.W.kitOne K (.ref C0) (.type "str") = some false)
    (C0t4 : PySem.W.kitOne K (.ref C0) (.type "tuple") = some false)
    (C0t5 : PySem.W.kitOne K (.ref C0) (.type "list") = some false)
    (C0t6 : PySem.W.kitOne K (.ref C0) (.type "dict") = some false)
    (C0f_four : PySem.W.findIn K (.ref C0) ("four" : Str) = some none)
    (C0r0 : PySem.W.kitOne K (.ref C0) (.ref C0) = some true)
    (X0g : PySem.W.nsIn K mainGlobals ("TooMany" : Str) = some (some (.ref X0)))
    (X0x : PySem.W.excIn K X0 [.type "ValueError", .type "Exception", .type "BaseException", .type "object"] "ValueError.__new__" = true)
    (X0k : PySem.W.keepIn K (.ref X0) = true)
    (X0t : PySem.W.typeIn K (.ref X0) = some (.type "type"))
    (X0a : PySem.W.findIn K (.ref X0) "__getattribute__" = some (some (.builtin "BaseException.__getattribute__")))
    (X0b : PySem.W.findIn K (.ref X0) "__getattr__" = some none)
    (X0s : PySem.W.subIn K (.ref X0) (.type "BaseException") = some true)
    (X0d : PySem.W.hasDictIn K X0 = true)
    (X0c : PySem.W.findIn K (.ref X0) "__class__" = some (some (.builtin "object.__class__")))
    (X0m : PySem.W.mroIn K X0 (.type "object") = some true)
    (X1g : PySem.W.nsIn K mainGlobals ("NoFit" : Str) = some (some (.ref X1)))
    (X1x : PySem.W.excIn K X1 [.type "ValueError", .type "Exception", .type "BaseException", .type "object"] "ValueError.__new__" = true)
    (X1k : PySem.W.keepIn K (.ref X1) = true)
    (X1t : PySem.W.typeIn K (.ref X1) = some (.type "type"))
    (X1a : PySem.W.findIn K (.ref X1) "__getattribute__" = some (some (.builtin "BaseException.__getattribute__")))
    (X1b : PySem.W.findIn K (.ref X1) "__getattr__" = some none)
    (X1s : PySem.W.subIn K (.ref X1) (.type "BaseException") = some true)
    (X1d : PySem.W.hasDictIn K X1 = true)
    (X1c : PySem.W.findIn K (.ref X1) "__class__" = some (some (.builtin "object.__class__")))
    (X1m : PySem.W.mroIn K X1 (.type "object") = some true)
    (X2g : PySem.W.nsIn K mainGlobals ("EchoError" : Str) = some (some (.ref X2)))
    (X2x : PySem.W.excIn K X2 [.type "ValueError", .type "Exception", .type "BaseException", .type "object"] "ValueError.__new__" = true)
    (X2k : PySem.W.keepIn K (.ref X2) = true)
    (X2t : PySem.W.typeIn K (.ref X2) = some (.type "type"))
    (X2a : PySem.W.findIn K (.ref X2) "__getattribute__" = some (some (.builtin "BaseException.__getattribute__")))
    (X2b : PySem.W.findIn K (.ref X2) "__getattr__" = some none)
    (X2s : PySem.W.subIn K (.ref X2) (.type "BaseException") = some true)
    (X2d : PySem.W.hasDictIn K X2 = true)
    (X2c : PySem.W.findIn K (.ref X2) "__class__" = some (some (.builtin "object.__class__")))
    (X2m : PySem.W.mroIn K X2 (.type "object") = some true)
    (X3g : PySem.W.nsIn K mainGlobals ("NoTable" : Str) = some (some (.ref X3)))
    (X3x : PySem.W.excIn K X3 [.type "ValueError", .type "Exception", .type "BaseException", .type "object"] "ValueError.__new__" = true)
    (X3k : PySem.W.keepIn K (.ref X3) = true)
    (X3t : PySem.W.typeIn K (.ref X3) = some (.type "type"))
    (X3a : PySem.W.findIn K (.ref X3) "__getattribute__" = some (some (.builtin "BaseException.__getattribute__")))
    (X3b : PySem.W.findIn K (.ref X3) "__getattr__" = some none)
    (X3s : PySem.W.subIn K (.ref X3) (.type "BaseException") = some true)
    (X3d : PySem.W.hasDictIn K X3 = true)
    (X3c : PySem.W.findIn K (.ref X3) "__class__" = some (some (.builtin "object.__class__")))
    (X3m : PySem.W.mroIn K X3 (.type "object") = some true)
    (X0u0 : PySem.W.subIn K (.ref X0) (.ref X0) = some true)
    (X0v0 : PySem.W.kitOne K (.ref X0) (.ref X0) = some true)
    (X0u1 : PySem.W.subIn K (.ref X0) (.ref X1) = some false)
    (X0v1 : PySem.W.kitOne K (.ref X0) (.ref X1) = some false)
    (X0u2 : PySem.W.subIn K (.ref X0) (.ref X2) = some true)
    (X0v2 : PySem.W.kitOne K (.ref X0) (.ref X2) = some true)
    (X0u3 : PySem.W.subIn K (.ref X0) (.ref X3) = some false)
    (X0v3 : PySem.W.kitOne K (.ref X0) (.ref X3) = some false)
    (X1u0 : PySem.W.subIn K (.ref X1) (.ref X0) = some false)
    (X1v0 : PySem.W.kitOne K (.ref X1) (.ref X0) = some false)
    (X1u1 : PySem.W.subIn K (.ref X1) (.ref X1) = some true)
    (X1v1 : PySem.W.kitOne K (.ref X1) (.ref X1) = some true)
    (X1u2 : PySem.W.subIn K (.ref X1) (.ref X2) = some true)
    (X1v2 : PySem.W.kitOne K (.ref X1) (.ref X2) = some true)
    (X1u3 : PySem.W.subIn K (.ref X1) (.ref X3) = some false)
    (X1v3 : PySem.W.kitOne K (.ref X1) (.ref X3) = some false)
    (X2u0 : PySem.W.subIn K (.ref X2) (.ref X0) = some false)
    (X2v0 : PySem.W.kitOne K (.ref X2) (.ref X0) = some false)
    (X2u1 : PySem.W.subIn K (.ref X2) (.ref X1) = some false)
    (X2v1 : PySem.W.kitOne K (.ref X2) (.ref X1) = some false)
    (X2u2 : PySem.W.subIn K (.ref X2) (.ref X2) = some true)
    (X2v2 : PySem.W.kitOne K (.ref X2) (.ref X2) = some true)
    (X2u3 : PySem.W.subIn K (.ref X2) (.ref X3) = some false)
    (X2v3 : PySem.W.kitOne K (.ref X2) (.ref X3) = some false)
    (X3u0 : PySem.W.subIn K (.ref X3) (.ref X0) = some false)
    (X3v0 : PySem.W.kitOne K (.ref X3) (.ref X0) = some false)
    (X3u1 : PySem.W.subIn K (.ref X3) (.ref X1) = some false)
    (X3v1 : PySem.W.kitOne K (.ref X3) (.ref X1) = some false)
    (X3u2 : PySem.W.subIn K (.ref X3) (.ref X2) = some true)
    (X3v2 : PySem.W.kitOne K (.ref X3) (.ref X2) = some true)
    (X3u3 : PySem.W.subIn K (.ref X3) (.ref X3) = some true)
    (X3v3 : PySem.W.kitOne K (.ref X3) (.ref X3) = some true)
    (oG : PySem.W.specialIn K (.builtin "object.__class__") "__get__" = some (some (.builtin "getset_descriptor.__get__")))
    (oT : PySem.W.takesIn K (.builtin "object.__class__") = some true)
    (a0 : PySem.W.nsIn K mainGlobals ("_wall" : Str) = some (some (.ref f0)))
    (l0 : K.lookup f0 = some ⟨oc0, od0, .func (PySem.W.fnOf ("_wall" : Str) ("_wall" : Str) (defArgs (top 0)) (defBody (top 0)) (defScope (top 0)) .none kV0 dc0 pm0 an0 cd0 ct0), sl0⟩)
    (e0 : PySem.W.codeIn K cd0 ("_wall" : Str) = true)
    (k0 : PySem.W.keepIn K (.ref f0) = true)
    (a1 : PySem.W.nsIn K mainGlobals ("is_whole" : Str) = some (some (.ref f1)))
    (l1 : K.lookup f1 = some ⟨oc1, od1, .func (PySem.W.fnOf ("is_whole" : Str) ("is_whole" : Str) (defArgs (top 8)) (defBody (top 8)) (defScope (top 8)) .none kV1 dc1 pm1 an1 cd1 ct1), sl1⟩)
    (e1 : PySem.W.codeIn K cd1 ("is_whole" : Str) = true)
    (k1 : PySem.W.keepIn K (.ref f1) = true)
    (a2 : PySem.W.nsIn K mainGlobals ("divisor" : Str) = some (some (.ref f2)))
    (l2 : K.lookup f2 = some ⟨oc2, od2, .func (PySem.W.fnOf ("divisor" : Str) ("divisor" : Str) (defArgs (top 9)) (defBody (top 9)) (defScope (top 9)) .none kV2 dc2 pm2 an2 cd2 ct2), sl2⟩)
    (e2 : PySem.W.codeIn K cd2 ("divisor" : Str) = true)
    (k2 : PySem.W.keepIn K (.ref f2) = true)
    (a3 : PySem.W.nsIn K mainGlobals ("is_fraction" : Str) = some (some (.ref f3)))
    (l3 : K.lookup f3 = some ⟨oc3, od3, .func (PySem.W.fnOf ("is_fraction" : Str) ("is_fraction" : Str) (defArgs (top 10)) (defBody (top 10)) (defScope (top 10)) .none kV3 dc3 pm3 an3 cd3 ct3), sl3⟩)
    (e3 : PySem.W.codeIn K cd3 ("is_fraction" : Str) = true)
    (k3 : PySem.W.keepIn K (.ref f3) = true)
    (a4 : PySem.W.nsIn K mainGlobals ("frac" : Str) = some (some (.ref f4)))
    (l4 : K.lookup f4 = some ⟨oc4, od4, .func (PySem.W.fnOf ("frac" : Str) ("frac" : Str) (defArgs (top 11)) (defBody (top 11)) (defScope (top 11)) .none kV4 dc4 pm4 an4 cd4 ct4), sl4⟩)
    (e4 : PySem.W.codeIn K cd4 ("frac" : Str) = true)
    (k4 : PySem.W.keepIn K (.ref f4) = true)
    (a5 : PySem.W.nsIn K mainGlobals ("plus" : Str) = some (some (.ref f5)))
    (l5 : K.lookup f5 = some ⟨oc5, od5, .func (PySem.W.fnOf ("plus" : Str) ("plus" : Str) (defArgs (top 12)) (defBody (top 12)) (defScope (top 12)) .none kV5 dc5 pm5 an5 cd5 ct5), sl5⟩)
    (e5 : PySem.W.codeIn K cd5 ("plus" : Str) = true)
    (k5 : PySem.W.keepIn K (.ref f5) = true)
    (a6 : PySem.W.nsIn K mainGlobals ("times" : Str) = some (some (.ref f6)))
    (l6 : K.lookup f6 = some ⟨oc6, od6, .func (PySem.W.fnOf ("times" : Str) ("times" : Str) (defArgs (top 13)) (defBody (top 13)) (defScope (top 13)) .none kV6 dc6 pm6 an6 cd6 ct6), sl6⟩)
    (e6 : PySem.W.codeIn K cd6 ("times" : Str) = true)
    (k6 : PySem.W.keepIn K (.ref f6) = true)
    (a7 : PySem.W.nsIn K mainGlobals ("is_row" : Str) = some (some (.ref f7)))
    (l7 : K.lookup f7 = some ⟨oc7, od7, .func (PySem.W.fnOf ("is_row" : Str) ("is_row" : Str) (defArgs (top 15)) (defBody (top 15)) (defScope (top 15)) .none kV7 dc7 pm7 an7 cd7 ct7), sl7⟩)
    (e7 : PySem.W.codeIn K cd7 ("is_row" : Str) = true)
    (k7 : PySem.W.keepIn K (.ref f7) = true)
    (a8 : PySem.W.nsIn K mainGlobals ("is_table" : Str) = some (some (.ref f8)))
    (l8 : K.lookup f8 = some ⟨oc8, od8, .func (PySem.W.fnOf ("is_table" : Str) ("is_table" : Str) (defArgs (top 16)) (defBody (top 16)) (defScope (top 16)) .none kV8 dc8 pm8 an8 cd8 ct8), sl8⟩)
    (e8 : PySem.W.codeIn K cd8 ("is_table" : Str) = true)
    (k8 : PySem.W.keepIn K (.ref f8) = true)
    (a9 : PySem.W.nsIn K mainGlobals ("weighed" : Str) = some (some (.ref f9)))
    (l9 : K.lookup f9 = some ⟨oc9, od9, .func (PySem.W.fnOf ("weighed" : Str) ("weighed" : Str) (defArgs (top 17)) (defBody (top 17)) (defScope (top 17)) .none kV9 dc9 pm9 an9 cd9 ct9), sl9⟩)
    (e9 : PySem.W.codeIn K cd9 ("weighed" : Str) = true)
    (k9 : PySem.W.keepIn K (.ref f9) = true)
    (a10 : PySem.W.nsIn K mainGlobals ("noughts" : Str) = some (some (.ref f10)))
    (l10 : K.lookup f10 = some ⟨oc10, od10, .func (PySem.W.fnOf ("noughts" : Str) ("noughts" : Str) (defArgs (top 18)) (defBody (top 18)) (defScope (top 18)) .none kV10 dc10 pm10 an10 cd10 ct10), sl10⟩)
    (e10 : PySem.W.codeIn K cd10 ("noughts" : Str) = true)
    (k10 : PySem.W.keepIn K (.ref f10) = true)
    (a11 : PySem.W.nsIn K mainGlobals ("turned" : Str) = some (some (.ref f11)))
    (l11 : K.lookup f11 = some ⟨oc11, od11, .func (PySem.W.fnOf ("turned" : Str) ("turned" : Str) (defArgs (top 19)) (defBody (top 19)) (defScope (top 19)) .none kV11 dc11 pm11 an11 cd11 ct11), sl11⟩)
    (e11 : PySem.W.codeIn K cd11 ("turned" : Str) = true)
    (k11 : PySem.W.keepIn K (.ref f11) = true)
    (a12 : PySem.W.nsIn K mainGlobals ("product" : Str) = some (some (.ref f12)))
    (l12 : K.lookup f12 = some ⟨oc12, od12, .func (PySem.W.fnOf ("product" : Str) ("product" : Str) (defArgs (top 20)) (defBody (top 20)) (defScope (top 20)) .none kV12 dc12 pm12 an12 cd12 ct12), sl12⟩)
    (e12 : PySem.W.codeIn K cd12 ("product" : Str) = true)
    (k12 : PySem.W.keepIn K (.ref f12) = true)
    (a13 : PySem.W.nsIn K mainGlobals ("widened" : Str) = some (some (.ref f13)))
    (l13 : K.lookup f13 = some ⟨oc13, od13, .func (PySem.W.fnOf ("widened" : Str) ("widened" : Str) (defArgs (top 21)) (defBody (top 21)) (defScope (top 21)) .none kV13 dc13 pm13 an13 cd13 ct13), sl13⟩)
    (e13 : PySem.W.codeIn K cd13 ("widened" : Str) = true)
    (k13 : PySem.W.keepIn K (.ref f13) = true)
    (a14 : PySem.W.nsIn K mainGlobals ("rows_anew" : Str) = some (some (.ref f14)))
    (l14 : K.lookup f14 = some ⟨oc14, od14, .func (PySem.W.fnOf ("rows_anew" : Str) ("rows_anew" : Str) (defArgs (top 24)) (defBody (top 24)) (defScope (top 24)) .none kV14 dc14 pm14 an14 cd14 ct14), sl14⟩)
    (e14 : PySem.W.codeIn K cd14 ("rows_anew" : Str) = true)
    (k14 : PySem.W.keepIn K (.ref f14) = true)
    (a15 : PySem.W.nsIn K mainGlobals ("are_of_one" : Str) = some (some (.ref f15)))
    (l15 : K.lookup f15 = some ⟨oc15, od15, .func (PySem.W.fnOf ("are_of_one" : Str) ("are_of_one" : Str) (defArgs (top 25)) (defBody (top 25)) (defScope (top 25)) .none kV15 dc15 pm15 an15 cd15 ct15), sl15⟩)
    (e15 : PySem.W.codeIn K cd15 ("are_of_one" : Str) = true)
    (k15 : PySem.W.keepIn K (.ref f15) = true)
    (a16 : PySem.W.nsIn K mainGlobals ("need_room" : Str) = some (some (.ref f16)))
    (l16 : K.lookup f16 = some ⟨oc16, od16, .func (PySem.W.fnOf ("need_room" : Str) ("need_room" : Str) (defArgs (top 28)) (defBody (top 28)) (defScope (top 28)) .none kV16 dc16 pm16 an16 cd16 ct16), sl16⟩)
    (e16 : PySem.W.codeIn K cd16 ("need_room" : Str) = true)
    (k16 : PySem.W.keepIn K (.ref f16) = true)
    (a17 : PySem.W.nsIn K mainGlobals ("in_row" : Str) = some (some (.ref f17)))
    (l17 : K.lookup f17 = some ⟨oc17, od17, .func (PySem.W.fnOf ("in_row" : Str) ("in_row" : Str) (defArgs (top 29)) (defBody (top 29)) (defScope (top 29)) .none kV17 dc17 pm17 an17 cd17 ct17), sl17⟩)
    (e17 : PySem.W.codeIn K cd17 ("in_row" : Str) = true)
    (k17 : PySem.W.keepIn K (.ref f17) = true)
    (a18 : PySem.W.nsIn K mainGlobals ("beside" : Str) = some (some (.ref f18)))
    (l18 : K.lookup f18 = some ⟨oc18, od18, .func (PySem.W.fnOf ("beside" : Str) ("beside" : Str) (defArgs (top 30)) (defBody (top 30)) (defScope (top 30)) .none kV18 dc18 pm18 an18 cd18 ct18), sl18⟩)
    (e18 : PySem.W.codeIn K cd18 ("beside" : Str) = true)
    (k18 : PySem.W.keepIn K (.ref f18) = true)
    (a19 : PySem.W.nsIn K mainGlobals ("_law_cell" : Str) = some (some (.ref f19)))
    (l19 : K.lookup f19 = some ⟨oc19, od19, .func (PySem.W.fnOf ("_law_cell" : Str) ("_law_cell" : Str) (defArgs (top 32)) (defBody (top 32)) (defScope (top 32)) .none kV19 dc19 pm19 an19 cd19 ct19), sl19⟩)
    (e19 : PySem.W.codeIn K cd19 ("_law_cell" : Str) = true)
    (k19 : PySem.W.keepIn K (.ref f19) = true)
    (a20 : PySem.W.nsIn K mainGlobals ("_law_mixed" : Str) = some (some (.ref f20)))
    (l20 : K.lookup f20 = some ⟨oc20, od20, .func (PySem.W.fnOf ("_law_mixed" : Str) ("_law_mixed" : Str) (defArgs (top 33)) (defBody (top 33)) (defScope (top 33)) .none kV20 dc20 pm20 an20 cd20 ct20), sl20⟩)
    (e20 : PySem.W.codeIn K cd20 ("_law_mixed" : Str) = true)
    (k20 : PySem.W.keepIn K (.ref f20) = true)
    (a21 : PySem.W.nsIn K mainGlobals ("_law_divisor" : Str) = some (some (.ref f21)))
    (l21 : K.lookup f21 = some ⟨oc21, od21, .func (PySem.W.fnOf ("_law_divisor" : Str) ("_law_divisor" : Str) (defArgs (top 34)) (defBody (top 34)) (defScope (top 34)) .none kV21 dc21 pm21 an21 cd21 ct21), sl21⟩)
    (e21 : PySem.W.codeIn K cd21 ("_law_divisor" : Str) = true)
    (k21 : PySem.W.keepIn K (.ref f21) = true)
    (a22 : PySem.W.nsIn K mainGlobals ("_law_frac" : Str) = some (some (.ref f22)))
    (l22 : K.lookup f22 = some ⟨oc22, od22, .func (PySem.W.fnOf ("_law_frac" : Str) ("_law_frac" : Str) (defArgs (top 35)) (defBody (top 35)) (defScope (top 35)) .none kV22 dc22 pm22 an22 cd22 ct22), sl22⟩)
    (e22 : PySem.W.codeIn K cd22 ("_law_frac" : Str) = true)
    (k22 : PySem.W.keepIn K (.ref f22) = true)
    (a23 : PySem.W.nsIn K mainGlobals ("_law_numbers" : Str) = some (some (.ref f23)))
    (l23 : K.lookup f23 = some ⟨oc23, od23, .func (PySem.W.fnOf ("_law_numbers" : Str) ("_law_numbers" : Str) (defArgs (top 36)) (defBody (top 36)) (defScope (top 36)) .none kV23 dc23 pm23 an23 cd23 ct23), sl23⟩)
    (e23 : PySem.W.codeIn K cd23 ("_law_numbers" : Str) = true)
    (k23 : PySem.W.keepIn K (.ref f23) = true)
    (a24 : PySem.W.nsIn K mainGlobals ("_law_rows" : Str) = some (some (.ref f24)))
    (l24 : K.lookup f24 = some ⟨oc24, od24, .func (PySem.W.fnOf ("_law_rows" : Str) ("_law_rows" : Str) (defArgs (top 37)) (defBody (top 37)) (defScope (top 37)) .none kV24 dc24 pm24 an24 cd24 ct24), sl24⟩)
    (e24 : PySem.W.codeIn K cd24 ("_law_rows" : Str) = true)
    (k24 : PySem.W.keepIn K (.ref f24) = true)
    (a25 : PySem.W.nsIn K mainGlobals ("_law_four" : Str) = some (some (.ref f25)))
    (l25 : K.lookup f25 = some ⟨oc25, od25, .func (PySem.W.fnOf ("_law_four" : Str) ("_law_four" : Str) (defArgs (top 38)) (defBody (top 38)) (defScope (top 38)) .none kV25 dc25 pm25 an25 cd25 ct25), sl25⟩)
    (e25 : PySem.W.codeIn K cd25 ("_law_four" : Str) = true)
    (k25 : PySem.W.keepIn K (.ref f25) = true)
    (a26 : PySem.W.nsIn K mainGlobals ("_law_plus" : Str) = some (some (.ref f26)))
    (l26 : K.lookup f26 = some ⟨oc26, od26, .func (PySem.W.fnOf ("_law_plus" : Str) ("_law_plus" : Str) (defArgs (top 39)) (defBody (top 39)) (defScope (top 39)) .none kV26 dc26 pm26 an26 cd26 ct26), sl26⟩)
    (e26 : PySem.W.codeIn K cd26 ("_law_plus" : Str) = true)
    (k26 : PySem.W.keepIn K (.ref f26) = true)
    (a27 : PySem.W.nsIn K mainGlobals ("_law_weighed" : Str) = some (some (.ref f27)))
    (l27 : K.lookup f27 = some ⟨oc27, od27, .func (PySem.W.fnOf ("_law_weighed" : Str) ("_law_weighed" : Str) (defArgs (top 40)) (defBody (top 40)) (defScope (top 40)) .none kV27 dc27 pm27 an27 cd27 ct27), sl27⟩)
    (e27 : PySem.W.codeIn K cd27 ("_law_weighed" : Str) = true)
    (k27 : PySem.W.keepIn K (.ref f27) = true)
    (a28 : PySem.W.nsIn K mainGlobals ("_law_led" : Str) = some (some (.ref f28)))
    (l28 : K.lookup f28 = some ⟨oc28, od28, .func (PySem.W.fnOf ("_law_led" : Str) ("_law_led" : Str) (defArgs (top 41)) (defBody (top 41)) (defScope (top 41)) .none kV28 dc28 pm28 an28 cd28 ct28), sl28⟩)
    (e28 : PySem.W.codeIn K cd28 ("_law_led" : Str) = true)
    (k28 : PySem.W.keepIn K (.ref f28) = true)
    (a29 : PySem.W.nsIn K mainGlobals ("_law_added" : Str) = some (some (.ref f29)))
    (l29 : K.lookup f29 = some ⟨oc29, od29, .func (PySem.W.fnOf ("_law_added" : Str) ("_law_added" : Str) (defArgs (top 42)) (defBody (top 42)) (defScope (top 42)) .none kV29 dc29 pm29 an29 cd29 ct29), sl29⟩)
    (e29 : PySem.W.codeIn K cd29 ("_law_added" : Str) = true)
    (k29 : PySem.W.keepIn K (.ref f29) = true)
    (a30 : PySem.W.nsIn K mainGlobals ("_law_turn" : Str) = some (some (.ref f30)))
    (l30 : K.lookup f30 = some ⟨oc30, od30, .func (PySem.W.fnOf ("_law_turn" : Str) ("_law_turn" : Str) (defArgs (top 43)) (defBody (top 43)) (defScope (top 43)) .none kV30 dc30 pm30 an30 cd30 ct30), sl30⟩)
    (e30 : PySem.W.codeIn K cd30 ("_law_turn" : Str) = true)
    (k30 : PySem.W.keepIn K (.ref f30) = true)
    (a31 : PySem.W.nsIn K mainGlobals ("_law_units" : Str) = some (some (.ref f31)))
    (l31 : K.lookup f31 = some ⟨oc31, od31, .func (PySem.W.fnOf ("_law_units" : Str) ("_law_units" : Str) (defArgs (top 44)) (defBody (top 44)) (defScope (top 44)) .none kV31 dc31 pm31 an31 cd31 ct31), sl31⟩)
    (e31 : PySem.W.codeIn K cd31 ("_law_units" : Str) = true)
    (k31 : PySem.W.keepIn K (.ref f31) = true)
    (a32 : PySem.W.nsIn K mainGlobals ("_law_cases" : Str) = some (some (.ref f32)))
    (l32 : K.lookup f32 = some ⟨oc32, od32, .func (PySem.W.fnOf ("_law_cases" : Str) ("_law_cases" : Str) (defArgs (top 45)) (defBody (top 45)) (defScope (top 45)) .none kV32 dc32 pm32 an32 cd32 ct32), sl32⟩)
    (e32 : PySem.W.codeIn K cd32 ("_law_cases" : Str) = true)
    (k32 : PySem.W.keepIn K (.ref f32) = true)
    (a33 : PySem.W.nsIn K mainGlobals ("_law_shape" : Str) = some (some (.ref f33)))
    (l33 : K.lookup f33 = some ⟨oc33, od33, .func (PySem.W.fnOf ("_law_shape" : Str) ("_law_shape" : Str) (defArgs (top 46)) (defBody (top 46)) (defScope (top 46)) .none kV33 dc33 pm33 an33 cd33 ct33), sl33⟩)
    (e33 : PySem.W.codeIn K cd33 ("_law_shape" : Str) = true)
    (k33 : PySem.W.keepIn K (.ref f33) = true)
    (a34 : PySem.W.nsIn K mainGlobals ("_law_made" : Str) = some (some (.ref f34)))
    (l34 : K.lookup f34 = some ⟨oc34, od34, .func (PySem.W.fnOf ("_law_made" : Str) ("_law_made" : Str) (defArgs (top 47)) (defBody (top 47)) (defScope (top 47)) .none kV34 dc34 pm34 an34 cd34 ct34), sl34⟩)
    (e34 : PySem.W.codeIn K cd34 ("_law_made" : Str) = true)
    (k34 : PySem.W.keepIn K (.ref f34) = true)
    (a35 : PySem.W.nsIn K mainGlobals ("_law_word" : Str) = some (some (.ref f35)))
    (l35 : K.lookup f35 = some ⟨oc35, od35, .func (PySem.W.fnOf ("_law_word" : Str) ("_law_word" : Str) (defArgs (top 48)) (defBody (top 48)) (defScope (top 48)) .none kV35 dc35 pm35 an35 cd35 ct35), sl35⟩)
    (e35 : PySem.W.codeIn K cd35 ("_law_word" : Str) = true)
    (k35 : PySem.W.keepIn K (.ref f35) = true)
    (a36 : PySem.W.nsIn K mainGlobals ("_law_both" : Str) = some (some (.ref f36)))
    (l36 : K.lookup f36 = some ⟨oc36, od36, .func (PySem.W.fnOf ("_law_both" : Str) ("_law_both" : Str) (defArgs (top 49)) (defBody (top 49)) (defScope (top 49)) .none kV36 dc36 pm36 an36 cd36 ct36), sl36⟩)
    (e36 : PySem.W.codeIn K cd36 ("_law_both" : Str) = true)
    (k36 : PySem.W.keepIn K (.ref f36) = true)
    (a37 : PySem.W.nsIn K mainGlobals ("_law_good" : Str) = some (some (.ref f37)))
    (l37 : K.lookup f37 = some ⟨oc37, od37, .func (PySem.W.fnOf ("_law_good" : Str) ("_law_good" : Str) (defArgs (top 50)) (defBody (top 50)) (defScope (top 50)) .none kV37 dc37 pm37 an37 cd37 ct37), sl37⟩)
    (e37 : PySem.W.codeIn K cd37 ("_law_good" : Str) = true)
    (k37 : PySem.W.keepIn K (.ref f37) = true)
    (a38 : PySem.W.nsIn K mainGlobals ("_law_pair" : Str) = some (some (.ref f38)))
    (l38 : K.lookup f38 = some ⟨oc38, od38, .func (PySem.W.fnOf ("_law_pair" : Str) ("_law_pair" : Str) (defArgs (top 51)) (defBody (top 51)) (defScope (top 51)) .none kV38 dc38 pm38 an38 cd38 ct38), sl38⟩)
    (e38 : PySem.W.codeIn K cd38 ("_law_pair" : Str) = true)
    (k38 : PySem.W.keepIn K (.ref f38) = true)
    (a39 : PySem.W.nsIn K mainGlobals ("law" : Str) = some (some (.ref f39)))
    (l39 : K.lookup f39 = some ⟨oc39, od39, .func (PySem.W.fnOf ("law" : Str) ("law" : Str) (defArgs (top 52)) (defBody (top 52)) (defScope (top 52)) .none kV39 dc39 pm39 an39 cd39 ct39), sl39⟩)
    (e39 : PySem.W.codeIn K cd39 ("law" : Str) = true)
    (k39 : PySem.W.keepIn K (.ref f39) = true)
    (a40 : PySem.W.findIn K (.ref C0) ("__init__" : Str) = some (some (.ref f40)))
    (i40 : PySem.W.isFn K (.ref f40) = true)
    (l40 : K.lookup f40 = some ⟨oc40, od40, .func (PySem.W.fnOf ("__init__" : Str) ("System.__init__" : Str) (defArgs (inClass (top 26) 0)) (defBody (inClass (top 26) 0)) (defScope (inClass (top 26) 0)) .none kV40 dc40 pm40 an40 cd40 ct40), sl40⟩)
    (e40 : PySem.W.codeIn K cd40 ("System.__init__" : Str) = true)
    (k40 : PySem.W.keepIn K (.ref f40) = true)
    (a41 : PySem.W.findIn K (.ref C0) ("cells" : Str) = some (some (.ref f41)))
    (i41 : PySem.W.isFn K (.ref f41) = true)
    (l41 : K.lookup f41 = some ⟨oc41, od41, .func (PySem.W.fnOf ("cells" : Str) ("System.cells" : Str) (defArgs (inClass (top 26) 1)) (defBody (inClass (top 26) 1)) (defScope (inClass (top 26) 1)) .none kV41 dc41 pm41 an41 cd41 ct41), sl41⟩)
    (e41 : PySem.W.codeIn K cd41 ("System.cells" : Str) = true)
    (k41 : PySem.W.keepIn K (.ref f41) = true)
    (a42 : PySem.W.findIn K (.ref C0) ("ins" : Str) = some (some (.ref f42)))
    (i42 : PySem.W.isFn K (.ref f42) = true)
    (l42 : K.lookup f42 = some ⟨oc42, od42, .func (PySem.W.fnOf ("ins" : Str) ("System.ins" : Str) (defArgs (inClass (top 26) 2)) (defBody (inClass (top 26) 2)) (defScope (inClass (top 26) 2)) .none kV42 dc42 pm42 an42 cd42 ct42), sl42⟩)
    (e42 : PySem.W.codeIn K cd42 ("System.ins" : Str) = true)
    (k42 : PySem.W.keepIn K (.ref f42) = true)
    (a43 : PySem.W.findIn K (.ref C0) ("outs" : Str) = some (some (.ref f43)))
    (i43 : PySem.W.isFn K (.ref f43) = true)
    (l43 : K.lookup f43 = some ⟨oc43, od43, .func (PySem.W.fnOf ("outs" : Str) ("System.outs" : Str) (defArgs (inClass (top 26) 3)) (defBody (inClass (top 26) 3)) (defScope (inClass (top 26) 3)) .none kV43 dc43 pm43 an43 cd43 ct43), sl43⟩)
    (e43 : PySem.W.codeIn K cd43 ("System.outs" : Str) = true)
    (k43 : PySem.W.keepIn K (.ref f43) = true)
    (a44 : PySem.W.findIn K (.ref C0) ("tables" : Str) = some (some (.ref f44)))
    (i44 : PySem.W.isFn K (.ref f44) = true)
    (l44 : K.lookup f44 = some ⟨oc44, od44, .func (PySem.W.fnOf ("tables" : Str) ("System.tables" : Str) (defArgs (inClass (top 26) 4)) (defBody (inClass (top 26) 4)) (defScope (inClass (top 26) 4)) .none kV44 dc44 pm44 an44 cd44 ct44), sl44⟩)
    (e44 : PySem.W.codeIn K cd44 ("System.tables" : Str) = true)
    (k44 : PySem.W.keepIn K (.ref f44) = true)
    (a45 : PySem.W.findIn K (.ref C0) ("told" : Str) = some (some (.ref f45)))
    (i45 : PySem.W.isFn K (.ref f45) = true)
    (l45 : K.lookup f45 = some ⟨oc45, od45, .func (PySem.W.fnOf ("told" : Str) ("System.told" : Str) (defArgs (inClass (top 26) 5)) (defBody (inClass (top 26) 5)) (defScope (inClass (top 26) 5)) .none kV45 dc45 pm45 an45 cd45 ct45), sl45⟩)
    (e45 : PySem.W.codeIn K cd45 ("System.told" : Str) = true)
    (k45 : PySem.W.keepIn K (.ref f45) = true)
    (cg0 : PySem.W.nsIn K mainGlobals ("NOUGHT" : Str) = some (some (.ref G0)))
    (ch0 : K.lookup G0 = some ⟨.type "tuple", dG0, .seq #[.int (0) ta0, .int (1) tb0] nG0, sG0⟩)
    (cg1 : PySem.W.nsIn K mainGlobals ("MOST_CELLS" : Str) = some (some (.int (8) ta1)))
    (z_len : PySem.W.nsIn K mainGlobals ("len" : Str) = some none)
    (z_abs : PySem.W.nsIn K mainGlobals ("abs" : Str) = some none)
    (z_min : PySem.W.nsIn K mainGlobals ("min" : Str) = some none)
    (z_max : PySem.W.nsIn K mainGlobals ("max" : Str) = some none)
    (z_int : PySem.W.nsIn K mainGlobals ("int" : Str) = some none)
    (z_str : PySem.W.nsIn K mainGlobals ("str" : Str) = some none)
    (z_list : PySem.W.nsIn K mainGlobals ("list" : Str) = some none)
    (z_tuple : PySem.W.nsIn K mainGlobals ("tuple" : Str) = some none)
    (z_divmod : PySem.W.nsIn K mainGlobals ("divmod" : Str) = some none)
    (z_any : PySem.W.nsIn K mainGlobals ("any" : Str) = some none)
    (z_sum : PySem.W.nsIn K mainGlobals ("sum" : Str) = some none)
    (z_isinstance : PySem.W.nsIn K mainGlobals ("isinstance" : Str) = some none)
    (z_range : PySem.W.nsIn K mainGlobals ("range" : Str) = some none)
    (z_zip : PySem.W.nsIn K mainGlobals ("zip" : Str) = some none)
    (z_enumerate : PySem.W.nsIn K mainGlobals ("enumerate" : Str) = some none)
    (z_reversed : PySem.W.nsIn K mainGlobals ("reversed" : Str) = some none)
    (z_bool : PySem.W.nsIn K mainGlobals ("bool" : Str) = some none)
    (z_dict : PySem.W.nsIn K mainGlobals ("dict" : Str) = some none) :
    ∃ fd : FuncData, (∀ (s : Shared) (v : Value), BindsTo s fd ⟨[v], []⟩ [(("_law_script" : Str), v)]) ∧ ∀ base : Heap, K.In base → base.Ns mainGlobals mg → FnOk l.prog w K mg base (L2.CX l.prog w) 41 fa fd [("_law_script" : Str)] (spLaw K) := by
  have e := hfa.symm.trans (PySem.W.mg_of X G a39)
  have e2 := (Value.ref.inj (Option.some.inj e)).symm
  subst e2
  have F0 := fun_mk (st := (top 0)) l0 e0 k0
  have b0 := F0.binds (ps := [("k" : Str)]) fun _ _ _ _ _ _ us hl => match us, hl with | [_], _ => rfl
  have F1 := fun_mk (st := (top 8)) l1 e1 k1
  have b1 := F1.binds (ps := [("thing" : Str)]) fun _ _ _ _ _ _ us hl => match us, hl with | [_], _ => rfl
  have F2 := fun_mk (st := (top 9)) l2 e2 k2
  have b2 := F2.binds (ps := [("one" : Str), ("other" : Str)]) fun _ _ _ _ _ _ us hl => match us, hl with | [_, _], _ => rfl
  have F3 := fun_mk (st := (top 10)) l3 e3 k3
  have b3 := F3.binds (ps := [("thing" : Str)]) fun _ _ _ _ _ _ us hl => match us, hl with | [_], _ => rfl
  have F4 := fun_mk (st := (top 11)) l4 e4 k4
  have b4 := F4.binds (ps := [("top" : Str), ("bottom" : Str)]) fun _ _ _ _ _ _ us hl => match us, hl with | [_, _], _ => rfl
  have F5 := fun_mk (st := (top 12)) l5 e5 k5
  have b5 := F5.binds (ps := [("one" : Str), ("other" : Str)]) fun _ _ _ _ _ _ us hl => match us, hl with | [_, _], _ => rfl
  have F6 := fun_mk (st := (top 13)) l6 e6 k6
  have b6 := F6.binds (ps := [("one" : Str), ("other" : Str)]) fun _ _ _ _ _ _ us hl => match us, hl with | [_, _], _ => rfl
  have F7 := fun_mk (st := (top 15)) l7 e7 k7
  have b7 := F7.binds (ps := [("thing" : Str), ("many" : Str)]) fun _ _ _ _ _ _ us hl => match us, hl with | [_, _], _ => rfl
  have F8 := fun_mk (st := (top 16)) l8 e8 k8
  have b8 := F8.binds (ps := [("thing" : Str), ("many" : Str), ("wide" : Str)]) fun _ _ _ _ _ _ us hl => match us, hl with | [_, _, _], _ => rfl
  have F9 := fun_mk (st := (top 17)) l9 e9 k9
  have b9 := F9.binds (ps := [("one" : Str), ("other" : Str)]) fun _ _ _ _ _ _ us hl => match us, hl with | [_, _], _ => rfl
  have F10 := fun_mk (st := (top 18)) l10 e10 k10
  have b10 := F10.binds (ps := [("many" : Str), ("wide" : Str)]) fun _ _ _ _ _ _ us hl => match us, hl with | [_, _], _ => rfl
  have F11 := fun_mk (st := (top 19)) l11 e11 k11
  have b11 := F11.binds (ps := [("table" : Str), ("wide" : Str)]) fun _ _ _ _ _ _ us hl => match us, hl with | [_, _], _ => rfl
  have F12 := fun_mk (st := (top 20)) l12 e12 k12
  have b12 := F12.binds (ps := [("one" : Str), ("other" : Str), ("wide" : Str)]) fun _ _ _ _ _ _ us hl => match us, hl with | [_, _, _], _ => rfl
  have F13 := fun_mk (st := (top 21)) l13 e13 k13
  have b13 := F13.binds (ps := [("one" : Str), ("other" : Str)]) fun _ _ _ _ _ _ us hl => match us, hl with | [_, _], _ => rfl
  have F14 := fun_mk (st := (top 24)) l14 e14 k14
  have b14 := F14.binds (ps := [("table" : Str)]) fun _ _ _ _ _ _ us hl => match us, hl with | [_], _ => rfl
  have F15 := fun_mk (st := (top 25)) l15 e15 k15
  have b15 := F15.binds (ps := [("move" : Str), ("push" : Str), ("look" : Str), ("through" : Str)]) fun _ _ _ _ _ _ us hl => match us, hl with | [_, _, _, _], _ => rfl
  have F16 := fun_mk (st := (top 28)) l16 e16 k16
  have b16 := F16.binds (ps := [("one" : Str), ("other" : Str)]) fun _ _ _ _ _ _ us hl => match us, hl with | [_, _], _ => rfl
  have F17 := fun_mk (st := (top 29)) l17 e17 k17
  have b17 := F17.binds (ps := [("one" : Str), ("other" : Str)]) fun _ _ _ _ _ _ us hl => match us, hl with | [_, _], _ => rfl
  have F18 := fun_mk (st := (top 30)) l18 e18 k18
  have b18 := F18.binds (ps := [("one" : Str), ("other" : Str)]) fun _ _ _ _ _ _ us hl => match us, hl with | [_, _], _ => rfl
  have F19 := fun_mk (st := (top 32)) l19 e19 k19
  have b19 := F19.binds (ps := [("_law_script" : Str), ("_law_k" : Str)]) fun _ _ _ _ _ _ us hl => match us, hl with | [_, _], _ => rfl
  have F20 := fun_mk (st := (top 33)) l20 e20 k20
  have b20 := F20.binds (ps := [("_law_cell_here" : Str), ("_law_k" : Str)]) fun _ _ _ _ _ _ us hl => match us, hl with | [_, _], _ => rfl
  have F21 := fun_mk (st := (top 34)) l21 e21 k21
  have b21 := F21.binds (ps := [("_law_one" : Str), ("_law_other" : Str)]) fun _ _ _ _ _ _ us hl => match us, hl with | [_, _], _ => rfl
  have F22 := fun_mk (st := (top 35)) l22 e22 k22
  have b22 := F22.binds (ps := [("_law_top" : Str), ("_law_bottom" : Str)]) fun _ _ _ _ _ _ us hl => match us, hl with | [_, _], _ => rfl
  have F23 := fun_mk (st := (top 36)) l23 e23 k23
  have b23 := F23.binds (ps := [("_law_cell_here" : Str), ("_law_many" : Str)]) fun _ _ _ _ _ _ us hl => match us, hl with | [_, _], _ => rfl
  have F24 := fun_mk (st := (top 37)) l24 e24 k24
  have b24 := F24.binds (ps := [("_law_numbers_here" : Str), ("_law_many" : Str), ("_law_wide" : Str)]) fun _ _ _ _ _ _ us hl => match us, hl with | [_, _, _], _ => rfl
  have F25 := fun_mk (st := (top 38)) l25 e25 k25
  have b25 := F25.binds (ps := [("_law_cell_here" : Str), ("_law_many" : Str), ("_law_ins" : Str), ("_law_outs" : Str)]) fun _ _ _ _ _ _ us hl => match us, hl with | [_, _, _, _], _ => rfl
  have F26 := fun_mk (st := (top 39)) l26 e26 k26
  have b26 := F26.binds (ps := [("_law_one" : Str), ("_law_other" : Str)]) fun _ _ _ _ _ _ us hl => match us, hl with | [_, _], _ => rfl
  have F27 := fun_mk (st := (top 40)) l27 e27 k27
  have b27 := F27.binds (ps := [("_law_row" : Str), ("_law_other" : Str)]) fun _ _ _ _ _ _ us hl => match us, hl with | [_, _], _ => rfl
  have F28 := fun_mk (st := (top 41)) l28 e28 k28
  have b28 := F28.binds (ps := [("_law_table" : Str), ("_law_row" : Str)]) fun _ _ _ _ _ _ us hl => match us, hl with | [_, _], _ => rfl
  have F29 := fun_mk (st := (top 42)) l29 e29 k29
  have b29 := F29.binds (ps := [("_law_one" : Str), ("_law_other" : Str)]) fun _ _ _ _ _ _ us hl => match us, hl with | [_, _], _ => rfl
  have F30 := fun_mk (st := (top 43)) l30 e30 k30
  have b30 := F30.binds (ps := [("_law_four_here" : Str), ("_law_state" : Str), ("_law_given" : Str)]) fun _ _ _ _ _ _ us hl => match us, hl with | [_, _, _], _ => rfl
  have F31 := fun_mk (st := (top 44)) l31 e31 k31
  have b31 := F31.binds (ps := [("_law_many" : Str)]) fun _ _ _ _ _ _ us hl => match us, hl with | [_], _ => rfl
  have F32 := fun_mk (st := (top 45)) l32 e32 k32
  have b32 := F32.binds (ps := [("_law_many" : Str), ("_law_ins" : Str)]) fun _ _ _ _ _ _ us hl => match us, hl with | [_, _], _ => rfl
  have F33 := fun_mk (st := (top 46)) l33 e33 k33
  have b33 := F33.binds (ps := [("_law_cell_here" : Str), ("_law_large" : Str)]) fun _ _ _ _ _ _ us hl => match us, hl with | [_, _], _ => rfl
  have F34 := fun_mk (st := (top 47)) l34 e34 k34
  have b34 := F34.binds (ps := [("_law_four_here" : Str)]) fun _ _ _ _ _ _ us hl => match us, hl with | [_], _ => rfl
  have F35 := fun_mk (st := (top 48)) l35 e35 k35
  have b35 := F35.binds (ps := [("_law_way" : Str), ("_law_one" : Str), ("_law_other" : Str)]) fun _ _ _ _ _ _ us hl => match us, hl with | [_, _, _], _ => rfl
  have F36 := fun_mk (st := (top 49)) l36 e36 k36
  have b36 := F36.binds (ps := [("_law_way" : Str), ("_law_one" : Str), ("_law_other" : Str), ("_law_state" : Str), ("_law_given" : Str)]) fun _ _ _ _ _ _ us hl => match us, hl with | [_, _, _, _, _], _ => rfl
  have F37 := fun_mk (st := (top 50)) l37 e37 k37
  have b37 := F37.binds (ps := [("_law_way" : Str), ("_law_found" : Str), ("_law_one" : Str), ("_law_other" : Str)]) fun _ _ _ _ _ _ us hl => match us, hl with | [_, _, _, _], _ => rfl
  have F38 := fun_mk (st := (top 51)) l38 e38 k38
  have b38 := F38.binds (ps := [("_law_systems" : Str), ("_law_shapes" : Str), ("_law_fours" : Str)]) fun _ _ _ _ _ _ us hl => match us, hl with | [_, _, _], _ => rfl
  have F39 := fun_mk (st := (top 52)) l39 e39 k39
  have b39 := F39.binds (ps := [("_law_script" : Str)]) fun _ _ _ _ _ _ us hl => match us, hl with | [_], _ => rfl
  have F40 := fun_mk (st := (inClass (top 26) 0)) l40 e40 k40
  have b40 := F40.binds (ps := [("self" : Str), ("move" : Str), ("push" : Str), ("look" : Str), ("through" : Str)]) fun _ _ _ _ _ _ us hl => match us, hl with | [_, _, _, _, _], _ => rfl
  have F41 := fun_mk (st := (inClass (top 26) 1)) l41 e41 k41
  have b41 := F41.binds (ps := [("self" : Str)]) fun _ _ _ _ _ _ us hl => match us, hl with | [_], _ => rfl
  have F42 := fun_mk (st := (inClass (top 26) 2)) l42 e42 k42
  have b42 := F42.binds (ps := [("self" : Str)]) fun _ _ _ _ _ _ us hl => match us, hl with | [_], _ => rfl
  have F43 := fun_mk (st := (inClass (top 26) 3)) l43 e43 k43
  have b43 := F43.binds (ps := [("self" : Str)]) fun _ _ _ _ _ _ us hl => match us, hl with | [_], _ => rfl
  have F44 := fun_mk (st := (inClass (top 26) 4)) l44 e44 k44
  have b44 := F44.binds (ps := [("self" : Str)]) fun _ _ _ _ _ _ us hl => match us, hl with | [_], _ => rfl
  have F45 := fun_mk (st := (inClass (top 26) 5)) l45 e45 k45
  have b45 := F45.binds (ps := [("self" : Str)]) fun _ _ _ _ _ _ us hl => match us, hl with | [_], _ => rfl
  have D : DFs T K [f0, f1, f2, f3, f4, f5, f6, f7, f8, f9, f10, f11, f12, f13, f14, f15, f16, f17, f18, f19, f20, f21, f22, f23, f24, f25, f26, f27, f28, f29, f30, f31, f32, f33, f34, f35, f36, f37, f38, f39, f40, f41, f42, f43, f44, f45] fns := .cons ⟨_, _, _, _, n0, _, F0, sc0, b0, rfl, rfl, ok0⟩ <| .cons ⟨_, _, _, _, n1, _, F1, sc1, b1, rfl, rfl, ok1⟩ <| .cons ⟨_, _, _, _, n2, _, F2, sc2, b2, rfl, rfl, ok2⟩ <| .cons ⟨_, _, _, _, n3, _, F3, sc3, b3, rfl, rfl, ok3⟩ <| .cons ⟨_, _, _, _, n4, _, F4, sc4, b4, rfl, rfl, ok4⟩ <| .cons ⟨_, _, _, _, n5, _, F5, sc5, b5, rfl, rfl, ok5⟩ <| .cons ⟨_, _, _, _, n6, _, F6, sc6, b6, rfl, rfl, ok6⟩ <| .cons ⟨_, _, _, _, n7, _, F7, sc7, b7, rfl, rfl, ok7⟩ <| .cons ⟨_, _, _, _, n8, _, F8, sc8, b8, rfl, rfl, ok8⟩ <| .cons ⟨_, _, _, _, n9, _, F9, sc9, b9, rfl, rfl, ok9⟩ <| .cons ⟨_, _, _, _, n10, _, F10, sc10, b10, rfl, rfl, ok10⟩ <| .cons ⟨_, _, _, _, n11, _, F11, sc11, b11, rfl, rfl, ok11⟩ <| .cons ⟨_, _, _, _, n12, _, F12, sc12, b12, rfl, rfl, ok12⟩ <| .cons ⟨_, _, _, _, n13, _, F13, sc13, b13, rfl, rfl, ok13⟩ <| .cons ⟨_, _, _, _, n14, _, F14, sc14, b14, rfl, rfl, ok14⟩ <| .cons ⟨_, _, _, _, n15, _, F15, sc15, b15, rfl, rfl, ok15⟩ <| .cons ⟨_, _, _, _, n16, _, F16, sc16, b16, rfl, rfl, ok16⟩ <| .cons ⟨_, _, _, _, n17, _, F17, sc17, b17, rfl, rfl, ok17⟩ <| .cons ⟨_, _, _, _, n18, _, F18, sc18, b18, rfl, rfl, ok18⟩ <| .cons ⟨_, _, _, _, n19, _, F19, sc19, b19, rfl, rfl, ok19⟩ <| .cons ⟨_, _, _, _, n20, _, F20, sc20, b20, rfl, rfl, ok20⟩ <| .cons ⟨_, _, _, _, n21, _, F21, sc21, b21, rfl, rfl, ok21⟩ <| .cons ⟨_, _, _, _, n22, _, F22, sc22, b22, rfl, rfl, ok22⟩ <| .cons ⟨_, _, _, _, n23, _, F23, sc23, b23, rfl, rfl, ok23⟩ <| .cons ⟨_, _, _, _, n24, _, F24, sc24, b24, rfl, rfl, ok24⟩ <| .cons ⟨_, _, _, _, n25, _, F25, sc25, b25, rfl, rfl, ok25⟩ <| .cons ⟨_, _, _, _, n26, _, F26, sc26, b26, rfl, rfl, ok26⟩ <| .cons ⟨_, _, _, _, n27, _, F27, sc27, b27, rfl, rfl, ok27⟩ <| .cons ⟨_, _, _, _, n28, _, F28, sc28, b28, rfl, rfl, ok28⟩ <| .cons ⟨_, _, _, _, n29, _, F29, sc29, b29, rfl, rfl, ok29⟩ <| .cons ⟨_, _, _, _, n30, _, F30, sc30, b30, rfl, rfl, ok30⟩ <| .cons ⟨_, _, _, _, n31, _, F31, sc31, b31, rfl, rfl, ok31⟩ <| .cons ⟨_, _, _, _, n32, _, F32, sc32, b32, rfl, rfl, ok32⟩ <| .cons ⟨_, _, _, _, n33, _, F33, sc33, b33, rfl, rfl, ok33⟩ <| .cons ⟨_, _, _, _, n34, _, F34, sc34, b34, rfl, rfl, ok34⟩ <| .cons ⟨_, _, _, _, n35, _, F35, sc35, b35, rfl, rfl, ok35⟩ <| .cons ⟨_, _, _, _, n36, _, F36, sc36, b36, rfl, rfl, ok36⟩ <| .cons ⟨_, _, _, _, n37, _, F37, sc37, b37, rfl, rfl, ok37⟩ <| .cons ⟨_, _, _, _, n38, _, F38, sc38, b38, rfl, rfl, ok38⟩ <| .cons ⟨_, _, _, _, n39, _, F39, sc39, b39, rfl, rfl, ok39⟩ <| .cons ⟨_, _, _, _, n40, _, F40, sc40, b40, rfl, rfl, ok40⟩ <| .cons ⟨_, _, _, _, n41, _, F41, sc41, b41, rfl, rfl, ok41⟩ <| .cons ⟨_, _, _, _, n42, _, F42, sc42, b42, rfl, rfl, ok42⟩ <| .cons ⟨_, _, _, _, n43, _, F43, sc43, b43, rfl, rfl, ok43⟩ <| .cons ⟨_, _, _, _, n44, _, F44, sc44, b44, rfl, rfl, ok44⟩ <| .cons ⟨_, _, _, _, n45, _, F45, sc45, b45, rfl, rfl, ok45⟩ <| .nil
  have M : MGs mg [("_wall" : Str), ("is_whole" : Str), ("divisor" : Str), ("is_fraction" : Str), ("frac" : Str), ("plus" : Str), ("times" : Str), ("is_row" : Str), ("is_table" : Str), ("weighed" : Str), ("noughts" : Str), ("turned" : Str), ("product" : Str), ("widened" : Str), ("rows_anew" : Str), ("are_of_one" : Str), ("need_room" : Str), ("in_row" : Str), ("beside" : Str), ("_law_cell" : Str), ("_law_mixed" : Str), ("_law_divisor" : Str), ("_law_frac" : Str), ("_law_numbers" : Str), ("_law_rows" : Str), ("_law_four" : Str), ("_law_plus" : Str), ("_law_weighed" : Str), ("_law_led" : Str), ("_law_added" : Str), ("_law_turn" : Str), ("_law_units" : Str), ("_law_cases" : Str), ("_law_shape" : Str), ("_law_made" : Str), ("_law_word" : Str), ("_law_both" : Str), ("_law_good" : Str), ("_law_pair" : Str), ("law" : Str)] [f0, f1, f2, f3, f4, f5, f6, f7, f8, f9, f10, f11, f12, f13, f14, f15, f16, f17, f18, f19, f20, f21, f22, f23, f24, f25, f26, f27, f28, f29, f30, f31, f32, f33, f34, f35, f36, f37, f38, f39] := .cons (PySem.W.mg_of X G a0) <| .cons (PySem.W.mg_of X G a1) <| .cons (PySem.W.mg_of X G a2) <| .cons (PySem.W.mg_of X G a3) <| .cons (PySem.W.mg_of X G a4) <| .cons (PySem.W.mg_of X G a5) <| .cons (PySem.W.mg_of X G a6) <| .cons (PySem.W.mg_of X G a7) <| .cons (PySem.W.mg_of X G a8) <| .cons (PySem.W.mg_of X G a9) <| .cons (PySem.W.mg_of X G a10) <| .cons (PySem.W.mg_of X G a11) <| .cons (PySem.W.mg_of X G a12) <| .cons (PySem.W.mg_of X G a13) <| .cons (PySem.W.mg_of X G a14) <| .cons (PySem.W.mg_of X G a15) <| .cons (PySem.W.mg_of X G a16) <| .cons (PySem.W.mg_of X G a17) <| .cons (PySem.W.mg_of X G a18) <| .cons (PySem.W.mg_of X G a19) <| .cons (PySem.W.mg_of X G a20) <| .cons (PySem.W.mg_of X G a21) <| .cons (PySem.W.mg_of X G a22) <| .cons (PySem.W.mg_of X G a23) <| .cons (PySem.W.mg_of X G a24) <| .cons (PySem.W.mg_of X G a25) <| .cons (PySem.W.mg_of X G a26) <| .cons (PySem.W.mg_of X G a27) <| .cons (PySem.W.mg_of X G a28) <| .cons (PySem.W.mg_of X G a29) <| .cons (PySem.W.mg_of X G a30) <| .cons (PySem.W.mg_of X G a31) <| .cons (PySem.W.mg_of X G a32) <| .cons (PySem.W.mg_of X G a33) <| .cons (PySem.W.mg_of X G a34) <| .cons (PySem.W.mg_of X G a35) <| .cons (PySem.W.mg_of X G a36) <| .cons (PySem.W.mg_of X G a37) <| .cons (PySem.W.mg_of X G a38) <| .cons (PySem.W.mg_of X G a39) <| .nil
  have B : ∀ x ∈ bltNames, mg x = none := none_all (.cons (PySem.W.mg_none_of X G z_len) <| .cons (PySem.W.mg_none_of X G z_abs) <| .cons (PySem.W.mg_none_of X G z_min) <| .cons (PySem.W.mg_none_of X G z_max) <| .cons (PySem.W.mg_none_of X G z_int) <| .cons (PySem.W.mg_none_of X G z_str) <| .cons (PySem.W.mg_none_of X G z_list) <| .cons (PySem.W.mg_none_of X G z_tuple) <| .cons (PySem.W.mg_none_of X G z_divmod) <| .cons (PySem.W.mg_none_of X G z_any) <| .cons (PySem.W.mg_none_of X G z_sum) <| .cons (PySem.W.mg_none_of X G z_isinstance) <| .cons (PySem.W.mg_none_of X G z_range) <| .cons (PySem.W.mg_none_of X G z_zip) <| .cons (PySem.W.mg_none_of X G z_enumerate) <| .cons (PySem.W.mg_none_of X G z_reversed) <| .cons (PySem.W.mg_none_of X G z_bool) <| .cons (PySem.W.mg_none_of X G z_dict) <| .nil)
  have GS : Gs K mg [("NOUGHT" : Str), ("MOST_CELLS" : Str)] [.tup [.int 0, .int 1], .int (8)] := .cons (con2 (PySem.W.mg_of X G cg0) ch0) <| .cons (con1 (PySem.W.mg_of X G cg1)) <| .nil
  have K0 : CF K mg [f0, f1, f2, f3, f4, f5, f6, f7, f8, f9, f10, f11, f12, f13, f14, f15, f16, f17, f18, f19, f20, f21, f22, f23, f24, f25, f26, f27, f28, f29, f30, f31, f32, f33, f34, f35, f36, f37, f38, f39, f40, f41, f42, f43, f44, f45] [("four" : Str)] [("cells" : Str), ("ins" : Str), ("tables" : Str), ("outs" : Str)] true C0 ("System" : Str) kl0 := ⟨PySem.W.mg_of X G C0g, ⟨⟨C0p, C0d, C0o, C0s⟩, C0a, oG, oT, C0m, C0k⟩, NAs.all (.cons C0f_four <| .nil), ⟨_, rfl, .yes rfl ⟨a41, i41, k41⟩ <| .yes rfl ⟨a42, i42, k42⟩ <| .yes rfl ⟨a44, i44, k44⟩ <| .yes rfl ⟨a43, i43, k43⟩ <| .nil⟩, fun _ => ⟨40, f40, rfl, rfl, ⟨C0x, a40, i40, C0y⟩⟩, ty7 C0t0 C0t1 C0t2 C0t3 C0t4 C0t5 C0t6⟩
  have KS : CFs K mg [f0, f1, f2, f3, f4, f5, f6, f7, f8, f9, f10, f11, f12, f13, f14, f15, f16, f17, f18, f19, f20, f21, f22, f23, f24, f25, f26, f27, f28, f29, f30, f31, f32, f33, f34, f35, f36, f37, f38, f39, f40, f41, f42, f43, f44, f45] [("four" : Str)] [("cells" : Str), ("ins" : Str), ("tables" : Str), ("outs" : Str)] [true] [C0] [("System" : Str)] [kl0] := .cons K0 <| .nil
  have RS : KRows K [C0] [C0] [kl0] := .cons (.cons C0r0 <| .nil) rfl <| .nil
  have XS : XFs K mg [X0, X1, X2, X3] [("TooMany" : Str), ("NoFit" : Str), ("EchoError" : Str), ("NoTable" : Str)] := .cons (PySem.W.mg_of X G X0g) ⟨X0x, X0k, X0t, ⟨X0a, X0b, X0s, X0d, X0c, oG, oT, X0m⟩⟩ <| .cons (PySem.W.mg_of X G X1g) ⟨X1x, X1k, X1t, ⟨X1a, X1b, X1s, X1d, X1c, oG, oT, X1m⟩⟩ <| .cons (PySem.W.mg_of X G X2g) ⟨X2x, X2k, X2t, ⟨X2a, X2b, X2s, X2d, X2c, oG, oT, X2m⟩⟩ <| .cons (PySem.W.mg_of X G X3g) ⟨X3x, X3k, X3t, ⟨X3a, X3b, X3s, X3d, X3c, oG, oT, X3m⟩⟩ <| .nil
  have XR : XRows K [X0, X1, X2, X3] [X0, X1, X2, X3] [[true, false, true, false], [false, true, true, false], [false, false, true, false], [false, false, true, true]] := .cons (.cons X0u0 X0v0 <| .cons X0u1 X0v1 <| .cons X0u2 X0v2 <| .cons X0u3 X0v3 <| .nil) <| .cons (.cons X1u0 X1v0 <| .cons X1u1 X1v1 <| .cons X1u2 X1v2 <| .cons X1u3 X1v3 <| .nil) <| .cons (.cons X2u0 X2v0 <| .cons X2u1 X2v1 <| .cons X2u2 X2v2 <| .cons X2u3 X2v3 <| .nil) <| .cons (.cons X3u0 X3v0 <| .cons X3u1 X3v1 <| .cons X3u2 X3v2 <| .cons X3u3 X3v3 <| .nil) <| .nil
  have t : Tx T P (fun c => [C0][c]?) (fun f => [f0, f1, f2, f3, f4, f5, f6, f7, f8, f9, f10, f11, f12, f13, f14, f15, f16, f17, f18, f19, f20, f21, f22, f23, f24, f25, f26, f27, f28, f29, f30, f31, f32, f33, f34, f35, f36, f37, f38, f39, f40, f41, f42, f43, f44, f45][f]?) (fun c => [X0, X1, X2, X3][c]?) K mg := tx_cls (ls := [("four" : Str)]) (ms := [("cells" : Str), ("ins" : Str), ("tables" : Str), ("outs" : Str)]) D M B rfl rfl rfl (by decide) rfl (fun g w h => GS.at g w h) KS RS rfl rfl rfl rfl rfl (tabS_inj (by decide +kernel) (by decide +kernel)) (tab_no (by decide +kernel) (by decide +kernel)) ⟨rfl, rfl⟩ XS XR rfl rfl rfl
  exact ⟨_, fun s v => .of_eq rfl, fun base _ _ => law_ok t (d := d39) (f := 39) rfl rfl F39 sc39 rfl rfl rfl ok39 law_runs⟩
end Mx.K41
open PySem PySem.W PyProof.Rows in
set_option maxRecDepth 100000 in
set_option maxHeartbeats 0 in
theorem PySem.Challenge.cw_echohouse_k41_in_a_row_and_beside_holds : PySem.Challenge.rw_echohouse_k41_in_a_row_and_beside.Holds := by
  w_on; o_law; k_head; (case hw => w_witness2)
  k_fill
  refine Mx.walk_law (l := PySem.Challenge.rw_echohouse_k41_in_a_row_and_beside) (k := 41) (x := ("_law_script" : Str)) rfl rfl ⟨rfl, by decide, by decide⟩ (fun w h Y => PySem.W.kIn_of Y) ?F
  case F =>
    intro w mg fa h KX G hmg
    refine' Mx.K41.all_mk KX G hmg ?C0g ?C0p ?C0d ?C0o ?C0s ?C0a ?C0m ?C0k ?C0x ?C0y ?C0t0 ?C0t1 ?C0t2 ?C0t3 ?C0t4 ?C0t5 ?C0t6 ?C0f_four ?C0r0 ?X0g ?X0x ?X0k ?X0t ?X0a ?X0b ?X0s ?X0d ?X0c ?X0m ?X1g ?X1x ?X1k ?X1t ?X1a ?X1b ?X1s ?X1d ?X1c ?X1m ?X2g ?X2x ?X2k ?X2t ?X2a ?X2b ?X2s ?X2d ?X2c ?X2m ?X3g ?X3x ?X3k ?X3t ?X3a ?X3b ?X3s ?X3d ?X3c ?X3m ?X0u0 ?X0v0 ?X0u1 ?X0v1 ?X0u2 ?X0v2 ?X0u3 ?X0v3 ?X1u0 ?X1v0 ?X1u1 ?X1v1 ?X1u2 ?X1v2 ?X1u3 ?X1v3 ?X2u0 ?X2v0 ?X2u1 ?X2v1 ?X2u2 ?X2v2 ?X2u3 ?X2v3 ?X3u0 ?X3v0 ?X3u1 ?X3v1 ?X3u2 ?X3v2 ?X3u3 ?X3v3 ?oG ?oT ?a0 ?l0 ?e0 ?k0 ?a1 ?l1 ?e1 ?k1 ?a2 ?l2 ?e2 ?k2 ?a3 ?l3 ?e3 ?k3 ?a4 ?l4 ?e4 ?k4 ?a5 ?l5 ?e5 ?k5 ?a6 ?l6 ?e6 ?k6 ?a7 ?l7 ?e7 ?k7 ?a8 ?l8 ?e8 ?k8 ?a9 ?l9 ?e9 ?k9 ?a10 ?l10 ?e10 ?k10 ?a11 ?l11 ?e11 ?k11 ?a12 ?l12 ?e12 ?k12 ?a13 ?l13 ?e13 ?k13 ?a14 ?l14 ?e14 ?k14 ?a15 ?l15 ?e15 ?k15 ?a16 ?l16 ?e16 ?k16 ?a17 ?l17 ?e17 ?k17 ?a18 ?l18 ?e18 ?k18 ?a19 ?l19 ?e19 ?k19 ?a20 ?l20 ?e20 ?k20 ?a21 ?l21 ?e21 ?k21 ?a22 ?l22 ?e22 ?k22 ?a23 ?l23 ?e23 ?k23 ?a24 ?l24 ?e24 ?k24 ?a25 ?l25 ?e25 ?k25 ?a26 ?l26 ?e26 ?k26 ?a27 ?l27 ?e27 ?k27 ?a28 ?l28 ?e28 ?k28 ?a29 ?l29 ?e29 ?k29 ?a30 ?l30 ?e30 ?k30 ?a31 ?l31 ?e31 ?k31 ?a32 ?l32 ?e32 ?k32 ?a33 ?l33 ?e33 ?k33 ?a34 ?l34 ?e34 ?k34 ?a35 ?l35 ?e35 ?k35 ?a36 ?l36 ?e36 ?k36 ?a37 ?l37 ?e37 ?k37 ?a38 ?l38 ?e38 ?k38 ?a39 ?l39 ?e39 ?k39 ?a40 ?i40 ?l40 ?e40 ?k40 ?a41 ?i41 ?l41 ?e41 ?k41 ?a42 ?i42 ?l42 ?e42 ?k42 ?a43 ?i43 ?l43 ?e43 ?k43 ?a44 ?i44 ?l44 ?e44 ?k44 ?a45 ?i45 ?l45 ?e45 ?k45 ?cg0 ?ch0 ?cg1 ?z_len ?z_abs ?z_min ?z_max ?z_int ?z_str ?z_list ?z_tuple ?z_divmod ?z_any ?z_sum ?z_isinstance ?z_range ?z_zip ?z_enumerate ?z_reversed ?z_bool ?z_dict
    (case C0g => k_is)
    (case C0p => k_is)
    (case C0d => k_is)
    (case C0o => k_is)
    (case C0s => k_is)
    (case C0a => k_is)
    (case C0m => k_is)
    (case C0k => kit_is)
    (case C0x => k_is)
    (case C0y => k_is)
    (case C0t0 => kit_is)
    (case C0t1 => kit_is)
    (case C0t2 => kit_is)
    (case C0t3 => kit_is)
    (case C0t4 => kit_is)
    (case C0t5 => kit_is)
    (case C0t6 => kit_is)
    (case C0f_four => k_is)
    (case C0r0 => kit_is)
    (case X0g => k_is)
    (case X0x => k_exc)
    (case X0k => k_is)
    (case X0t => k_is)
    (case X0a => k_is)
    (case X0b => k_is)
    (case X0s => k_is)
    (case X0d => k_is)
    (case X0c => k_is)
    (case X0m => k_is)
    (case X1g => k_is)
    (case X1x => k_exc)
    (case X1k => k_is)
    (case X1t => k_is)
    (case X1a => k_is)
    (case X1b => k_is)
    (case X1s => k_is)
    (case X1d => k_is)
    (case X1c => k_is)
    (case X1m => k_is)
    (case X2g => k_is)
    (case X2x => k_exc)
    (case X2k => k_is)
    (case X2t => k_is)
    (case X2a => k_is)
    (case X2b => k_is)
    (case X2s => k_is)
    (case X2d => k_is)
    (case X2c => k_is)
    (case X2m => k_is)
    (case X3g => k_is)
    (case X3x => k_exc)
    (case X3k => k_is)
    (case X3t => k_is)
    (case X3a => k_is)
    (case X3b => k_is)
    (case X3s => k_is)
    (case X3d => k_is)
    (case X3c => k_is)
    (case X3m => k_is)
    (case X0u0 => k_is)
    (case X0v0 => kit_is)
    (case X0u1 => k_is)
    (case X0v1 => kit_is)
    (case X0u2 => k_is)
    (case X0v2 => kit_is)
    (case X0u3 => k_is)
    (case X0v3 => kit_is)
    (case X1u0 => k_is)
    (case X1v0 => kit_is)
    (case X1u1 => k_is)
    (case X1v1 => kit_is)
    (case X1u2 => k_is)
    (case X1v2 => kit_is)
    (case X1u3 => k_is)
    (case X1v3 => kit_is)
    (case X2u0 => k_is)
    (case X2v0 => kit_is)
    (case X2u1 => k_is)
    (case X2v1 => kit_is)
    (case X2u2 => k_is)
    (case X2v2 => kit_is)
    (case X2u3 => k_is)
    (case X2v3 => kit_is)
    (case X3u0 => k_is)
    (case X3v0 => kit_is)
    (case X3u1 => k_is)
    (case X3v1 => kit_is)
    (case X3u2 => k_is)
    (case X3v2 => kit_is)
    (case X3u3 => k_is)
    (case X3v3 => kit_is)
    (case oG => k_is)
    (case oT => k_is)
    (case a0 => k_is)
    (case l0 => k_is)
    (case e0 => k_is)
    (case k0 => k_is)
    (case a1 => k_is)
    (case l1 => k_is)
    (case e1 => k_is)
    (case k1 => k_is)
    (case a2 => k_is)
    (case l2 => k_is)
    (case e2 => k_is)
    (case k2 => k_is)
    (case a3 => k_is)
    (case l3 => k_is)
    (case e3 => k_is)
    (case k3 => k_is)
    (case a4 => k_is)
    (case l4 => k_is)
    (case e4 => k_is)
    (case k4 => k_is)
    (case a5 => k_is)
    (case l5 => k_is)
    (case e5 => k_is)
    (case k5 => k_is)
    (case a6 => k_is)
    (case l6 => k_is)
    (case e6 => k_is)
    (case k6 => k_is)
    (case a7 => k_is)
    (case l7 => k_is)
    (case e7 => k_is)
    (case k7 => k_is)
    (case a8 => k_is)
    (case l8 => k_is)
    (case e8 => k_is)
    (case k8 => k_is)
    (case a9 => k_is)
    (case l9 => k_is)
    (case e9 => k_is)
    (case k9 => k_is)
    (case a10 => k_is)
    (case l10 => k_is)
    (case e10 => k_is)
    (case k10 => k_is)
    (case a11 => k_is)
    (case l11 => k_is)
    (case e11 => k_is)
    (case k11 => k_is)
    (case a12 => k_is)
    (case l12 => k_is)
    (case e12 => k_is)
    (case k12 => k_is)
    (case a13 => k_is)
    (case l13 => k_is)
    (case e13 => k_is)
    (case k13 => k_is)
    (case a14 => k_is)
    (case l14 => k_is)
    (case e14 => k_is)
    (case k14 => k_is)
    (case a15 => k_is)
    (case l15 => k_is)
    (case e15 => k_is)
    (case k15 => k_is)
    (case a16 => k_is)
    (case l16 => k_is)
    (case e16 => k_is)
    (case k16 => k_is)
    (case a17 => k_is)
    (case l17 => k_is)
    (case e17 => k_is)
    (case k17 => k_is)
    (case a18 => k_is)
    (case l18 => k_is)
    (case e18 => k_is)
    (case k18 => k_is)
    (case a19 => k_is)
    (case l19 => k_is)
    (case e19 => k_is)
    (case k19 => k_is)
    (case a20 => k_is)
    (case l20 => k_is)
    (case e20 => k_is)
    (case k20 => k_is)
    (case a21 => k_is)
    (case l21 => k_is)
    (case e21 => k_is)
    (case k21 => k_is)
    (case a22 => k_is)
    (case l22 => k_is)
    (case e22 => k_is)
    (case k22 => k_is)
    (case a23 => k_is)
    (case l23 => k_is)
    (case e23 => k_is)
    (case k23 => k_is)
    (case a24 => k_is)
    (case l24 => k_is)
    (case e24 => k_is)
    (case k24 => k_is)
    (case a25 => k_is)
    (case l25 => k_is)
    (case e25 => k_is)
    (case k25 => k_is)
    (case a26 => k_is)
    (case l26 => k_is)
    (case e26 => k_is)
    (case k26 => k_is)
    (case a27 => k_is)
    (case l27 => k_is)
    (case e27 => k_is)
    (case k27 => k_is)
    (case a28 => k_is)
    (case l28 => k_is)
    (case e28 => k_is)
    (case k28 => k_is)
    (case a29 => k_is)
    (case l29 => k_is)
    (case e29 => k_is)
    (case k29 => k_is)
    (case a30 => k_is)
    (case l30 => k_is)
    (case e30 => k_is)
    (case k30 => k_is)
    (case a31 => k_is)
    (case l31 => k_is)
    (case e31 => k_is)
    (case k31 => k_is)
    (case a32 => k_is)
    (case l32 => k_is)
    (case e32 => k_is)
    (case k32 => k_is)
    (case a33 => k_is)
    (case l33 => k_is)
    (case e33 => k_is)
    (case k33 => k_is)
    (case a34 => k_is)
    (case l34 => k_is)
    (case e34 => k_is)
    (case k34 => k_is)
    (case a35 => k_is)
    (case l35 => k_is)
    (case e35 => k_is)
    (case k35 => k_is)
    (case a36 => k_is)
    (case l36 => k_is)
    (case e36 => k_is)
    (case k36 => k_is)
    (case a37 => k_is)
    (case l37 => k_is)
    (case e37 => k_is)
    (case k37 => k_is)
    (case a38 => k_is)
    (case l38 => k_is)
    (case e38 => k_is)
    (case k38 => k_is)
    (case a39 => k_is)
    (case l39 => k_is)
    (case e39 => k_is)
    (case k39 => k_is)
    (case a40 => k_is)
    (case i40 => k_is)
    (case l40 => k_is)
    (case e40 => k_is)
    (case k40 => k_is)
    (case a41 => k_is)
    (case i41 => k_is)
    (case l41 => k_is)
    (case e41 => k_is)
    (case k41 => k_is)
    (case a42 => k_is)
    (case i42 => k_is)
    (case l42 => k_is)
    (case e42 => k_is)
    (case k42 => k_is)
    (case a43 => k_is)
    (case i43 => k_is)
    (case l43 => k_is)
    (case e43 => k_is)
    (case k43 => k_is)
    (case a44 => k_is)
    (case i44 => k_is)
    (case l44 => k_is)
    (case e44 => k_is)
    (case k44 => k_is)
    (case a45 => k_is)
    (case i45 => k_is)
    (case l45 => k_is)
    (case e45 => k_is)
    (case k45 => k_is)
    (case cg0 => k_is)
    (case ch0 => k_is)
    (case cg1 => k_is)
    (case z_len => k_is)
    (case z_abs => k_is)
    (case z_min => k_is)
    (case z_max => k_is)
    (case z_int => k_is)
    (case z_str => k_is)
    (case z_list => k_is)
    (case z_tuple => k_is)
    (case z_divmod => k_is)
    (case z_any => k_is)
    (case z_sum => k_is)
    (case z_isinstance => k_is)
    (case z_range => k_is)
    (case z_zip => k_is)
    (case z_enumerate => k_is)
    (case z_reversed => k_is)
    (case z_bool => k_is)
    (case z_dict => k_is)
#print axioms PySem.Challenge.cw_echohouse_k41_in_a_row_and_beside_holds
